import PyProof.Rows.All
import Wide.All
import OpenK.AllK
import Wide.FinOn
import HandS.ForMost
import HandS.Wide
import HandS.TupAny
import HandS.TupMul
import KE.SortData
import KE.SortCalls
import HandS.Zip
import HandS.Style
import HandS.Deep
import HandS.SortInts
import HandS.IsInst
import HandS.Rev
import KE.DataIsa
import KE.GoesEnum
import KE.DataMinMax
import KE.GoesMore
import KE.GoesEnumKw
import KE.GoesZip
import HandS.WideMore
import HandS.Words
import HandS.Ends
import KE.KStrBytes
import PySem.Challenge.RW_restedhorses_k09_all_comings_to_a_beat
set_option Elab.async false
set_option linter.all false
set_option maxRecDepth 100000
set_option maxHeartbeats 4000000
namespace L2
open PySem PySem.Spec PyProof.Rows
theorem tuple_mul1W (l : Addr) (items : Array Value) (n : Nat) (dd : Option Addr) (sl : Array (Option Value)) (u : Tok) (c1 : (items.isEmpty || (1 : Int) == 1) = true) :
    Meets (Builtin.«tuple.__mul__» ⟨[.ref l, .int 1 u], []⟩) (fun _ R s => s.heap.get? l = some { cls := .type "tuple", dict := dd, data := .seq items n, slots := sl } ∧
      R (.ok (.ret (Value.ref l))) s) :=
  .of_wp fun prog w A R s h => by
    obtain ⟨hp, g, d, tk, os⟩ := s
    obtain ⟨hl, h⟩ := h
    have f1 := AutoSeq1.idx_int
    wp_walk using wpAny_loadPart' hl
    exact ⟨_, rfl, h⟩
def rRep1 (K : PySem.W.Frag) : R2 := fun x y H Q => ∃ l xs, x = .ref l ∧ y = .int 1 ∧ SqT K H l xs ∧ Q (.ref l) H
section
variable {X : Cx}
theorem op_rep1 : OpR X (binaryOp .Mult) (rRep1 X.K) := by
  intro pins s σ H x y v u Q I rx ry h
  obtain ⟨l, xs, rfl, rfl, hT, q⟩ := h
  cases rx
  obtain ⟨t, rfl⟩ := ry
  obtain ⟨its, r, ⟨⟨cls, dd, data, sl⟩, ho, hc, n, hd⟩, hs⟩ := I.tuple hT
  simp only at hc hd
  subst hc hd
  refine wpAny_binaryOp_repeat_ref (T := "tuple") (U := "int") (by decide) ⟨_, ho, rfl⟩ (fun s' => typeIs_int s' 1 t) noFill_tuple_mul F.fills_int_mul F.slot_int_rmul repeat_tuple F.slot_int_index.lookup
    (call_meets F.slot_int_rmul (typeIs_int s 1 t) F.entry_int_rmul (F.args_int_rmul_2 _ _) (int_rmul_tuple 1 t l its.toArray n dd sl)
      ⟨ho, rfl, ⟨_, ho, rfl⟩, call_meets F.slot_tuple_mul ⟨_, ho, rfl⟩ F.entry_tuple_mul (F.args_tuple_mul_2 _ _) (tuple_mul1W l its.toArray n dd sl t (by simp)) ⟨ho, ?_⟩⟩)
  exact ⟨.ref l, H, I, rfl, q⟩
end
end L2
set_option Elab.async false
set_option linter.all false
set_option maxRecDepth 100000
set_option maxHeartbeats 4000000
namespace PySem.W
open PySem PySem.Spec PyProof.Rows
variable {prog : Program} {w : World} {A : Around} {E : Value → Shared → Prop} {s : Shared}
theorem collect_tup {l : Addr} {vs : List Value} {Q : List Value → Shared → Prop} (hl : s.heap.IsTuple l vs.toArray)
    (h : Q vs { s with heap := (s.heap.push (seqObj "list" #[] 0)).update s.heap.objs.size (Obj.mapSeq (· ++ vs.toArray)) }) (hsz : vs.length ≤ sizeLine) :
    wpAny (model prog w) A (collect (.ref l)) Q E s := by
  obtain ⟨o, ho, hc, n, hd⟩ := id hl
  unfold collect
  refine wpAny_bind (wpAny_runValue (codeAny_builtin entry_proto_collect' ?_))
  show wpAny _ _ (do again (.builtin "list.__iadd__" ⟨[← newList [], .ref l], []⟩)) _ _ s
  refine wpAny_bind (wpAny_newList (wpAny_pure ⟨Code.quiet_builtin _ (by decide +kernel), codeAny_builtin entry_list_iadd' ?_⟩))
  show wpAny _ _ (Builtin.List.listExtendWith (.ref s.heap.objs.size) (.ref l) (.ref s.heap.objs.size)) _ _ { s with heap := s.heap.push (seqObj "list" #[] 0) }
  unfold Builtin.List.listExtendWith
  have ho' : (s.heap.push (seqObj "list" #[] 0)).get? l = some o := Heap.get?_push_of_some _ ho
  refine wpAny_bind (wpAny_typeOf (T := "tuple") ⟨o, ho', hc⟩ ?_)
  have ht : (Value.type "tuple" == Value.type "tuple") = true := by rfl
  rw [if_pos (by rw [ht]; simp)]
  refine wpAny_bind (listItems_at ho' hd ?_)
  refine wpAny_bind (listItems_at (xs := #[]) (n := 0) (Heap.get?_push_size _ rfl) rfl ?_)
  rw [if_neg (by simp)]
  refine wpAny_bind (listUpdate_at (xs := #[]) (n := 0) (Heap.get?_push_size _ rfl) rfl ?_ (Nat.zero_le _) (by show (#[] ++ vs.toArray).size ≤ sizeLine + 1; simp only [Array.size_append, List.size_toArray, List.length_nil]; omega))
  refine wpAny_pure ?_
  show wpAny (model prog w) A (do
      let o ← load s.heap.objs.size
      match o.data with
      | .seq xs _ => pure xs.toList
      | _ => unsupported "internal:collect") Q E { s with heap := (s.heap.push (seqObj "list" #[] 0)).update s.heap.objs.size (Obj.mapSeq (· ++ vs.toArray)) }
  refine wpAny_bind (wpAny_load (get?_update_seq (Heap.get?_push_size _ rfl) _) ?_)
  show wpAny _ _ (pure ((#[] : Array Value) ++ vs.toArray).toList) Q E _
  rw [show ((#[] : Array Value) ++ vs.toArray).toList = vs by simp]
  exact wpAny_pure h
theorem sorted_of_sortT {l : Addr} {vs : List Value} {kw : List (Str × Value)} {Q : Value → Shared → Prop} (hl : s.heap.IsTuple l vs.toArray) (hL : vs.length ≤ sizeLine) (ha1 : argsOk "sorted" ⟨[.ref l], kw⟩) (ha2 : ∀ x, argsOk "list.sort" ⟨[.ref x], kw⟩)
    (body : ∀ E' : Value → Shared → Prop, wpAny (model prog w) A.in1.in1 (Builtin.«list.sort» ⟨[.ref (s.heap.objs.size + 1)], kw⟩) (fun f s' => f = .done (.ret .none) ∧ Q (.ref (s.heap.objs.size + 1)) s') E' { s with heap := copyHeap s.heap vs }) :
    wpAny (model prog w) A (call (.builtin "sorted") [.ref l] kw) Q E s := by
  refine call_function_entry_kw kind_sorted plain_sorted entry_sorted ha1 ?_
  unfold Builtin.«sorted»
  refine wpAny_bind (m := checkCount "sorted" 1 1 _) (wpAny_pure ?_)
  refine wpAny_bind (collect_tup hl ?_ hL)
  refine wpAny_bind (wpAny_newList ?_ hL)
  have hsz : ((s.heap.push (seqObj "list" #[] 0)).update s.heap.objs.size (Obj.mapSeq (· ++ vs.toArray))).objs.size = s.heap.objs.size + 1 := by
    rw [Heap.size_update, size_push']
  show wpAny _ _ _ _ _ { s with heap := copyHeap s.heap vs }
  rw [hsz]
  refine wpAny_bind (wpAny_holding (wpAny_call_entry_kw slot_list_sort ⟨_, copyHeap_at s.heap vs, rfl⟩ entry_list_sort ?body (ha2 _)))
  case body =>
    show wpAny (model prog w) A.in1.in1 (Builtin.«list.sort» ⟨[.ref (s.heap.objs.size + 1)], kw⟩) _ _ _
    refine wpAny_mono (body _) (fun f s' hf => ?_) fun _ _ e => e
    obtain ⟨rfl, hq⟩ := hf
    exact ⟨_, rfl, wpAny_pure ⟨_, rfl, hq⟩⟩
theorem sorted_dataT {β : Type} {R : Value → β → Prop} {enc : β → PyData} {vs : List Value} {bs : List β} {l : Addr} {Q : Value → Shared → Prop} (hl : s.heap.IsTuple l vs.toArray) (e : EachIs R vs bs) (er : EachIs (fun v b => ∃ as, Reads s.heap v (enc b) as) vs bs) (hal : AllAlike (bs.map enc)) (hk : Sortable (bs.map enc)) (hL : bs.length ≤ sizeLine)
    (hu : ∀ b, b ∈ bs → A.units + 2 + (enc b).depth < cLine) (h : ∀ out, out.length = bs.length → EachIs R out (bs.mergeSort (dataLe false enc)) → Q (.ref (s.heap.objs.size + 1)) { s with heap := sortedAll s.heap vs (List.toArray out) }) :
    wpAny (model prog w) A (call (.builtin "sorted") [.ref l]) Q E s := by
  have er' : EachIs (fun v b => ∃ as, Reads (sortingHeap (copyHeap s.heap vs) (s.heap.objs.size + 1) vs) v (enc b) as) vs bs := er.mono fun _ _ ⟨as, r⟩ => ⟨as, PyProof.Rows.Reads.keeps (fun _ _ => sorting_copy_old) r⟩
  refine sorted_of_sortT hl (by rw [e.length]; exact hL) (args_sorted1 _) (fun _ => args_list_sort _) fun _ => list_sort_vals (s := { s with heap := copyHeap s.heap vs }) (copyHeap_at s.heap vs) (SortsAt.data (s := { s with heap := sortingHeap (copyHeap s.heap vs) (s.heap.objs.size + 1) vs }) (each_map (R := fun v d => ∃ as, Reads (sortingHeap (copyHeap s.heap vs) (s.heap.objs.size + 1) vs) v d as) enc er') hal hk (bound_map hu)) (by rw [e.length]; exact hL) ⟨rfl, ?_⟩
  exact h _ (by rw [sortVals_length false rfl]; exact e.length) (sortVals_data false e er' hal)
end PySem.W
set_option Elab.async false
set_option linter.all false
/-! Rx1: the small language (E, It, S) and what it computes, over frozen data and lists of one's own -/
namespace Rx
open PySem PySem.Spec L2
abbrev D := PyData
/-- what an expression gives: data that never changes, or a list of one's own -/
inductive R where
  | frz (d : D)
  | lst (ds : List D)
inductive Md where
  | clean | lent | dirt
  deriving DecidableEq
/-- a slot: data; data that stands for a turn of a comprehension; a list of one's own (k: a parameter's) -/
inductive Sl where
  | frz (d : D)
  | tmp (d : D)
  | mut (m : Md) (k : Bool) (ds : List D)
abbrev Sto := List (Option Sl)
/-- an operand: a value, or what the slot i holds (a list of one's own) -/
inductive Opd where
  | val (r : R)
  | slot (i : Nat)
inductive Out (α : Type) where
  | stuck
  | ret (a : α) (ρ : Sto)
def Out.bind {α β : Type} (o : Out α) (f : α → Sto → Out β) : Out β := match o with
  | .stuck => .stuck
  | .ret a ρ => f a ρ
/-- a pure partial step -/
def lift {α β : Type} (o : Option α) (f : α → Out β) : Out β := match o with
  | none => .stuck
  | some a => f a
@[simp] theorem bind_r {α β : Type} {a : α} {ρ : Sto} {f : α → Sto → Out β} : (Out.ret a ρ).bind f = f a ρ := rfl
@[simp] theorem bind_s {α β : Type} {f : α → Sto → Out β} : (Out.stuck : Out α).bind f = .stuck := rfl
@[simp] theorem lift_s {α β : Type} {a : α} {f : α → Out β} : lift (some a) f = f a := rfl
@[simp] theorem lift_n {α β : Type} {f : α → Out β} : lift (none : Option α) f = .stuck := rfl
inductive Bop where
  | add | sub | mul | fdiv | mod | pow
  deriving DecidableEq
inductive Cop where
  | eq | ne | lt | le | gt | ge | inn | nin
  deriving DecidableEq
inductive Ty where
  | int | bool | str | list | tuple
  deriving DecidableEq
inductive Bi where
  | len | maxs | mins | max2 | min2 | abs | sum | sorted | list | tuple | int | str | all | any | isi (ts : List Ty) | repr
inductive Tg where
  | nm (i : Nat)
  | tup (ts : List Tg)
/-- a def as its callers see it: which parameters it may change, and what it gives -/
structure Fi where
  modes : List Bool
  sf : Sto → Out R
mutual
inductive E where
  | const (d : D)
  | var (i : Nat)
  | bop (o : Bop) (a b : E)
  | neg (a : E)
  | cop (o : Cop) (a b : E)
  | ch2 (o1 o2 : Cop) (a b c : E)
  | isN (a : E)
  | notN (a : E)
  | not (a : E)
  | and (a b : E)
  | or (a b : E)
  | ife (c a b : E)
  | idx (a b : E)
  | slc (a lo hi : E)
  | asI (a : E)
  | rev (a : E)
  | tup (es : List E)
  | lst (es : List E)
  | call (f : Fi) (es : List E)
  | callk (f : Fi) (es : List E) (perm : List Nat)
  | bi (b : Bi) (es : List E)
  | comp (elt : E) (tg : Tg) (it : It) (ifs : List E) (own : List Nat)
inductive It where
  | seq (e : E)
  | range1 (e : E)
  | range2 (a b : E)
  | enum (e : E)
  | zip (s : Bool) (a b : E)
  | revd (e : E)
end
/-- a list's methods that take nothing -/
inductive M0 where
  | rev | clr
  deriving DecidableEq
inductive S where
  | setv (i : Nat) (e : E)
  | sett (tg : Tg) (e : E)
  | par (is : List Nat) (es : List E)
  | aug (i : Nat) (o : Bop) (e : E)
  | seti (i : Nat) (ie e : E)
  | expr (e : E)
  | app (i : Nat) (e : E)
  | ext (i : Nat) (e : E)
  | mt0 (i : Nat) (m : M0)
  | iff (c : E) (a b : List S)
  | whl (c : E) (b : List S)
  | forr (tg : Tg) (it : It) (b : List S)
  | ret (e : E)
  | retN | brk | cont | pass | never
/-- how a statement ends -/
inductive Fl where
  | next | brk | cont
  | ret (r : R)
/-! ### data -/
def toD : R → D
  | .frz d => d
  | .lst ds => .list ds
def isScal : D → Bool
  | .none => true
  | .bool _ => true
  | .int _ => true
  | .str _ => true
  | _ => false
def isScalR : R → Bool
  | .frz d => isScal d
  | .lst _ => false
def isNoneR : R → Bool
  | .frz .none => true
  | _ => false
/-- the items of a list or a tuple -/
def kids : R → Option (Bool × List D)
  | .frz (.list ds) => some (false, ds)
  | .frz (.tuple ds) => some (true, ds)
  | .lst ds => some (false, ds)
  | _ => none
def ints? : List D → Option (List Int)
  | [] => some []
  | .int i :: r => (ints? r).map (i :: ·)
  | _ => none
def bools? : List D → Option (List Bool)
  | [] => some []
  | .bool b :: r => (bools? r).map (b :: ·)
  | _ => none
/-! ### slots -/
def getS (ρ : Sto) (i : Nat) : Option Sl := (ρ[i]?).join
def isKeep : Option Sl → Bool
  | some (.mut _ k _) => k
  | _ => false
/-- a store: a parameter that others own is not stored to -/
def putS (ρ : Sto) (i : Nat) (s : Sl) : Option Sto := if i < ρ.length ∧ isKeep (getS ρ i) = false then some (ρ.set i (some s)) else none
def slOf : R → Sl
  | .frz d => .frz d
  | .lst ds => .mut .clean false ds
/-- an operand read -/
def rd (ρ : Sto) : Opd → Option R
  | .val r => some r
  | .slot i => match getS ρ i with
    | some (.mut _ _ ds) => some (.lst ds)
    | _ => none
/-- an operand kept: data from here on -/
def hard (ρ : Sto) : Opd → Option (D × Sto)
  | .val r => some (toD r, ρ)
  | .slot i => match getS ρ i with
    | some (.mut .clean k ds) => some (.list ds, ρ.set i (some (.mut .lent k ds)))
    | some (.mut .lent _ ds) => some (.list ds, ρ)
    | _ => none
def hards (ρ : Sto) : List Opd → Option (List D × Sto)
  | [] => some ([], ρ)
  | x :: r => (hard ρ x).bind fun (d, ρ1) => (hards ρ1 r).map fun (ds, ρ2) => (d :: ds, ρ2)
def noLent (ρ : Sto) : Bool := ρ.all fun
  | some (.mut .lent _ _) => false
  | _ => true
def dirtFlat (ρ : Sto) : Bool := ρ.all fun
  | some (.mut .dirt _ ds) => ds.all isScal
  | _ => true
def unlend : Option Sl → Option Sl
  | some (.mut _ k ds) => some (.mut .clean k ds)
  | some (.frz d) => some (.frz d)
  | _ => none
def freeze : Option Sl → Option Sl
  | some (.mut .lent _ ds) => some (.frz (.list ds))
  | some (.mut _ k ds) => some (.mut .clean k ds)
  | some (.frz d) => some (.frz d)
  | _ => none
def mayFreeze : Option Sl → Bool
  | some (.mut .lent k _) => !k
  | _ => true
/-- a statement's expression is through: what was lent comes back, if nothing of it is kept -/
def settle (sc : Bool) (ρ : Sto) : Option Sto :=
  if noLent ρ then some (ρ.map unlend)
  else if sc && dirtFlat ρ then some (ρ.map unlend)
  else if ρ.all mayFreeze then some (ρ.map freeze) else none
def asBool (ρ : Sto) (x : Opd) : Option Bool := match rd ρ x with
  | some (.frz (.bool b)) => some b
  | _ => none
/-! ### operators -/
def bopI : Bop → Int → Int → Option Int
  | .add, i, j => some (i + j)
  | .sub, i, j => some (i - j)
  | .mul, i, j => if (-(2 ^ 64) < i ∧ i < 2 ^ 64) ∨ (-(2 ^ 64) < j ∧ j < 2 ^ 64) then some (i * j) else none
  | .fdiv, i, j => if 0 < j ∧ j.natAbs < 2 ^ 1000 then some (i / j) else none
  | .mod, i, j => if 0 < j then some (i % j) else none
  | .pow, i, j => if 0 ≤ j ∧ j ≤ 1000000 ∧ i.natAbs < 2 ^ 64 then some (i ^ j.toNat) else none
def bopSeq (o : Bop) (x y : R) : Option R := match o with
  | .mul => match x, y with
    | .lst xs, .frz (.int j) => if -(2 ^ 63) ≤ j ∧ j < 2 ^ 63 ∧ xs.length * j.toNat ≤ sizeLine then some (.lst (List.replicate j.toNat xs).flatten) else none
    | .frz (.tuple xs), .frz (.int j) => if xs ≠ [] ∧ 1 ≤ j ∧ j ≤ 1000 ∧ xs.length ≤ 1000 then some (.frz (.tuple (List.replicate j.toNat xs).flatten)) else none
    | _, _ => none
  | .add => (kids x).bind fun (t, xs) => (kids y).bind fun (u, ys) => if t = u ∧ xs.length + ys.length ≤ sizeLine then some (if t then .frz (.tuple (xs ++ ys)) else .lst (xs ++ ys)) else none
  | _ => none
def bopR (o : Bop) (x y : R) : Option R := match x, y with
  | .frz (.int i), .frz (.int j) => (bopI o i j).map fun k => .frz (.int k)
  | .frz (.str a), .frz (.str b) => match o with
    | .add => if a.length + b.length ≤ sizeLine then some (.frz (.str (a ++ b))) else none
    | _ => none
  | x, y => bopSeq o x y
def copR (o : Cop) (x y : R) : Option Bool := match o with
  | .eq => if SeqAt.shaped (toD x) && SeqAt.shaped (toD y) then some (PyData.eqv (toD x) (toD y)) else none
  | .ne => if SeqAt.shaped (toD x) && SeqAt.shaped (toD y) then some (!PyData.eqv (toD x) (toD y)) else none
  | .inn => (kids y).bind fun (_, ys) => if SeqAt.shaped (toD x) && ys.all SeqAt.shaped then some (ys.any fun z => PyData.eqv z (toD x)) else none
  | .nin => (kids y).bind fun (_, ys) => if SeqAt.shaped (toD x) && ys.all SeqAt.shaped then some (!ys.any fun z => PyData.eqv z (toD x)) else none
  | _ => match x, y with
    | .frz (.int i), .frz (.int j) => match o with
      | .lt => some (decide (i < j))
      | .le => some (decide (i ≤ j))
      | .gt => some (decide (j < i))
      | .ge => some (decide (j ≤ i))
      | _ => none
    | _, _ => none
def idxR (x y : R) : Option D := match y with
  | .frz (.int i) => match x with
    | .frz (.str z) => if z.length ≤ sizeLine then (atI z.cps.toList i).map fun c => .str ⟨#[c]⟩ else none
    | x => (kids x).bind fun (_, xs) => atI xs i
  | _ => none
def optI : R → Option (Option Int)
  | .frz .none => some none
  | .frz (.int i) => some (some i)
  | _ => none
def cutD (xs : List D) (lo hi : Option Int) : List D := (xs.drop (HT.sIx xs.length 0 lo)).take (HT.sIx xs.length xs.length hi - HT.sIx xs.length 0 lo)
def slcR (x lo hi : R) : Option R := (optI lo).bind fun l => (optI hi).bind fun h => (kids x).map fun (t, xs) => if t then .frz (.tuple (cutD xs l h)) else .lst (cutD xs l h)
def revR (x : R) : Option R := (kids x).bind fun (t, xs) => if t then none else some (.lst xs.reverse)
def tyOf : D → Option Ty
  | .bool _ => some .bool
  | .int _ => some .int
  | .str _ => some .str
  | .list _ => some .list
  | .tuple _ => some .tuple
  | _ => none
/-- isinstance: a bool is an int, too -/
def isTy (d : D) : Ty → Bool
  | .int => match d with | .int _ => true | .bool _ => true | _ => false
  | .bool => match d with | .bool _ => true | _ => false
  | .str => match d with | .str _ => true | _ => false
  | .list => match d with | .list _ => true | _ => false
  | .tuple => match d with | .tuple _ => true | _ => false
def tupNE : D → Bool
  | .tuple (_ :: _) => true
  | _ => false
def noTup : D → Bool
  | .tuple _ => false
  | .none => false
  | _ => true
def sortOk (ds : List D) : Bool := (ds.all fun d => ds.all fun d' => W.alike d d') && (ds.all tupNE || ds.all noTup) && ds.all SeqAt.shaped && decide (ds.length ≤ sizeLine)
def sortD (ds : List D) : List D := ds.mergeSort (W.dataLe false id)
def lenR (x : R) : Option R := match x with
  | .frz (.str z) => if z.length ≤ sizeLine then some (.frz (.int z.length)) else none
  | x => (kids x).map fun (_, ys) => .frz (.int ys.length)
def foldR (g : Int → Int → Int) (x : R) : Option R := (kids x).bind fun (_, ys) => (ints? ys).bind fun
  | n :: ns => some (.frz (.int (ns.foldl g n)))
  | [] => none
def int2R (g : Int → Int → Int) (x y : R) : Option R := match x, y with
  | .frz (.int i), .frz (.int j) => some (.frz (.int (g i j)))
  | _, _ => none
def absR (x : R) : Option R := match x with
  | .frz (.int i) => some (.frz (.int (if i < 0 then -i else i)))
  | _ => none
def sumR (x : R) : Option R := (kids x).bind fun (t, ys) => if t then none else (ints? ys).map fun ns => .frz (.int ns.sum)
def allR (g : List Bool → Bool) (x : R) : Option R := (kids x).bind fun (t, ys) => if t then none else (bools? ys).map fun bs => .frz (.bool (g bs))
def intR (x : R) : Option R := match x with
  | .frz (.bool b) => some (.frz (.int (if b then 1 else 0)))
  | .frz (.int i) => some (.frz (.int i))
  | _ => none
def strR (x : R) : Option R := match x with
  | .frz (.int i) => if i.natAbs.log2 < 1920 then some (.frz (.str (toString i))) else none
  | _ => none
def reprR (x : R) : Option R := match toD x with
  | .list ds => if (PyData.list ds).showable && SeqAt.shaped (.list ds) && decide ((PyData.list ds).shown.length ≤ sizeLine) then some (.frz (.str (PyData.list ds).shown)) else none
  | .tuple ds => if (PyData.tuple ds).showable && SeqAt.shaped (.tuple ds) && decide ((PyData.tuple ds).shown.length ≤ sizeLine) then some (.frz (.str (PyData.tuple ds).shown)) else none
  | _ => none
def sortedR (x : R) : Option R := (kids x).bind fun (_, ys) => if sortOk ys then some (.lst (sortD ys)) else none
def biR (b : Bi) (xs : List R) : Option R := match xs with
  | [x] => match b with
    | .len => lenR x
    | .maxs => foldR max x
    | .mins => foldR min x
    | .abs => absR x
    | .sum => sumR x
    | .list => (kids x).map fun (_, ys) => .lst ys
    | .tuple => (kids x).map fun (_, ys) => .frz (.tuple ys)
    | .int => intR x
    | .str => strR x
    | .all => allR (fun bs => bs.all id) x
    | .any => allR (fun bs => bs.any id) x
    | .isi ts => some (.frz (.bool (ts.any (isTy (toD x)))))
    | .repr => reprR x
    | .sorted => sortedR x
    | _ => none
  | [x, y] => match b with
    | .max2 => int2R (fun i j => if j > i then j else i) x y
    | .min2 => int2R (fun i j => if j < i then j else i) x y
    | _ => none
  | _ => none
end Rx
set_option Elab.async false
set_option linter.all false
/-! Rx2: the evaluator -/
namespace Rx
open PySem PySem.Spec L2
/-- the arguments as the callee's slots: the kept ones first -/
def argH (ρ : Sto) : List Bool → List Opd → Option (List (Option D) × Sto)
  | [], [] => some ([], ρ)
  | false :: ms, x :: xs => (hard ρ x).bind fun (d, ρ1) => (argH ρ1 ms xs).map fun (ds, ρ2) => (some d :: ds, ρ2)
  | true :: ms, _ :: xs => (argH ρ ms xs).map fun (ds, ρ2) => (none :: ds, ρ2)
  | _, _ => none
/-- .. then the lent ones -/
def argM (ρ : Sto) : List (Option D) → List Opd → Option Sto
  | [], [] => some []
  | some d :: ds, _ :: xs => (argM ρ ds xs).map (some (.frz d) :: ·)
  | none :: ds, .slot i :: xs => match getS ρ i with
    | some (.mut .clean _ l) => (argM ρ ds xs).map (some (.mut .clean true l) :: ·)
    | some (.mut .dirt _ l) => (argM ρ ds xs).map (some (.mut .clean true l) :: ·)
    | _ => none
  | _, _ => none
def lentOf : List (Option D) → List Opd → List Nat
  | none :: ds, .slot i :: xs => i :: lentOf ds xs
  | _ :: ds, _ :: xs => lentOf ds xs
  | _, _ => []
/-- what the callee left in the lists that it was lent -/
def argB (ρ : Sto) : List (Option D) → List Opd → Sto → Option Sto
  | [], [], _ => some ρ
  | some _ :: ds, _ :: xs, _ :: o => argB ρ ds xs o
  | none :: ds, .slot i :: xs, some (.mut _ _ l) :: o => match getS ρ i with
    | some (.mut _ k _) => argB (ρ.set i (some (.mut .dirt k l))) ds xs o
    | _ => none
  | _, _, _ => none
def distinct : List Nat → Bool
  | [] => true
  | i :: r => !r.contains i && distinct r
def callF (fi : Fi) (xs : List Opd) (ρ : Sto) : Out Opd :=
  lift (argH ρ fi.modes xs) fun (ds, ρ1) => if distinct (lentOf ds xs) then lift (argM ρ1 ds xs) fun ρa =>
    (fi.sf ρa).bind fun r ρo => lift (argB ρ1 ds xs ρo) fun ρ2 => .ret (.val r) ρ2 else .stuck
def permD {α : Type} (xs : List α) : List Nat → Option (List α)
  | [] => some []
  | i :: r => xs[i]?.bind fun x => (permD xs r).map (x :: ·)
mutual
/-- a target's slots hold d -/
def setTg (mk : D → Sl) : Tg → D → Sto → Option Sto
  | .nm i, d, ρ => putS ρ i (mk d)
  | .tup ts, d, ρ => match d with
    | .tuple ds => setTgs mk ts ds ρ
    | _ => none
def setTgs (mk : D → Sl) : List Tg → List D → Sto → Option Sto
  | [], [], ρ => some ρ
  | t :: ts, d :: ds, ρ => (setTg mk t d ρ).bind fun ρ1 => setTgs mk ts ds ρ1
  | _, _, _ => none
end
def wipeS (ρ : Sto) : List Nat → Sto
  | [] => ρ
  | v :: vs => (wipeS ρ vs).set v none
/-- the slots at vs as they were -/
def backS (ρ0 ρ : Sto) : List Nat → Sto
  | [] => ρ
  | v :: vs => (backS ρ0 ρ vs).set v (getS ρ0 v)
def rds (ρ : Sto) : List Opd → Option (List R)
  | [] => some []
  | x :: r => (rd ρ x).bind fun y => (rds ρ r).map (y :: ·)
/-- a comprehension's turns -/
def compLoop (elt : Sto → Out Opd) (test : Sto → Out Bool) (tg : Tg) (own : List Nat) : List D → List D → Sto → Out (List D)
  | [], acc, ρ => .ret acc ρ
  | d :: ds, acc, ρ => lift (setTg .tmp tg d ρ) fun ρ1 => (test ρ1).bind fun b ρ2 =>
      if b then (elt ρ2).bind fun x ρ3 => lift (hard ρ3 x) fun (y, ρ4) => if acc.length < sizeLine then compLoop elt test tg own ds (acc ++ [y]) (wipeS ρ4 own) else .stuck
      else compLoop elt test tg own ds acc (wipeS ρ2 own)
def itInts (lo : Int) (n : Nat) : List D := (List.range n).map fun k => .int (lo + (k : Nat))
def itEnum (ds : List D) : List D := ds.zipIdx.map fun (d, i) => .tuple [.int (i : Nat), d]
def itZip (xs ys : List D) : List D := List.zipWith (fun x y => .tuple [x, y]) xs ys
def seqD (d : D) : Option (List D) := match d with
  | .list ds => some ds
  | .tuple ds => some ds
  | _ => none
mutual
def evE : E → Sto → Out Opd
  | .const d, ρ => .ret (.val (.frz d)) ρ
  | .var i, ρ => match getS ρ i with
    | some (.frz d) => .ret (.val (.frz d)) ρ
    | some (.tmp d) => .ret (.val (.frz d)) ρ
    | some (.mut _ _ _) => .ret (.slot i) ρ
    | none => .stuck
  | .bop o a b, ρ => (evE a ρ).bind fun x ρ1 => (evE b ρ1).bind fun y ρ2 => lift (rd ρ2 x) fun x => lift (rd ρ2 y) fun y => lift (bopR o x y) fun r => .ret (.val r) ρ2
  | .neg a, ρ => (evE a ρ).bind fun x ρ1 => match rd ρ1 x with
    | some (.frz (.int i)) => .ret (.val (.frz (.int (-i)))) ρ1
    | _ => .stuck
  | .cop o a b, ρ => (evE a ρ).bind fun x ρ1 => (evE b ρ1).bind fun y ρ2 => lift (rd ρ2 x) fun x => lift (rd ρ2 y) fun y => lift (copR o x y) fun r => .ret (.val (.frz (.bool r))) ρ2
  | .ch2 o o' a b c, ρ => (evE a ρ).bind fun x ρ1 => (evE b ρ1).bind fun y ρ2 => lift (rd ρ2 x) fun x' => lift (rd ρ2 y) fun y' => lift (copR o x' y') fun k =>
      if k then (evE c ρ2).bind fun z ρ3 => lift (rd ρ3 y) fun y'' => lift (rd ρ3 z) fun z' => lift (copR o' y'' z') fun r => .ret (.val (.frz (.bool r))) ρ3
      else .ret (.val (.frz (.bool false))) ρ2
  | .isN a, ρ => (evE a ρ).bind fun x ρ1 => lift (rd ρ1 x) fun r => .ret (.val (.frz (.bool (isNoneR r)))) ρ1
  | .notN a, ρ => (evE a ρ).bind fun x ρ1 => lift (rd ρ1 x) fun r => .ret (.val (.frz (.bool (!isNoneR r)))) ρ1
  | .not a, ρ => (evE a ρ).bind fun x ρ1 => lift (asBool ρ1 x) fun b => .ret (.val (.frz (.bool (!b)))) ρ1
  | .and a b, ρ => (evE a ρ).bind fun x ρ1 => lift (asBool ρ1 x) fun c => if c then evE b ρ1 else .ret (.val (.frz (.bool false))) ρ1
  | .or a b, ρ => (evE a ρ).bind fun x ρ1 => lift (asBool ρ1 x) fun c => if c then .ret (.val (.frz (.bool true))) ρ1 else evE b ρ1
  | .ife c a b, ρ => (evE c ρ).bind fun x ρ1 => lift (asBool ρ1 x) fun k => if k then evE a ρ1 else evE b ρ1
  | .idx a b, ρ => (evE a ρ).bind fun x ρ1 => (evE b ρ1).bind fun y ρ2 => lift (rd ρ2 x) fun x => lift (rd ρ2 y) fun y => lift (idxR x y) fun d => .ret (.val (.frz d)) ρ2
  | .slc a lo hi, ρ => (evE a ρ).bind fun x ρ1 => (evE lo ρ1).bind fun l ρ2 => (evE hi ρ2).bind fun h ρ3 => lift (rd ρ3 x) fun x => lift (rd ρ3 l) fun l => lift (rd ρ3 h) fun h => lift (slcR x l h) fun r => .ret (.val r) ρ3
  | .asI a, ρ => (evE a ρ).bind fun x ρ1 => match rd ρ1 x with
    | some (.frz (.int i)) => .ret (.val (.frz (.int i))) ρ1
    | _ => .stuck
  | .rev a, ρ => (evE a ρ).bind fun x ρ1 => lift (rd ρ1 x) fun x => lift (revR x) fun r => .ret (.val r) ρ1
  | .tup es, ρ => (evEs es ρ).bind fun xs ρ1 => lift (hards ρ1 xs) fun (ds, ρ2) => if ds.length ≤ sizeLine then .ret (.val (.frz (.tuple ds))) ρ2 else .stuck
  | .lst es, ρ => (evEs es ρ).bind fun xs ρ1 => lift (hards ρ1 xs) fun (ds, ρ2) => if ds.length ≤ sizeLine then .ret (.val (.lst ds)) ρ2 else .stuck
  | .call fi es, ρ => (evEs es ρ).bind fun xs ρ1 => callF fi xs ρ1
  | .callk fi es p, ρ => (evEs es ρ).bind fun xs ρ1 => lift (permD xs p) fun ys => callF fi ys ρ1
  | .bi b es, ρ => (evEs es ρ).bind fun xs ρ1 => lift (rds ρ1 xs) fun ys => lift (biR b ys) fun r => .ret (.val r) ρ1
  | .comp elt tg it ifs own, ρ => (evIt it ρ).bind fun ds ρ1 =>
      (compLoop (evE elt) (evTs ifs) tg own ds [] (wipeS ρ1 own)).bind fun acc ρ2 => .ret (.val (.lst acc)) (backS ρ1 ρ2 own)
def evEs : List E → Sto → Out (List Opd)
  | [], ρ => .ret [] ρ
  | e :: es, ρ => (evE e ρ).bind fun x ρ1 => (evEs es ρ1).bind fun xs ρ2 => .ret (x :: xs) ρ2
/-- all tests, from the left -/
def evTs : List E → Sto → Out Bool
  | [], ρ => .ret true ρ
  | e :: es, ρ => (evE e ρ).bind fun x ρ1 => lift (asBool ρ1 x) fun b => if b then evTs es ρ1 else .ret false ρ1
/-- the items that are walked -/
def evIt : It → Sto → Out (List D)
  | .seq e, ρ => (evE e ρ).bind fun x ρ1 => lift (hard ρ1 x) fun (d, ρ2) => lift (seqD d) fun ds => .ret ds ρ2
  | .range1 e, ρ => (evE e ρ).bind fun x ρ1 => match rd ρ1 x with
    | some (.frz (.int j)) => if -(2 ^ 62) ≤ j ∧ j < 2 ^ 62 then .ret (itInts 0 j.toNat) ρ1 else .stuck
    | _ => .stuck
  | .range2 a b, ρ => (evE a ρ).bind fun x ρ1 => (evE b ρ1).bind fun y ρ2 => match rd ρ2 x, rd ρ2 y with
    | some (.frz (.int i)), some (.frz (.int j)) => if -(2 ^ 62) ≤ i ∧ i < 2 ^ 62 ∧ -(2 ^ 62) ≤ j ∧ j < 2 ^ 62 then .ret (itInts i (j - i).toNat) ρ2 else .stuck
    | _, _ => .stuck
  | .enum e, ρ => (evE e ρ).bind fun x ρ1 => lift (hard ρ1 x) fun (d, ρ2) => lift (seqD d) fun ds => .ret (itEnum ds) ρ2
  | .zip s a b, ρ => (evE a ρ).bind fun x ρ1 => (evE b ρ1).bind fun y ρ2 => lift (hard ρ2 x) fun (d, ρ3) => lift (hard ρ3 y) fun (d', ρ4) => lift (seqD d) fun xs => lift (seqD d') fun ys =>
      if s && decide (xs.length ≠ ys.length) then .stuck else .ret (itZip xs ys) ρ4
  | .revd e, ρ => (evE e ρ).bind fun x ρ1 => lift (hard ρ1 x) fun (d, ρ2) => lift (seqD d) fun ds => .ret ds.reverse ρ2
end
/-- a while, so many turns at most -/
def whlN (c : Sto → Out Bool) (b : Sto → Out Fl) : Nat → Sto → Out Fl
  | 0, _ => .stuck
  | n + 1, ρ => (c ρ).bind fun k ρ1 => if k then (b ρ1).bind fun f ρ2 => match f with
      | .next => whlN c b n ρ2
      | .cont => whlN c b n ρ2
      | .brk => .ret .next ρ2
      | .ret r => .ret (.ret r) ρ2
    else .ret .next ρ1
def forL (tg : Tg) (b : Sto → Out Fl) : List D → Sto → Out Fl
  | [], ρ => .ret .next ρ
  | d :: ds, ρ => lift (setTg .frz tg d ρ) fun ρ1 => (b ρ1).bind fun f ρ2 => match f with
      | .next => forL tg b ds ρ2
      | .cont => forL tg b ds ρ2
      | .brk => .ret .next ρ2
      | .ret r => .ret (.ret r) ρ2
/-- an expression whose value is taken: a list of one's own that is read is data from here on -/
def evV (e : E) (ρ : Sto) : Out R := (evE e ρ).bind fun x ρ1 => match x with
  | .val r => lift (settle (isScalR r) ρ1) fun ρ2 => .ret r ρ2
  | .slot i => lift (hard ρ1 (.slot i)) fun (d, ρ2) => lift (settle false ρ2) fun ρ3 => .ret (.frz d) ρ3
def evT (e : E) (ρ : Sto) : Out Bool := (evE e ρ).bind fun x ρ1 => lift (asBool ρ1 x) fun b => lift (settle true ρ1) fun ρ2 => .ret b ρ2
/-- operands of a parallel assignment: a new list stays a list of one's own -/
def parV (ρ : Sto) : List Opd → Option (List R × Sto)
  | [] => some ([], ρ)
  | .val r :: xs => (parV ρ xs).map fun (rs, ρ1) => (r :: rs, ρ1)
  | .slot i :: xs => (hard ρ (.slot i)).bind fun (d, ρ1) => (parV ρ1 xs).map fun (rs, ρ2) => (.frz d :: rs, ρ2)
def putAll : List Nat → List R → Sto → Option Sto
  | [], [], ρ => some ρ
  | i :: is, r :: rs, ρ => (putAll is rs ρ).bind fun ρ1 => putS ρ1 i (slOf r)
  | _, _, _ => none
/-- the greatest number of a while's turns -/
def turns : Nat := 2 ^ 64
def mt0D : M0 → List D → List D
  | .rev, xs => xs.reverse
  | .clr, _ => []
mutual
def evS : S → Sto → Out Fl
  | .setv i e, ρ => (evV e ρ).bind fun r ρ1 => lift (putS ρ1 i (slOf r)) fun ρ2 => .ret .next ρ2
  | .sett tg e, ρ => (evV e ρ).bind fun r ρ1 => lift (setTg .frz tg (toD r) ρ1) fun ρ2 => .ret .next ρ2
  | .par is es, ρ => (evEs es ρ).bind fun xs ρ0 => lift (parV ρ0 xs) fun (rs, ρ1) => lift (settle (rs.all isScalR) ρ1) fun ρ2 => lift (putAll is rs ρ2) fun ρ3 => .ret .next ρ3
  | .aug i o e, ρ => match getS ρ i with
    | some (.frz (.int x)) => (evE e ρ).bind fun y ρ1 => match rd ρ1 y with
      | some (.frz (.int y)) => lift (bopI o x y) fun z => lift (settle true ρ1) fun ρ2 => lift (putS ρ2 i (.frz (.int z))) fun ρ3 => .ret .next ρ3
      | _ => .stuck
    | some (.mut .clean _ _) => match o with
      | .add => (evV e ρ).bind fun r ρ1 => match r with
        | .lst ys => match getS ρ1 i with
          | some (.mut .clean k xs) => if xs.length + ys.length ≤ sizeLine then .ret .next (ρ1.set i (some (.mut .clean k (xs ++ ys)))) else .stuck
          | _ => .stuck
        | _ => .stuck
      | _ => .stuck
    | _ => .stuck
  | .seti i ie e, ρ => match getS ρ i with
    | some (.mut .clean _ _) => (evE e ρ).bind fun x ρ0 => lift (hard ρ0 x) fun (d, ρ1) => (evE ie ρ1).bind fun j ρ2 => match rd ρ2 j with
      | some (.frz (.int j)) => lift (settle (isScal d) ρ2) fun ρ3 => match getS ρ3 i with
        | some (.mut .clean k xs) => lift (ixN xs.length j) fun n => .ret .next (ρ3.set i (some (.mut .clean k (xs.set n d))))
        | _ => .stuck
      | _ => .stuck
    | _ => .stuck
  | .expr e, ρ => (evE e ρ).bind fun _ ρ1 => lift (settle true ρ1) fun ρ2 => .ret .next ρ2
  | .app i e, ρ => match getS ρ i with
    | some (.mut .clean _ _) => (evE e ρ).bind fun x ρ0 => lift (hard ρ0 x) fun (d, ρ1) => lift (settle (isScal d) ρ1) fun ρ2 => match getS ρ2 i with
      | some (.mut .clean k xs) => if xs.length < sizeLine then .ret .next (ρ2.set i (some (.mut .clean k (xs ++ [d])))) else .stuck
      | _ => .stuck
    | _ => .stuck
  | .ext i e, ρ => match getS ρ i with
    | some (.mut .clean _ _) => (evV e ρ).bind fun r ρ1 => match r with
      | .lst ys => match getS ρ1 i with
        | some (.mut .clean k xs) => if xs.length + ys.length ≤ sizeLine then .ret .next (ρ1.set i (some (.mut .clean k (xs ++ ys)))) else .stuck
        | _ => .stuck
      | _ => .stuck
    | _ => .stuck
  | .mt0 i m, ρ => match getS ρ i with
    | some (.mut .clean k xs) => .ret .next (ρ.set i (some (.mut .clean k (mt0D m xs))))
    | _ => .stuck
  | .iff c a b, ρ => (evT c ρ).bind fun k ρ1 => if k then evSs a ρ1 else evSs b ρ1
  | .whl c b, ρ => whlN (evT c) (evSs b) turns ρ
  | .forr tg it b, ρ => (evIt it ρ).bind fun ds ρ1 => lift (settle false ρ1) fun ρ2 => forL tg (evSs b) ds ρ2
  | .ret e, ρ => (evE e ρ).bind fun x ρ1 => match x with
    | .val r => lift (settle (isScalR r) ρ1) fun ρ2 => .ret (.ret r) ρ2
    | .slot i => match getS ρ1 i with
      | some (.mut .clean false ds) => lift (settle false (ρ1.set i none)) fun ρ2 => .ret (.ret (.lst ds)) ρ2
      | _ => .stuck
  | .retN, ρ => .ret (.ret (.frz .none)) ρ
  | .brk, ρ => .ret .brk ρ
  | .cont, ρ => .ret .cont ρ
  | .pass, ρ => .ret .next ρ
  | .never, _ => .stuck
def evSs : List S → Sto → Out Fl
  | [], ρ => .ret .next ρ
  | s :: ss, ρ => (evS s ρ).bind fun f ρ1 => match f with
    | .next => evSs ss ρ1
    | f => .ret f ρ1
end
def keepOut : Option Sl → Option Sl
  | some (.mut m true ds) => some (.mut m true ds)
  | _ => none
/-- a def: so many slots, its body -/
def evDef (n : Nat) (body : List S) (ρa : Sto) : Out R :=
  (evSs body (ρa ++ List.replicate (n - ρa.length) none)).bind fun f ρ1 => match f with
    | .next => .ret (.frz .none) ((ρ1.take ρa.length).map keepOut)
    | .ret r => .ret r ((ρ1.take ρa.length).map keepOut)
    | _ => .stuck
end Rx
set_option Elab.async false
set_option linter.all false
/-! Rx3: how slots and heap lie beside the evaluator's state -/
namespace Rx
open PySem PySem.Spec L2
/-! ### heaps of data that never changes -/
def Sub (G H : Hp) : Prop := ∀ a o, G a = some o → H a = some o
theorem Sub.refl (G : Hp) : Sub G G := fun _ _ e => e
theorem Sub.trans {G H J : Hp} (a : Sub G H) (b : Sub H J) : Sub G J := fun c o e => b c o (a c o e)
theorem Sub.none {G H : Hp} (s : Sub G H) {a : Addr} (h : H a = .none) : G a = .none := by
  cases e : G a with
  | none => rfl
  | some o => rw [s a o e] at h; cases h
theorem Sub.upd {G : Hp} {p : Addr} {o : HO} (h : G p = .none) : Sub G (upd G p o) := fun a u e => by
  rw [upd_ne (ne_of_none e h)]
  exact e
theorem Sub.updR {G H : Hp} {p : Addr} {o : HO} (s : Sub G H) (h : G p = .none) : Sub G (L2.upd H p o) := fun a u e => by
  rw [upd_ne (ne_of_none e h)]
  exact s a u e
theorem Sub.upd2 {G H : Hp} {p : Addr} {o : HO} (s : Sub G H) : Sub (L2.upd G p o) (L2.upd H p o) := fun a u e => by
  by_cases h : a = p
  · subst h; rw [upd_same] at e ⊢; exact e
  · rw [upd_ne h] at e ⊢; exact s a u e
theorem Sub.updL {G H : Hp} {p : Addr} {o : HO} (s : Sub G H) (h : H p = some o) : Sub (L2.upd G p o) H := fun a u e => by
  by_cases q : a = p
  · subst q; rw [upd_same] at e; cases e; exact h
  · rw [upd_ne q] at e; exact s a u e
variable {K : PySem.W.Frag}
theorem Sub.sqL {G H : Hp} {a : Addr} {xs : List V} (s : Sub G H) (h : SqL K G a xs) : SqL K H a xs := by
  rcases h with (h | ⟨o, h⟩) | h
  · exact .inl (.inl (s _ _ h))
  · exact .inl (.inr ⟨o, s _ _ h⟩)
  · exact .inr h
theorem Sub.sqT {G H : Hp} {a : Addr} {xs : List V} (s : Sub G H) (h : SqT K G a xs) : SqT K H a xs := by
  rcases h with (h | ⟨o, h⟩) | h
  · exact .inl (.inl (s _ _ h))
  · exact .inl (.inr ⟨o, s _ _ h⟩)
  · exact .inr h
mutual
theorem dp_sub {G H : Hp} (s : Sub G H) : ∀ {d : D} {v : V}, Dp K G v d → Dp K H v d
  | .none, _, h => by cases h; exact .non
  | .bool _, _, h => by cases h; exact .bl _
  | .int _, _, h => by cases h; exact .int _
  | .str _, _, h => by cases h; exact .str _
  | .list _, _, h => by
    cases h with
    | lst a b => exact .lst (s.sqL a) (dpAll_sub s b)
  | .tuple _, _, h => by
    cases h with
    | tup a b => exact .tup (s.sqT a) (dpAll_sub s b)
  | .dict _, _, h => by cases h
theorem dpAll_sub {G H : Hp} (s : Sub G H) : ∀ {ds : List D} {vs : List V}, DpAll K G vs ds → DpAll K H vs ds
  | [], _, h => by cases h; exact .nil
  | _ :: _, _, h => by
    cases h with
    | cons a b => exact .cons (dp_sub s a) (dpAll_sub s b)
end
theorem dpAll_len {H : Hp} : ∀ {ds : List D} {vs : List V}, DpAll K H vs ds → vs.length = ds.length
  | [], _, h => by cases h; rfl
  | _ :: _, _, h => by
    cases h with
    | cons a b => simp [dpAll_len b]
theorem dpAll_app {H : Hp} : ∀ {ds es : List D} {vs ws : List V}, DpAll K H vs ds → DpAll K H ws es → DpAll K H (vs ++ ws) (ds ++ es)
  | [], _, _, _, h, k => by cases h; exact k
  | _ :: _, _, _, _, h, k => by
    cases h with
    | cons a b => exact .cons a (dpAll_app b k)
theorem dpAll_get {H : Hp} : ∀ {ds : List D} {vs : List V} {i : Nat} {d : D}, DpAll K H vs ds → ds[i]? = some d → ∃ v, vs[i]? = some v ∧ Dp K H v d
  | [], _, _, _, _, e => by simp at e
  | _ :: _, _, 0, _, h, e => by
    cases h with
    | cons a b => simp at e; subst e; exact ⟨_, rfl, a⟩
  | _ :: _, _, i + 1, _, h, e => by
    cases h with
    | cons a b =>
      obtain ⟨v, h1, h2⟩ := dpAll_get (i := i) b (by simpa using e)
      exact ⟨v, by simpa using h1, h2⟩
theorem dpAll_getV {H : Hp} : ∀ {ds : List D} {vs : List V} {i : Nat} {v : V}, DpAll K H vs ds → vs[i]? = some v → ∃ d, ds[i]? = some d ∧ Dp K H v d
  | [], _, _, _, h, e => by cases h; simp at e
  | _ :: _, _, 0, _, h, e => by
    cases h with
    | cons a b => simp at e; subst e; exact ⟨_, rfl, a⟩
  | _ :: _, _, i + 1, _, h, e => by
    cases h with
    | cons a b =>
      obtain ⟨v, h1, h2⟩ := dpAll_getV (i := i) b (by simpa using e)
      exact ⟨v, by simpa using h1, h2⟩
theorem dpAll_set {H : Hp} {v : V} {d : D} (r : Dp K H v d) : ∀ {ds : List D} {vs : List V} (i : Nat), DpAll K H vs ds → DpAll K H (vs.set i v) (ds.set i d)
  | [], _, _, h => by cases h; exact .nil
  | _ :: _, _, 0, h => by cases h with | cons a b => exact .cons r b
  | _ :: _, _, i + 1, h => by cases h with | cons a b => exact .cons a (dpAll_set r i b)
theorem dpAll_take {H : Hp} : ∀ {ds : List D} {vs : List V} (n : Nat), DpAll K H vs ds → DpAll K H (vs.take n) (ds.take n)
  | _, _, 0, _ => by simp; exact .nil
  | [], _, _ + 1, h => by cases h; exact .nil
  | _ :: _, _, n + 1, h => by cases h with | cons a b => exact .cons a (dpAll_take n b)
theorem dpAll_drop {H : Hp} : ∀ {ds : List D} {vs : List V} (n : Nat), DpAll K H vs ds → DpAll K H (vs.drop n) (ds.drop n)
  | _, _, 0, h => h
  | [], _, _ + 1, h => by cases h; exact .nil
  | _ :: _, _, n + 1, h => by cases h with | cons a b => exact dpAll_drop n b
theorem dpAll_rev {H : Hp} : ∀ {ds : List D} {vs : List V}, DpAll K H vs ds → DpAll K H vs.reverse ds.reverse
  | [], _, h => by cases h; exact .nil
  | _ :: _, _, h => by cases h with | cons a b => simp only [List.reverse_cons]; exact dpAll_app (dpAll_rev b) (.cons a .nil)
theorem dpAll_rep {H : Hp} {ds : List D} {vs : List V} (h : DpAll K H vs ds) : ∀ n, DpAll K H (List.replicate n vs).flatten (List.replicate n ds).flatten
  | 0 => .nil
  | n + 1 => by simp only [List.replicate_succ, List.flatten_cons]; exact dpAll_app h (dpAll_rep h n)
theorem dp_scal {G H : Hp} {v : V} {d : D} (h : Dp K G v d) (s : isScal d = true) : Dp K H v d := by
  cases h with
  | non => exact .non
  | bl => exact .bl _
  | int => exact .int _
  | str => exact .str _
  | lst => cases s
  | tup => cases s
theorem dpAll_scal {G H : Hp} : ∀ {ds : List D} {vs : List V}, DpAll K G vs ds → ds.all isScal = true → DpAll K H vs ds
  | [], _, h, _ => by cases h; exact .nil
  | _ :: _, _, h, s => by
    cases h with
    | cons a b =>
      simp only [List.all_cons, Bool.and_eq_true] at s
      exact .cons (dp_scal a s.1) (dpAll_scal b s.2)
/-! ### slots -/
def mkk (ρ : Sto) (i : Nat) : Option Bool := match getS ρ i with
  | some (.mut _ k _) => some k
  | _ => none
def Own (ρ : Sto) (σ : St) (p : Addr) : Prop := ∃ i, (mkk ρ i).isSome = true ∧ σ[i]? = some (some (.ref p))
def SlOk (K : PySem.W.Frag) (G0 G H : Hp) : Sl → V → Prop
  | .frz d, v => Dp K G0 v d
  | .tmp d, v => Dp K G v d
  | .mut .clean _ ds, v => ∃ p vs, v = .ref p ∧ G p = none ∧ H p = some (.lst vs) ∧ DpAll K G0 vs ds
  | .mut .lent _ ds, v => ∃ p vs, v = .ref p ∧ G0 p = none ∧ G p = some (.lst vs) ∧ DpAll K G0 vs ds
  | .mut .dirt _ ds, v => ∃ p vs, v = .ref p ∧ G p = none ∧ H p = some (.lst vs) ∧ DpAll K G vs ds
structure Rel (K : PySem.W.Frag) (G0 G : Hp) (ρ : Sto) (σ : St) (H : Hp) : Prop where
  s0 : Sub G0 G
  s1 : Sub G H
  len : ρ.length = σ.length
  ok : ∀ i s, getS ρ i = some s → ∃ v, σ[i]? = some (some v) ∧ SlOk K G0 G H s v
  apart : ∀ i j p, (mkk ρ i).isSome = true → (mkk ρ j).isSome = true → σ[i]? = some (some (.ref p)) → σ[j]? = some (some (.ref p)) → i = j
structure Stp (G H G' H' : Hp) (O : Addr → Prop) : Prop where
  g : Sub G G'
  fresh : ∀ a o, G a = none → G' a = some o → H a = none ∨ O a
  keep : ∀ a o, H a = some o → ¬ O a → H' a = some o
def Pat (ρ ρ' : Sto) : Prop := ∀ i, mkk ρ' i = mkk ρ i
theorem Pat.own {ρ ρ' : Sto} {σ : St} {p : Addr} (h : Pat ρ ρ') : Own ρ' σ p ↔ Own ρ σ p := by
  unfold Own
  exact ⟨fun ⟨i, a, b⟩ => ⟨i, h i ▸ a, b⟩, fun ⟨i, a, b⟩ => ⟨i, (h i).symm ▸ a, b⟩⟩
theorem mkk_some {ρ : Sto} {i : Nat} (h : (mkk ρ i).isSome = true) : ∃ m k ds, getS ρ i = some (.mut m k ds) := by
  unfold mkk at h
  split at h
  · exact ⟨_, _, _, by assumption⟩
  · cases h
theorem mkk_of {ρ : Sto} {i : Nat} {m : Md} {k : Bool} {ds : List D} (h : getS ρ i = some (.mut m k ds)) : mkk ρ i = some k := by
  unfold mkk; rw [h]
section
variable {G0 G G1 G2 H H1 H2 : Hp} {ρ ρ1 ρ2 : Sto} {σ : St} {i : Nat} {p : Addr} {O : Addr → Prop}
theorem Rel.tracked (R : Rel K G0 G ρ σ H) (h : Own ρ σ p) : ∃ vs, H p = some (.lst vs) := by
  obtain ⟨i, hm, hs⟩ := h
  obtain ⟨m, k, ds, hg⟩ := mkk_some hm
  obtain ⟨v, e, o⟩ := R.ok i _ hg
  rw [hs] at e; cases e
  cases m with
  | clean => obtain ⟨q, vs, e, _, h2, _⟩ := o; cases e; exact ⟨vs, h2⟩
  | lent => obtain ⟨q, vs, e, _, h2, _⟩ := o; cases e; exact ⟨vs, R.s1 _ _ h2⟩
  | dirt => obtain ⟨q, vs, e, _, h2, _⟩ := o; cases e; exact ⟨vs, h2⟩
theorem Stp.refl : Stp G H G H O := ⟨Sub.refl _, fun a o e f => (by rw [e] at f; cases f), fun _ _ e _ => e⟩
theorem Stp.mono {O' : Addr → Prop} (s : Stp G H G1 H1 O) (h : ∀ p, O p → O' p) : Stp G H G1 H1 O' :=
  ⟨s.g, fun a o e f => (s.fresh a o e f).imp id (h a), fun a o e n => s.keep a o e fun q => n (h a q)⟩
theorem Stp.trans {O' : Addr → Prop} (a : Stp G H G1 H1 O) (b : Stp G1 H1 G2 H2 O') (h : ∀ p, O' p → O p ∨ H p = none) : Stp G H G2 H2 O where
  g := a.g.trans b.g
  fresh := fun q o e f => by
    cases z : G1 q with
    | some u => exact a.fresh q u e z
    | none =>
      rcases b.fresh q o z f with y | y
      · by_cases w : O q
        · exact .inr w
        · cases x : H q with
          | none => exact .inl rfl
          | some u => rw [a.keep q u x w] at y; cases y
      · exact (h q y).symm
  keep := fun q o e n => b.keep q o (a.keep q o e n) fun y => (h q y).elim n fun z => by rw [z] at e; cases e
/-- what stands behind a step whose own cells are not told of -/
theorem Stp.gNone (s : Stp G H G1 H1 O) {o : HO} (h : G p = none) (h2 : H p = some o) (n : ¬ O p) : G1 p = none := by
  cases z : G1 p with
  | none => rfl
  | some u =>
    rcases s.fresh p u h z with y | y
    · rw [h2] at y; cases y
    · exact absurd y n
/-- slots stay good where nothing of theirs changed -/
theorem SlOk.step {s : Sl} {v : V} (h : SlOk K G0 G H s v) (S : Stp G H G1 H1 O) (n : ∀ p, v = .ref p → (∃ m k ds, s = .mut m k ds) → ¬ O p) : SlOk K G0 G1 H1 s v := by
  cases s with
  | frz d => exact h
  | tmp d => exact dp_sub S.g h
  | «mut» m k ds =>
    cases m with
    | clean =>
      obtain ⟨p, vs, e, h1, h2, h3⟩ := h
      have np := n p e ⟨_, _, _, rfl⟩
      exact ⟨p, vs, e, S.gNone h1 h2 np, S.keep _ _ h2 np, h3⟩
    | lent => obtain ⟨p, vs, e, h1, h2, h3⟩ := h; exact ⟨p, vs, e, h1, S.g _ _ h2, h3⟩
    | dirt =>
      obtain ⟨p, vs, e, h1, h2, h3⟩ := h
      have np := n p e ⟨_, _, _, rfl⟩
      exact ⟨p, vs, e, S.gNone h1 h2 np, S.keep _ _ h2 np, dpAll_sub S.g h3⟩
theorem Rel.step (R : Rel K G0 G ρ σ H) (S : Stp G H G1 H1 O) (s1 : Sub G1 H1) (n : ∀ p, Own ρ σ p → ¬ O p) : Rel K G0 G1 ρ σ H1 :=
  ⟨R.s0.trans S.g, s1, R.len, fun i s e => by
    obtain ⟨v, h1, h2⟩ := R.ok i s e
    refine ⟨v, h1, h2.step S fun p ev ⟨m, k, ds, es⟩ => n p ⟨i, ?_, by rw [h1, ev]⟩⟩
    subst es
    rw [mkk_of e]; rfl, R.apart⟩
/-! ### values and operands -/
/-- a value that a step gives: data, or a new list of one's own; Hs: the heap ahead of it -/
def ValOk (K : PySem.W.Frag) (G H Hs : Hp) : R → V → Prop
  | .frz d, v => Dp K G v d
  | .lst ds, v => ∃ p vs, v = .ref p ∧ Hs p = none ∧ G p = none ∧ H p = some (.lst vs) ∧ DpAll K G vs ds
def OpdOk (K : PySem.W.Frag) (G H Hs : Hp) (ρ : Sto) (σ : St) : Opd → V → Prop
  | .val r, v => ValOk K G H Hs r v
  | .slot i, v => (mkk ρ i).isSome = true ∧ σ[i]? = some (some v)
/-- a value to be read -/
def RV (K : PySem.W.Frag) (G H : Hp) : R → V → Prop
  | .frz d, v => Dp K G v d
  | .lst ds, v => ∃ p vs, v = .ref p ∧ H p = some (.lst vs) ∧ DpAll K G vs ds
/-- behind an expression -/
structure Aft (K : PySem.W.Frag) (G0 : Hp) (σ : St) (ρ : Sto) (G H : Hp) (ρ' : Sto) (G' H' : Hp) : Prop where
  rel : Rel K G0 G' ρ' σ H'
  stp : Stp G H G' H' (Own ρ σ)
  pat : Pat ρ ρ'
theorem Aft.refl (R : Rel K G0 G ρ σ H) : Aft K G0 σ ρ G H ρ G H := ⟨R, Stp.refl, fun _ => rfl⟩
theorem Aft.trans (a : Aft K G0 σ ρ G H ρ1 G1 H1) (b : Aft K G0 σ ρ1 G1 H1 ρ2 G2 H2) : Aft K G0 σ ρ G H ρ2 G2 H2 :=
  ⟨b.rel, a.stp.trans b.stp fun p h => .inl (a.pat.own.mp h), fun i => (b.pat i).trans (a.pat i)⟩
/-- what was new behind the first step is new ahead of it -/
theorem Aft.back (R : Rel K G0 G ρ σ H) (a : Aft K G0 σ ρ G H ρ1 G1 H1) (h : H1 p = none) : H p = none := by
  cases z : H p with
  | none => rfl
  | some o =>
    by_cases w : Own ρ σ p
    · obtain ⟨vs, e⟩ := a.rel.tracked (a.pat.own.mpr w)
      rw [h] at e; cases e
    · rw [a.stp.keep p o z w] at h; cases h
theorem Rel.notOwn (R : Rel K G0 G ρ σ H) (h : H p = none) : ¬ Own ρ σ p := fun w => by
  obtain ⟨vs, e⟩ := R.tracked w
  rw [h] at e; cases e
theorem ValOk.later {r : R} {v : V} (R : Rel K G0 G ρ σ H) (a : Aft K G0 σ ρ G H ρ1 G1 H1) (b : Aft K G0 σ ρ1 G1 H1 ρ2 G2 H2) (h : ValOk K G1 H1 H r v) : ValOk K G2 H2 H r v := by
  cases r with
  | frz d => exact dp_sub b.stp.g h
  | lst ds =>
    obtain ⟨p, vs, e, h0, h1, h2, h3⟩ := h
    have np : ¬ Own ρ1 σ p := fun w => R.notOwn h0 (a.pat.own.mp w)
    exact ⟨p, vs, e, h0, b.stp.gNone h1 h2 np, b.stp.keep _ _ h2 np, dpAll_sub b.stp.g h3⟩
theorem OpdOk.later {x : Opd} {v : V} (R : Rel K G0 G ρ σ H) (a : Aft K G0 σ ρ G H ρ1 G1 H1) (b : Aft K G0 σ ρ1 G1 H1 ρ2 G2 H2) (h : OpdOk K G1 H1 H ρ1 σ x v) : OpdOk K G2 H2 H ρ2 σ x v := by
  cases x with
  | val r => exact ValOk.later R a b h
  | slot i => exact ⟨by rw [b.pat i]; exact h.1, h.2⟩
theorem ValOk.wider {r : R} {v : V} {G' H' : Hp} (R : Rel K G0 G ρ σ H) (a : Aft K G0 σ ρ G H ρ1 G1 H1) (h : ValOk K G' H' H1 r v) : ValOk K G' H' H r v := by
  cases r with
  | frz d => exact h
  | lst ds => obtain ⟨p, vs, e, h0, h1⟩ := h; exact ⟨p, vs, e, a.back R h0, h1⟩
theorem OpdOk.wider {x : Opd} {v : V} {G' H' : Hp} {ρ' : Sto} (R : Rel K G0 G ρ σ H) (a : Aft K G0 σ ρ G H ρ1 G1 H1) (h : OpdOk K G' H' H1 ρ' σ x v) : OpdOk K G' H' H ρ' σ x v := by
  cases x with
  | val r => exact ValOk.wider R a h
  | slot i => exact h
theorem rd_ok {Hs : Hp} {x : Opd} {v : V} {r : R} (Re : Rel K G0 G ρ σ H) (h : OpdOk K G H Hs ρ σ x v) (e : rd ρ x = some r) : RV K G H r v := by
  cases x with
  | val r' =>
    cases e
    cases r with
    | frz d => exact h
    | lst ds => obtain ⟨p, vs, h1, _, _, h2, h3⟩ := h; exact ⟨p, vs, h1, h2, h3⟩
  | slot i =>
    obtain ⟨hm, hs⟩ := h
    obtain ⟨m, k, ds, hg⟩ := mkk_some hm
    obtain ⟨v', e1, o⟩ := Re.ok i _ hg
    rw [hs] at e1; cases e1
    simp only [rd, hg] at e
    cases e
    cases m with
    | clean => obtain ⟨p, vs, h1, h2, h3, h4⟩ := o; exact ⟨p, vs, h1, h3, dpAll_sub Re.s0 h4⟩
    | lent => obtain ⟨p, vs, h1, h2, h3, h4⟩ := o; exact ⟨p, vs, h1, Re.s1 _ _ h3, dpAll_sub Re.s0 h4⟩
    | dirt => obtain ⟨p, vs, h1, h2, h3, h4⟩ := o; exact ⟨p, vs, h1, h3, h4⟩
theorem toD_ok {r : R} {v : V} (s : Sub G H) (h : RV K G H r v) : Dp K H v (toD r) := by
  cases r with
  | frz d => exact dp_sub s h
  | lst ds => obtain ⟨p, vs, e, h1, h2⟩ := h; subst e; exact .lst (.inl (.inl h1)) (dpAll_sub s h2)
theorem kids_ok {r : R} {v : V} {t : Bool} {ds : List D} (s : Sub G H) (h : RV K G H r v) (e : kids r = some (t, ds)) :
    ∃ a xs, v = .ref a ∧ (if t = true then SqT K H a xs else SqL K H a xs) ∧ DpAll K G xs ds := by
  cases r with
  | frz d =>
    cases d with
    | list xs =>
      cases e
      cases h with
      | lst h1 h2 => exact ⟨_, _, rfl, by simpa using s.sqL h1, h2⟩
    | tuple xs =>
      cases e
      cases h with
      | tup h1 h2 => exact ⟨_, _, rfl, by simpa using s.sqT h1, h2⟩
    | _ => cases e
  | lst xs =>
    cases e
    obtain ⟨p, vs, e, h1, h2⟩ := h
    exact ⟨p, vs, e, (by rw [if_neg (by decide)]; exact Or.inl (Or.inl h1)), h2⟩
/-! ### new objects -/
theorem Rel.newObj (R : Rel K G0 G ρ σ H) {o : HO} (hp : H p = none) : Rel K G0 G ρ σ (upd H p o) ∧ Stp G H G (upd H p o) (Own ρ σ) := by
  have st : Stp G H G (upd H p o) fun _ => False := ⟨Sub.refl _, fun a o e f => (by rw [e] at f; cases f), fun a u e _ => (by rw [upd_ne (ne_of_none e hp)]; exact e)⟩
  exact ⟨R.step st (R.s1.updR (R.s1.none hp)) fun _ _ h => h, st.mono fun _ h => h.elim⟩
theorem Rel.newG (R : Rel K G0 G ρ σ H) {o : HO} (hp : H p = none) : Rel K G0 (upd G p o) ρ σ (upd H p o) ∧ Stp G H (upd G p o) (upd H p o) (Own ρ σ) := by
  have st : Stp G H (upd G p o) (upd H p o) fun _ => False := ⟨Sub.upd (R.s1.none hp), fun a u e f => (by
    by_cases q : a = p
    · subst q; exact .inl hp
    · rw [upd_ne q, e] at f; cases f), fun a u e _ => (by rw [upd_ne (ne_of_none e hp)]; exact e)⟩
  exact ⟨R.step st R.s1.upd2 fun _ _ h => h, st.mono fun _ h => h.elim⟩
/-- a list of one's own that is made now -/
theorem Aft.newL (a : Aft K G0 σ ρ G H ρ1 G1 H1) (R : Rel K G0 G ρ σ H) {vs : List V} {ds : List D} (hp : H1 p = none) (h : DpAll K G1 vs ds) :
    Aft K G0 σ ρ G H ρ1 G1 (upd H1 p (.lst vs)) ∧ ValOk K G1 (upd H1 p (.lst vs)) H (.lst ds) (.ref p) := by
  obtain ⟨r, s⟩ := a.rel.newObj (o := .lst vs) hp
  exact ⟨a.trans ⟨r, s, fun _ => rfl⟩, p, vs, rfl, a.back R hp, a.rel.s1.none hp, upd_same, h⟩
/-- a tuple -/
theorem Aft.newT (a : Aft K G0 σ ρ G H ρ1 G1 H1) {vs : List V} {ds : List D} (hp : H1 p = none) (h : DpAll K G1 vs ds) :
    Aft K G0 σ ρ G H ρ1 (upd G1 p (.tup vs)) (upd H1 p (.tup vs)) ∧ Dp K (upd G1 p (.tup vs)) (.ref p) (.tuple ds) := by
  obtain ⟨r, s⟩ := a.rel.newG (o := .tup vs) hp
  exact ⟨a.trans ⟨r, s, fun _ => rfl⟩, .tup (.inl (.inl upd_same)) (dpAll_sub (Sub.upd (a.rel.s1.none hp)) h)⟩
/-- a new list that is data from here on -/
theorem Aft.frz (a : Aft K G0 σ ρ G H ρ1 G1 H1) (R : Rel K G0 G ρ σ H) {vs : List V} {ds : List D} (h0 : H p = none) (h1 : G1 p = none) (h2 : H1 p = some (.lst vs)) (h : DpAll K G1 vs ds) :
    Aft K G0 σ ρ G H ρ1 (upd G1 p (.lst vs)) H1 ∧ Dp K (upd G1 p (.lst vs)) (.ref p) (.list ds) := by
  have np : ¬ Own ρ σ p := R.notOwn h0
  have st : Stp G1 H1 (upd G1 p (.lst vs)) H1 fun q => q = p := ⟨Sub.upd h1, fun a u e f => (by
    by_cases q : a = p
    · exact .inr q
    · rw [upd_ne q, e] at f; cases f), fun a u e _ => e⟩
  refine ⟨⟨a.rel.step st (a.rel.s1.updL h2) fun q w e => ?_, a.stp.trans st fun q e => .inr (by rw [e]; exact h0), a.pat⟩, .lst (.inl (.inl upd_same)) (dpAll_sub (Sub.upd h1) h)⟩
  subst e
  exact np (a.pat.own.mp w)
theorem getS_set {ρ : Sto} {i j : Nat} {s : Option Sl} : getS (ρ.set i s) j = if i = j ∧ i < ρ.length then s else getS ρ j := by
  unfold getS
  by_cases h : i = j
  · subst h
    by_cases hl : i < ρ.length
    · simp [hl]
    · simp [hl]
  · simp [h]
theorem getS_lt {ρ : Sto} {i : Nat} {s : Sl} (h : getS ρ i = some s) : i < ρ.length := by
  unfold getS at h
  cases e : ρ[i]? with
  | none => rw [e] at h; cases h
  | some _ => exact (List.getElem?_eq_some_iff.mp e).1
theorem mkk_set {ρ : Sto} {i j : Nat} {s : Sl} {m : Md} {k : Bool} {ds : List D} (h : getS ρ i = some s) : mkk (ρ.set i (some (.mut m k ds))) j = if i = j then some k else mkk ρ j := by
  unfold mkk
  rw [getS_set]
  by_cases e : i = j
  · subst e; simp [getS_lt h]
  · simp [e]
/-- one's own list is lent: it is data for a while -/
theorem Aft.lend (a : Aft K G0 σ ρ G H ρ1 G1 H1) {k : Bool} {ds : List D} {v : V} (hg : getS ρ1 i = some (.mut .clean k ds)) (hs : σ[i]? = some (some v)) :
    ∃ G2, Aft K G0 σ ρ G H (ρ1.set i (some (.mut .lent k ds))) G2 H1 ∧ Dp K G2 v (.list ds) ∧ Stp G1 H1 G2 H1 (fun q => v = .ref q) := by
  obtain ⟨v', e1, p, vs, e, h1, h2, h3⟩ := a.rel.ok i _ hg
  rw [hs] at e1; cases e1
  subst e
  have hm : (mkk ρ1 i).isSome = true := by rw [mkk_of hg]; rfl
  have st : Stp G1 H1 (upd G1 p (.lst vs)) H1 fun q => q = p := ⟨Sub.upd h1, fun a u e f => (by
    by_cases q : a = p
    · exact .inr q
    · rw [upd_ne q, e] at f; cases f), fun a u e _ => e⟩
  have own : Own ρ σ p := a.pat.own.mp ⟨i, hm, hs⟩
  have pat : Pat ρ1 (ρ1.set i (some (.mut .lent k ds))) := fun j => by
    rw [mkk_set hg]
    by_cases q : i = j
    · subst q; rw [if_pos rfl, mkk_of hg]
    · rw [if_neg q]
  refine ⟨upd G1 p (.lst vs), ⟨⟨a.rel.s0.trans st.g, a.rel.s1.updL h2, by simpa using a.rel.len, fun j s ej => ?_, fun j j' q ha hb => ?_⟩, a.stp.trans st fun q e => .inl (by rw [e]; exact own), fun j => (pat j).trans (a.pat j)⟩,
    .lst (.inl (.inl upd_same)) (dpAll_sub (a.rel.s0.trans (Sub.upd h1)) h3), st.mono fun q e => by rw [e]⟩
  · rw [getS_set] at ej
    by_cases q : i = j
    · subst q
      rw [if_pos ⟨rfl, getS_lt hg⟩] at ej
      cases ej
      exact ⟨_, hs, p, vs, rfl, a.rel.s0.none h1, upd_same, h3⟩
    · rw [if_neg (fun z => q z.1)] at ej
      obtain ⟨w, ew, ow⟩ := a.rel.ok j s ej
      refine ⟨w, ew, ow.step st fun q' eq ⟨m, k', ds', es⟩ z => q ?_⟩
      subst z eq es
      exact a.rel.apart i j _ hm (by rw [mkk_of ej]; rfl) hs ew
  · rw [pat j] at ha; rw [pat j'] at hb
    exact a.rel.apart j j' q ha hb
theorem hard_ok {x : Opd} {v : V} {d : D} {ρ2 : Sto} (R : Rel K G0 G ρ σ H) (a : Aft K G0 σ ρ G H ρ1 G1 H1) (h : OpdOk K G1 H1 H ρ1 σ x v) (e : hard ρ1 x = some (d, ρ2)) :
    ∃ G2, Aft K G0 σ ρ G H ρ2 G2 H1 ∧ Dp K G2 v d ∧ Stp G1 H1 G2 H1 (fun p => v = .ref p ∧ ∀ d', x ≠ .val (.frz d')) := by
  cases x with
  | val r =>
    cases e
    cases r with
    | frz d => exact ⟨G1, a, h, Stp.refl⟩
    | lst ds =>
      obtain ⟨p, vs, e, h0, h1, h2, h3⟩ := h
      subst e
      obtain ⟨b, c⟩ := a.frz R h0 h1 h2 h3
      refine ⟨_, b, c, Sub.upd h1, fun q u e f => ?_, fun _ _ e _ => e⟩
      by_cases z : q = p
      · subst z; exact .inr ⟨rfl, fun _ z => nomatch z⟩
      · rw [upd_ne z, e] at f; cases f
  | slot i =>
    obtain ⟨hm, hs⟩ := h
    obtain ⟨m, k, ds, hg⟩ := mkk_some hm
    cases m with
    | clean =>
      simp only [hard, hg] at e
      cases e
      obtain ⟨G2, b, c, st⟩ := a.lend hg hs
      exact ⟨G2, b, c, st.mono fun q e => ⟨e, fun _ z => nomatch z⟩⟩
    | lent =>
      simp only [hard, hg] at e
      cases e
      obtain ⟨v', e1, p, vs, e, h1, h2, h3⟩ := a.rel.ok i _ hg
      rw [hs] at e1; cases e1; subst e
      exact ⟨G1, a, .lst (.inl (.inl h2)) (dpAll_sub a.rel.s0 h3), Stp.refl⟩
    | dirt => simp only [hard, hg] at e; cases e
end
end Rx
set_option Elab.async false
set_option linter.all false
/-! Rx4: operands in a row; operators on values that are read -/
namespace Rx
open PySem PySem.Spec L2
variable {K : PySem.W.Frag}
theorem bind_ret {α β : Type} {o : Out α} {f : α → Sto → Out β} {x : β} {ρ' : Sto} (h : o.bind f = .ret x ρ') : ∃ a ρ1, o = .ret a ρ1 ∧ f a ρ1 = .ret x ρ' := by
  cases o with
  | stuck => cases h
  | ret a ρ => exact ⟨a, ρ, rfl, h⟩
theorem lift_ret {α β : Type} {o : Option α} {f : α → Out β} {x : β} {ρ' : Sto} (h : lift o f = .ret x ρ') : ∃ a, o = some a ∧ f a = .ret x ρ' := by
  cases o with
  | none => cases h
  | some a => exact ⟨a, rfl, h⟩
theorem ite_ret {α : Type} {c : Prop} [Decidable c] {a : Out α} {x : α} {ρ' : Sto} (h : (if c then a else .stuck) = .ret x ρ') : c ∧ a = .ret x ρ' := by
  by_cases e : c
  · rw [if_pos e] at h; exact ⟨e, h⟩
  · rw [if_neg e] at h; cases h
/-! ### operands in a row -/
def tmps : List Opd → List V → List V
  | .val (.lst _) :: xs, v :: vs => v :: tmps xs vs
  | _ :: xs, _ :: vs => tmps xs vs
  | _, _ => []
inductive OpdsOk (K : PySem.W.Frag) (G H Hs : Hp) (ρ : Sto) (σ : L2.St) : List Opd → List V → Prop
  | nil : OpdsOk K G H Hs ρ σ [] []
  | cons {x : Opd} {v : V} {xs : List Opd} {vs : List V} : OpdOk K G H Hs ρ σ x v → (∀ ds, x = .val (.lst ds) → v ∉ tmps xs vs) → OpdsOk K G H Hs ρ σ xs vs → OpdsOk K G H Hs ρ σ (x :: xs) (v :: vs)
section
variable {G0 G G1 G2 H H1 H2 : Hp} {ρ ρ1 ρ2 : Sto} {σ : L2.St} {i : Nat} {p : Addr} {O : Addr → Prop}
theorem OpdsOk.len {Hs : Hp} : ∀ {xs : List Opd} {vs : List V}, OpdsOk K G H Hs ρ σ xs vs → vs.length = xs.length
  | _, _, .nil => rfl
  | _, _, .cons _ _ t => by simp [OpdsOk.len t]
theorem OpdsOk.later (R : Rel K G0 G ρ σ H) (a : Aft K G0 σ ρ G H ρ1 G1 H1) (b : Aft K G0 σ ρ1 G1 H1 ρ2 G2 H2) : ∀ {xs : List Opd} {vs : List V}, OpdsOk K G1 H1 H ρ1 σ xs vs → OpdsOk K G2 H2 H ρ2 σ xs vs
  | _, _, .nil => .nil
  | _, _, .cons h n t => .cons (h.later R a b) n (OpdsOk.later R a b t)
theorem OpdsOk.wider {G' H' : Hp} {ρ' : Sto} (R : Rel K G0 G ρ σ H) (a : Aft K G0 σ ρ G H ρ1 G1 H1) : ∀ {xs : List Opd} {vs : List V}, OpdsOk K G' H' H1 ρ' σ xs vs → OpdsOk K G' H' H ρ' σ xs vs
  | _, _, .nil => .nil
  | _, _, .cons h n t => .cons (h.wider R a) n (OpdsOk.wider R a t)
theorem OpdsOk.tmp {Hs : Hp} : ∀ {xs : List Opd} {vs : List V} {v : V}, OpdsOk K G H Hs ρ σ xs vs → v ∈ tmps xs vs → ∃ q ws, v = .ref q ∧ Hs q = none ∧ G q = none ∧ H q = some (.lst ws)
  | _, _, _, .nil, h => by cases h
  | x :: xs, w :: vs, v, .cons h n t, hv => by
    cases x with
    | val r =>
      cases r with
      | frz d => exact OpdsOk.tmp t hv
      | lst ds =>
        rcases List.mem_cons.mp hv with e | hv
        · obtain ⟨q, ws, e1, h0, h1, h2, _⟩ := h
          exact ⟨q, ws, e.trans e1, h0, h1, h2⟩
        · exact OpdsOk.tmp t hv
    | slot j => exact OpdsOk.tmp t hv
/-- the first operand stands, the others come behind it -/
theorem OpdsOk.cons' {x : Opd} {v : V} {xs : List Opd} {vs : List V} (R : Rel K G0 G ρ σ H) (a : Aft K G0 σ ρ G H ρ1 G1 H1) (b : Aft K G0 σ ρ1 G1 H1 ρ2 G2 H2) (h : OpdOk K G1 H1 H ρ1 σ x v) (t : OpdsOk K G2 H2 H1 ρ2 σ xs vs) :
    OpdsOk K G2 H2 H ρ2 σ (x :: xs) (v :: vs) := by
  refine .cons (h.later R a b) (fun ds e hv => ?_) (t.wider R a)
  subst e
  obtain ⟨p, ws, e1, _, _, h2, _⟩ := h
  obtain ⟨q, _, e2, h3, _⟩ := t.tmp hv
  rw [e1] at e2; cases e2
  rw [h2] at h3; cases h3
/-- behind the keeping of one operand the others stand -/
theorem OpdsOk.hard {x : Opd} {v : V} {ρ3 : Sto} {G3 : Hp} (R : Rel K G0 G ρ σ H) (a : Aft K G0 σ ρ G H ρ1 G1 H1) (h : OpdOk K G1 H1 H ρ1 σ x v) (b : Aft K G0 σ ρ G H ρ3 G3 H1)
    (s : Stp G1 H1 G3 H1 (fun p => v = .ref p ∧ ∀ d', x ≠ .val (.frz d'))) : ∀ {ys : List Opd} {ws : List V}, OpdsOk K G1 H1 H ρ1 σ ys ws → (∀ ds, x = .val (.lst ds) → v ∉ tmps ys ws) → OpdsOk K G3 H1 H ρ3 σ ys ws := by
  intro ys ws o
  induction o with
  | nil => intro _; exact .nil
  | @cons y w ys ws h' n' t' ih =>
    intro nn
    refine .cons ?_ n' (ih fun ds e hv => nn ds e ?_)
    · cases y with
      | val r =>
        cases r with
        | frz d => exact dp_sub s.g h'
        | lst es =>
          obtain ⟨q, zs, e1', h0, h1, h2, h3⟩ := h'
          refine ⟨q, zs, e1', h0, ?_, h2, dpAll_sub s.g h3⟩
          cases z : G3 q with
          | none => rfl
          | some u =>
            rcases s.fresh q u h1 z with y | y
            · rw [h2] at y; cases y
            · cases x with
              | val r' =>
                cases r' with
                | frz d' => exact absurd rfl (y.2 d')
                | lst es' => exact absurd (by rw [e1', ← y.1]; exact List.mem_cons_self) (nn es' rfl)
              | slot j => exact absurd ⟨j, h.1, by rw [h.2, y.1]⟩ (fun w : Own ρ1 σ q => R.notOwn h0 (a.pat.own.mp w))
      | slot j => exact ⟨by rw [b.pat j, ← a.pat j]; exact h'.1, h'.2⟩
    · cases y with
      | val r =>
        cases r with
        | frz d => exact hv
        | lst es => exact List.mem_cons_of_mem _ hv
      | slot j => exact hv
theorem hards_ok : ∀ {xs : List Opd} {vs : List V} {ds : List D} {ρ1 ρ2 : Sto} {G1 : Hp}, Rel K G0 G ρ σ H → Aft K G0 σ ρ G H ρ1 G1 H1 → OpdsOk K G1 H1 H ρ1 σ xs vs → hards ρ1 xs = some (ds, ρ2) →
    ∃ G2, Aft K G0 σ ρ G H ρ2 G2 H1 ∧ DpAll K G2 vs ds ∧ Sub G1 G2
  | [], _, _, _, _, G1, R, a, .nil, e => by cases e; exact ⟨G1, a, .nil, Sub.refl _⟩
  | x :: xs, v :: vs, ds, ρ1, ρ2, G1, R, a, .cons h n t, e => by
    unfold hards at e
    obtain ⟨⟨d, ρ3⟩, e1, e2⟩ := Option.bind_eq_some_iff.mp e
    obtain ⟨⟨ds', ρ4⟩, e3, e4⟩ := Option.map_eq_some_iff.mp e2
    cases e4
    obtain ⟨G3, b, c, s⟩ := hard_ok R a h e1
    obtain ⟨G4, b', c', s'⟩ := hards_ok R b (OpdsOk.hard R a h b s t n) e3
    exact ⟨G4, b', .cons (dp_sub s' c) c', s.g.trans s'⟩
end
end Rx
set_option Elab.async false
set_option linter.all false
/-! Rx5: operators on values that are read, by the layer's rules -/
namespace Rx
open PySem PySem.Spec L2
variable {K : PySem.W.Frag}
/-- a value that an operator gives, the heap behind it -/
def NewV (K : PySem.W.Frag) (G H : Hp) (z : R) (u : V) (G' H' : Hp) : Prop := Stp G H G' H' (fun _ => False) ∧ Sub G' H' ∧ ValOk K G' H' H z u
section
variable {G H : Hp} {p : Addr} {u v w : V} {d : D} {vs : List V} {ds : List D} {z : R}
theorem newV_same (s : Sub G H) (h : Dp K G u d) : NewV K G H (.frz d) u G H := ⟨Stp.refl, s, h⟩
theorem newV_lst (s : Sub G H) (hp : H p = none) (h : DpAll K G vs ds) : NewV K G H (.lst ds) (.ref p) G (upd H p (.lst vs)) :=
  ⟨⟨Sub.refl _, fun a o e f => (by rw [e] at f; cases f), fun a o e _ => (by rw [upd_ne (ne_of_none e hp)]; exact e)⟩, s.updR (s.none hp), p, vs, rfl, hp, s.none hp, upd_same, h⟩
theorem newV_tup (s : Sub G H) (hp : H p = none) (h : DpAll K G vs ds) : NewV K G H (.frz (.tuple ds)) (.ref p) (upd G p (.tup vs)) (upd H p (.tup vs)) := by
  refine ⟨⟨Sub.upd (s.none hp), fun a o e f => ?_, fun a o e _ => ?_⟩, s.upd2, .tup (.inl (.inl upd_same)) (dpAll_sub (Sub.upd (s.none hp)) h)⟩
  · by_cases q : a = p
    · subst q; exact .inl hp
    · rw [upd_ne q, e] at f; cases f
  · rw [upd_ne (ne_of_none e hp)]; exact e
theorem rv_int {i : Int} (h : RV K G H (.frz (.int i)) v) : v = .int i := by
  have h : Dp K G v (.int i) := h
  cases h; rfl
theorem rv_str {i : Str} (h : RV K G H (.frz (.str i)) v) : v = .str i := by
  have h : Dp K G v (.str i) := h
  cases h; rfl
theorem rv_bool {i : Bool} (h : RV K G H (.frz (.bool i)) v) : v = .bl i := by
  have h : Dp K G v (.bool i) := h
  cases h; rfl
theorem rv_tup (h : RV K G H (.frz (.tuple ds)) v) : ∃ a xs, v = .ref a ∧ SqT K G a xs ∧ DpAll K G xs ds := by
  have h : Dp K G v (.tuple ds) := h
  cases h with
  | tup a b => exact ⟨_, _, rfl, a, b⟩
theorem kids_true {x : R} (h : kids x = some (true, ds)) : x = .frz (.tuple ds) := by
  unfold kids at h
  split at h <;> first | (cases h; rfl) | cases h
theorem dp_int (i : Int) : Dp K G (.int i) (.int i) := .int i
end
/-! ### operators of two places -/
section
variable {X : Cx} {f : Value → Value → Sem Value}
theorem OpR.or {r r' : R2} (h : OpR X f r) (h' : OpR X f r') : OpR X f fun x y H Q => r x y H Q ∨ r' x y H Q := by
  intro pins s σ H x y v u Q I rx ry hh
  exact hh.elim (fun q => h pins s σ H x y v u Q I rx ry q) fun q => h' pins s σ H x y v u Q I rx ry q
/-- f keeps to s -/
def OpS (X : Cx) (f : Value → Value → Sem Value) (s : R → R → Option R) : Prop := ∃ r : R2, OpR X f r ∧ ∀ {G H : Hp} {v w : V} {x y z : R} {Q : VK},
  Sub G H → RV X.K G H x v → RV X.K G H y w → s x y = some z → (∀ u G' H', NewV X.K G H z u G' H' → Q u H') → r v w H Q
/-- list + list, of any lists that may be read -/
theorem op_catS : OpR X (binaryOp .Add) fun x y H Q => ∃ l b xs zs, x = .ref l ∧ y = .ref b ∧ SqL X.K H l xs ∧ SqL X.K H b zs ∧ xs.length + zs.length ≤ sizeLine ∧ ∀ p, H p = none → Q (.ref p) (upd H p (.lst (xs ++ zs))) := by
  intro pins s σ H x y v u Q I rx ry h
  obtain ⟨l, b, xs, zs, rfl, rfl, h1, h2, hz, q⟩ := h
  cases rx
  cases ry
  obtain ⟨its, r, ⟨⟨c1, d1, t1, s1⟩, n, e, hc, hd, hs⟩, _⟩ := I.list h1
  obtain ⟨jts, r', ⟨⟨c2, d2, t2, s2⟩, m, e', hc', hd', hs'⟩, _⟩ := I.list h2
  simp only at hc hs hc' hs'
  subst hc hs hc' hs'
  have l1 := r.length
  have l2 := r'.length
  refine concat_meets ⟨_, e, rfl⟩ ⟨_, e', rfl⟩ noFill_list_add seq_list_add F.slot_list_add F.entry_list_add (F.args_list_add_2 _ _)
    (PyProof.Rows.list_addW l b its.toArray jts.toArray n m d1 d2 s1 s2 (by simpa using (by omega : its.length + jts.length ≤ sizeLine))) ⟨e, e', ?_⟩
  rw [show its.toArray ++ jts.toArray = (its ++ jts).toArray by simp]
  exact ⟨.ref _, _, I.lnew (t' := s.toks) (r.append r') (by rw [List.length_append]; omega), rfl, q _ I.fresh⟩
theorem opS_int {op : Operator} {o : Bop} {C : Int → Int → Prop} {g : Int → Int → Int} (rule : OpR X (binaryOp op) (rI C fun i j => .int (g i j)))
    (hc : ∀ i j k, bopI o i j = some k → C i j ∧ k = g i j) (hs : ∀ x y, bopSeq o x y = none) (hn : o ≠ .add) : OpS X (binaryOp op) (bopR o) := by
  refine ⟨_, rule, fun {G H v w x y z Q} s hx hy e q => ?_⟩
  unfold bopR at e
  split at e
  · obtain ⟨k, e1, e2⟩ := Option.map_eq_some_iff.mp e
    obtain ⟨c, rfl⟩ := hc _ _ _ e1
    cases e2
    refine ⟨_, _, rv_int hx, rv_int hy, c, q _ _ _ (newV_same s (.int _))⟩
  · split at e
    · exact absurd rfl hn
    · cases e
  · rw [hs] at e; cases e
theorem opS_sub : OpS X (binaryOp .Sub) (bopR .sub) := by
  refine opS_int (C := fun _ _ => True) (g := fun i j => i - j) ?_ (fun i j k h => ?_) (fun _ _ => rfl) (fun z => nomatch z)
  · intro pins s σ H x y v u Q I rx ry ⟨i, j, e1, e2, _, q⟩
    exact op_sub pins s σ H x y v u Q I rx ry ⟨i, j, e1, e2, q⟩
  · cases h; exact ⟨trivial, rfl⟩
theorem opS_mod : OpS X (binaryOp .Mod) (bopR .mod) := by
  refine opS_int op_mod (fun i j k h => ?_) (fun _ _ => rfl) (fun z => nomatch z)
  simp only [bopI] at h
  split at h
  · cases h; exact ⟨by assumption, rfl⟩
  · cases h
theorem opS_pow : OpS X (binaryOp .Pow) (bopR .pow) := by
  refine opS_int op_pow (fun i j k h => ?_) (fun _ _ => rfl) (fun z => nomatch z)
  simp only [bopI] at h
  split at h
  · cases h; exact ⟨by assumption, rfl⟩
  · cases h
theorem opS_fdiv : OpS X (binaryOp .FloorDiv) (bopR .fdiv) := by
  refine opS_int op_fdivW (fun i j k h => ?_) (fun _ _ => rfl) (fun z => nomatch z)
  simp only [bopI] at h
  split at h
  · next c => cases h; exact ⟨wide_div c.1 c.2 (by decide) (by decide), rfl⟩
  · cases h
theorem opS_add : OpS X (binaryOp .Add) (bopR .add) := by
  refine ⟨_, OpR.or op_add (OpR.or op_add_str (OpR.or op_catS op_catA)), fun {G H v w x y z Q} s hx hy e q => ?_⟩
  unfold bopR at e
  split at e
  · obtain ⟨k, e1, e2⟩ := Option.map_eq_some_iff.mp e
    cases e1; cases e2
    exact .inl ⟨_, _, rv_int hx, rv_int hy, q _ _ _ (newV_same s (.int _))⟩
  · simp only at e
    split at e
    · next hz =>
      cases e
      exact .inr (.inl ⟨_, _, rv_str hx, rv_str hy, hz, q _ _ _ (newV_same s (.str _))⟩)
    · cases e
  · simp only [bopSeq] at e
    obtain ⟨⟨t, xs⟩, e1, e⟩ := Option.bind_eq_some_iff.mp e
    obtain ⟨⟨t', ys⟩, e2, e⟩ := Option.bind_eq_some_iff.mp e
    simp only at e
    split at e
    · next c =>
      obtain ⟨rfl, hz⟩ := c
      cases e
      obtain ⟨a, as, ea, ha, da⟩ := kids_ok s hx e1
      obtain ⟨b, bs, eb, hb, db⟩ := kids_ok s hy e2
      have la := dpAll_len da
      have lb := dpAll_len db
      cases t with
      | false =>
        rw [if_neg (by decide)] at ha hb
        exact .inr (.inr (.inl ⟨a, b, as, bs, ea, eb, ha, hb, by omega, fun p hp => q _ _ _ (newV_lst s hp (dpAll_app da db))⟩))
      | true =>
        rw [if_pos rfl] at ha hb
        have ex := kids_true e1
        have ey := kids_true e2
        subst ex ey
        refine .inr (.inr (.inr ⟨a, b, as, bs, ea, eb, ha, hb, by omega, fun e0 => ?_, fun _ e1 => ?_, fun _ _ p hp => q _ _ _ (newV_tup s hp (dpAll_app da db))⟩))
        · subst e0
          cases da
          rw [← eb]
          exact q _ _ _ (newV_same s hy)
        · subst e1
          cases db
          rw [← ea]
          refine q _ _ _ (newV_same s ?_)
          rw [List.append_nil]
          exact hx
    · cases e
theorem opS_mul : OpS X (binaryOp .Mult) (bopR .mul) := by
  refine ⟨_, OpR.or op_mul (OpR.or op_rep (OpR.or op_repT op_rep1)), fun {G H v w x y z Q} s hx hy e q => ?_⟩
  unfold bopR at e
  split at e
  · obtain ⟨k, e1, e2⟩ := Option.map_eq_some_iff.mp e
    simp only [bopI] at e1
    split at e1
    · next c => cases e1; cases e2; exact .inl ⟨_, _, rv_int hx, rv_int hy, c, q _ _ _ (newV_same s (.int _))⟩
    · cases e1
  · split at e
    · next c => cases c
    · cases e
  · simp only [bopSeq] at e
    split at e
    · split at e
      · next c =>
        cases e
        obtain ⟨p, vs, e1, h1, h2⟩ := hx
        have l := dpAll_len h2
        exact .inr (.inl ⟨p, _, vs, e1, rv_int hy, h1, c.1, c.2.1, by rw [l]; exact c.2.2, fun p hp => q _ _ _ (newV_lst s hp (dpAll_rep h2 _))⟩)
      · cases e
    · split at e
      · next c =>
        cases e
        obtain ⟨a, vs, e1, h1, h2⟩ := rv_tup hx
        have l := dpAll_len h2
        rcases Int.lt_or_eq_of_le c.2.1 with c2 | c2
        · exact .inr (.inr (.inl ⟨a, _, vs, e1, rv_int hy, s.sqT h1, fun z => c.1 (by subst z; cases h2; rfl), by omega, c.2.2.1, by rw [l]; exact c.2.2.2, fun p hp => q _ _ _ (newV_tup s hp (dpAll_rep h2 _))⟩))
        · subst c2
          refine .inr (.inr (.inr ⟨a, vs, e1, rv_int hy, s.sqT h1, ?_⟩))
          rw [← e1]
          refine q _ _ _ (newV_same s ?_)
          rw [show (1 : Int).toNat = 1 from rfl, List.replicate_one, List.flatten_cons, List.flatten_nil, List.append_nil]
          exact hx
      · cases e
    · cases e
end
end Rx
set_option Elab.async false
set_option linter.all false
set_option maxHeartbeats 1000000
/-! Rx6: comparisons, subscripts, built-in functions on values that are read -/
namespace Rx
open PySem PySem.Spec L2
variable {K : PySem.W.Frag} {X : Cx} {f : Value → Value → Sem Value}
/-! ### comparisons -/
def OpC (X : Cx) (f : Value → Value → Sem Value) (s : R → R → Option Bool) : Prop := ∃ r : R2, OpR X f r ∧ ∀ {G H : Hp} {v w : V} {x y : R} {b : Bool} {Q : VK},
  Sub G H → RV X.K G H x v → RV X.K G H y w → s x y = some b → Q (.bl b) H → r v w H Q
theorem opC_eq (hu : X.A.units + 64 < cLine) : OpC X (compareOp .Eq) (copR .eq) := by
  refine ⟨_, op_eqD hu, fun {G H v w x y b Q} s hx hy e q => ?_⟩
  simp only [copR] at e
  split at e
  · next c =>
    cases e
    simp only [Bool.and_eq_true] at c
    exact ⟨_, _, toD_ok s hx, toD_ok s hy, c.1, c.2, q⟩
  · cases e
theorem opC_ne (hu : X.A.units + 64 < cLine) : OpC X (compareOp .NotEq) (copR .ne) := by
  refine ⟨_, op_neD hu, fun {G H v w x y b Q} s hx hy e q => ?_⟩
  simp only [copR] at e
  split at e
  · next c =>
    cases e
    simp only [Bool.and_eq_true] at c
    exact ⟨_, _, toD_ok s hx, toD_ok s hy, c.1, c.2, q⟩
  · cases e
theorem opC_int {o : Cop} {op : CmpOp} {g : Int → Int → Bool} (rule : OpR X (compareOp op) (rI0 fun i j => .bl (g i j)))
    (hc : ∀ {x y : R} {b : Bool}, copR o x y = some b → ∃ i j, x = .frz (.int i) ∧ y = .frz (.int j) ∧ b = g i j) : OpC X (compareOp op) (copR o) := by
  refine ⟨_, rule, fun {G H v w x y b Q} s hx hy e q => ?_⟩
  obtain ⟨i, j, rfl, rfl, rfl⟩ := hc e
  exact ⟨i, j, rv_int hx, rv_int hy, q⟩
theorem copR_int {o : Cop} {x y : R} {b : Bool} (h : copR o x y = some b) (n1 : o ≠ .eq) (n2 : o ≠ .ne) (n3 : o ≠ .inn) (n4 : o ≠ .nin) : ∃ i j, x = .frz (.int i) ∧ y = .frz (.int j) := by
  cases o <;> first | exact absurd rfl n1 | exact absurd rfl n2 | exact absurd rfl n3 | exact absurd rfl n4 | skip
  all_goals
    simp only [copR] at h
    split at h
    · exact ⟨_, _, rfl, rfl⟩
    · cases h
theorem opC_lt : OpC X (compareOp .Lt) (copR .lt) := opC_int op_lt fun {x y b} h => by
  obtain ⟨i, j, rfl, rfl⟩ := copR_int h (by decide) (by decide) (by decide) (by decide)
  cases h; exact ⟨i, j, rfl, rfl, rfl⟩
theorem opC_le : OpC X (compareOp .LtE) (copR .le) := opC_int op_le fun {x y b} h => by
  obtain ⟨i, j, rfl, rfl⟩ := copR_int h (by decide) (by decide) (by decide) (by decide)
  cases h; exact ⟨i, j, rfl, rfl, rfl⟩
theorem opC_gt : OpC X (compareOp .Gt) (copR .gt) := opC_int op_gt fun {x y b} h => by
  obtain ⟨i, j, rfl, rfl⟩ := copR_int h (by decide) (by decide) (by decide) (by decide)
  cases h; exact ⟨i, j, rfl, rfl, rfl⟩
theorem opC_ge : OpC X (compareOp .GtE) (copR .ge) := opC_int op_ge fun {x y b} h => by
  obtain ⟨i, j, rfl, rfl⟩ := copR_int h (by decide) (by decide) (by decide) (by decide)
  cases h; exact ⟨i, j, rfl, rfl, rfl⟩
/-- the items of what is walked by in -/
def seqOf (t : Bool) (ds : List D) : D := if t then .tuple ds else .list ds
theorem kids_toD {x : R} {t : Bool} {ds : List D} (h : kids x = some (t, ds)) : toD x = seqOf t ds := by
  unfold kids at h
  split at h <;> first | (cases h; rfl) | cases h
theorem op_inS (hu : X.A.units + 65 < cLine) (ng : Bool) : OpR X (compareOp (if ng then .NotIn else .In)) fun x y H Q => ∃ d t ds, Dp X.K H x d ∧ Dp X.K H y (seqOf t ds) ∧ SeqAt.shaped d = true ∧ (ds.all SeqAt.shaped) = true ∧ Q (.bl (ng ^^ ds.any fun z => PyData.eqv z d)) H := by
  intro pins s σ H x y v u Q I rx ry h
  obtain ⟨d, t, ds, hd, he, sd, se, q⟩ := h
  obtain ⟨as, r1⟩ := Dp.reads I d x v hd rx
  obtain ⟨bs, r2⟩ := Dp.reads I (seqOf t ds) y u he ry
  have lay : PyData.canLayAll0 ds = true := by
    clear r2 he q
    induction ds with
    | nil => rfl
    | cons z zs ih =>
      simp only [List.all_cons, Bool.and_eq_true] at se
      simp only [PyData.canLayAll0, Bool.and_eq_true]
      exact ⟨SeqAt.canLay_of_shaped se.1, ih se.2⟩
  have hroom : X.A.units + 1 + min (PyData.depthAll ds) d.depth < cLine := by
    have h1 := SeqAt.depth_of_shaped sd
    have h2 : min (PyData.depthAll ds) d.depth ≤ d.depth := Nat.min_le_right _ _
    omega
  cases t <;> cases ng
  · exact SeqAt.in_list_reads r2 r1 lay (SeqAt.canLay_of_shaped sd) hroom ⟨.bl _, H, I, rfl, by simpa using q⟩
  · exact SeqAt.notIn_list_reads r2 r1 lay (SeqAt.canLay_of_shaped sd) hroom ⟨.bl _, H, I, rfl, by simpa using q⟩
  · exact SeqAt.in_tuple_reads r2 r1 lay (SeqAt.canLay_of_shaped sd) hroom ⟨.bl _, H, I, rfl, by simpa using q⟩
  · exact SeqAt.notIn_tuple_reads r2 r1 lay (SeqAt.canLay_of_shaped sd) hroom ⟨.bl _, H, I, rfl, by simpa using q⟩
theorem opC_in (hu : X.A.units + 65 < cLine) : OpC X (compareOp .In) (copR .inn) := by
  refine ⟨_, op_inS hu false, fun {G H v w x y b Q} s hx hy e q => ?_⟩
  simp only [copR] at e
  obtain ⟨⟨t, ds⟩, e1, e⟩ := Option.bind_eq_some_iff.mp e
  simp only at e
  split at e
  · next c =>
    cases e
    simp only [Bool.and_eq_true] at c
    exact ⟨_, t, ds, toD_ok s hx, kids_toD e1 ▸ toD_ok s hy, c.1, c.2, by simpa using q⟩
  · cases e
theorem opC_nin (hu : X.A.units + 65 < cLine) : OpC X (compareOp .NotIn) (copR .nin) := by
  refine ⟨_, op_inS hu true, fun {G H v w x y b Q} s hx hy e q => ?_⟩
  simp only [copR] at e
  obtain ⟨⟨t, ds⟩, e1, e⟩ := Option.bind_eq_some_iff.mp e
  simp only at e
  split at e
  · next c =>
    cases e
    simp only [Bool.and_eq_true] at c
    exact ⟨_, t, ds, toD_ok s hx, kids_toD e1 ▸ toD_ok s hy, c.1, c.2, by simpa using q⟩
  · cases e
/-! ### subscripts -/
theorem atI_all {H : Hp} {vs : List V} {ds : List D} {i : Int} {d : D} (h : DpAll K H vs ds) (e : atI ds i = some d) : ∃ v, atI vs i = some v ∧ Dp K H v d := by
  unfold atI at e ⊢
  rw [dpAll_len h]
  obtain ⟨j, e1, e2⟩ := Option.bind_eq_some_iff.mp e
  obtain ⟨v, h1, h2⟩ := dpAll_get h e2
  exact ⟨v, by rw [e1]; exact h1, h2⟩
theorem ixS {G H : Hp} {v w : V} {x y : R} {d : D} {Q : VK} (s : Sub G H) (hx : RV K G H x v) (hy : RV K G H y w) (e : idxR x y = some d) (q : ∀ u, Dp K G u d → Q u H) : rIx K v w H Q := by
  unfold idxR at e
  split at e
  · next i =>
    have ew := rv_int hy
    subst ew
    split at e
    · next z =>
      split at e
      · next hz =>
        obtain ⟨c, e1, e2⟩ := Option.map_eq_some_iff.mp e
        cases e2
        exact .inr (.inr ⟨z, i, c, rv_str hx, rfl, hz, e1, q _ (.str _)⟩)
      · cases e
    · obtain ⟨⟨t, ds⟩, e1, e2⟩ := Option.bind_eq_some_iff.mp e
      obtain ⟨a, xs, ea, ha, da⟩ := kids_ok s hx e1
      obtain ⟨u, h1, h2⟩ := atI_all da e2
      cases t with
      | false => exact .inl ⟨a, xs, i, u, ea, rfl, by rw [if_neg (by decide)] at ha; exact ha, h1, q u h2⟩
      | true => exact .inr (.inl ⟨a, xs, i, u, ea, rfl, by rw [if_pos rfl] at ha; exact ha, h1, q u h2⟩)
  · cases e
theorem cut_all {H : Hp} {vs : List V} {ds : List D} (h : DpAll K H vs ds) (lo hi : Option Int) : DpAll K H (cutV vs lo hi) (cutD ds lo hi) := by
  unfold cutV cutD
  rw [dpAll_len h]
  exact dpAll_take _ (dpAll_drop _ h)
/-- a slice's part, told as the evaluator has it -/
def optD : Option Int → D
  | none => .none
  | some i => .int i
theorem optI_eq {r : R} {o : Option Int} (h : optI r = some o) : r = .frz (optD o) := by
  unfold optI at h
  split at h <;> first | (cases h; rfl) | cases h
theorem slS {X : Cx} {G H : Hp} {v : V} {x z : R} {lo hi : Option Int} {Q : VK} (s : Sub G H) (hx : RV X.K G H x v) (e : slcR x (.frz (optD lo)) (.frz (optD hi)) = some z) (q : ∀ u G' H', NewV X.K G H z u G' H' → Q u H') :
    (rSlL X.K v lo hi H Q ∨ rSlA X.K v lo hi H Q) := by
  have e1 : ∀ o : Option Int, optI (.frz (optD o)) = some o := fun o => by cases o <;> rfl
  simp only [slcR, e1, Option.bind_some] at e
  obtain ⟨⟨t, ds⟩, e2, e3⟩ := Option.map_eq_some_iff.mp e
  obtain ⟨a, xs, ea, ha, da⟩ := kids_ok s hx e2
  cases t with
  | false =>
    cases e3
    rw [if_neg (by decide)] at ha
    exact .inl ⟨a, xs, ea, ha, fun p hp => q _ _ _ (newV_lst s hp (cut_all da lo hi))⟩
  | true =>
    cases e3
    rw [if_pos rfl] at ha
    have ex := kids_true e2
    subst ex
    refine .inr ⟨a, xs, ea, ha, fun c => ?_, fun _ p hp => q _ _ _ (newV_tup s hp (cut_all da lo hi))⟩
    have l := dpAll_len da
    have e4 : cutD ds lo hi = ds := by
      unfold cutD
      rw [← l, c.1, c.2, List.drop_zero, Nat.sub_zero, l, List.take_length]
    rw [if_pos rfl, e4] at q
    subst ea
    exact q _ _ _ (newV_same s hx)
/-! ### built-in functions -/
inductive RVs (K : PySem.W.Frag) (G H : Hp) : List R → List V → Prop
  | nil : RVs K G H [] []
  | cons {x : R} {v : V} {xs : List R} {vs : List V} : RV K G H x v → RVs K G H xs vs → RVs K G H (x :: xs) (v :: vs)
theorem RVs.one {G H : Hp} {x : R} {vs : List V} (h : RVs K G H [x] vs) : ∃ v, vs = [v] ∧ RV K G H x v := by
  cases h with
  | cons a b => cases b; exact ⟨_, rfl, a⟩
theorem RVs.two {G H : Hp} {x y : R} {vs : List V} (h : RVs K G H [x, y] vs) : ∃ v w, vs = [v, w] ∧ RV K G H x v ∧ RV K G H y w := by
  cases h with
  | cons a b =>
    obtain ⟨w, rfl, c⟩ := b.one
    exact ⟨_, _, rfl, a, c⟩
/-- the call of f with one value keeps to s -/
def CallS (X : Cx) (f : Value) (s : R → Option R) : Prop := ∃ r, CallR X f r ∧ ∀ {G H : Hp} {v : V} {x z : R} {Q : VK},
  Sub G H → RV X.K G H x v → s x = some z → (∀ u G' H', NewV X.K G H z u G' H' → Q u H') → r [v] H Q
theorem sq_or {H : Hp} {a : Addr} {xs : List V} {t : Bool} (h : if t = true then SqT K H a xs else SqL K H a xs) : SqL K H a xs ∨ SqT K H a xs := by
  cases t with
  | false => rw [if_neg (by decide)] at h; exact .inl h
  | true => rw [if_pos rfl] at h; exact .inr h
theorem callS_len : CallS X (.builtin "len") lenR := by
  refine ⟨_, CallR.or call_len_str call_len_seq, fun {G H v x z Q} s h e q => ?_⟩
  unfold lenR at e
  split at e
  · split at e
    · next hz => cases e; exact .inl ⟨_, by rw [rv_str h], hz, q _ _ _ (newV_same s (.int _))⟩
    · cases e
  · obtain ⟨⟨t, ds⟩, e1, e2⟩ := Option.map_eq_some_iff.mp e
    cases e2
    obtain ⟨a, as, ea, ha, da⟩ := kids_ok s h e1
    refine .inr ⟨a, as, by rw [ea], sq_or ha, ?_⟩
    rw [dpAll_len da]; exact q _ _ _ (newV_same s (.int _))
theorem callS_list : CallS X (.type "list") (fun x => (kids x).map fun (_, ys) => .lst ys) := by
  refine ⟨_, call_list_of, fun {G H v x z Q} s h e q => ?_⟩
  obtain ⟨⟨t, ds⟩, e1, e2⟩ := Option.map_eq_some_iff.mp e
  cases e2
  obtain ⟨a, as, ea, ha, da⟩ := kids_ok s h e1
  exact ⟨a, as, by rw [ea], sq_or ha, fun p hp => q _ _ _ (newV_lst s hp da)⟩
theorem callS_tuple : CallS X (.type "tuple") (fun x => (kids x).map fun (_, ys) => .frz (.tuple ys)) := by
  refine ⟨_, call_tuple_of, fun {G H v x z Q} s h e q => ?_⟩
  obtain ⟨⟨t, ds⟩, e1, e2⟩ := Option.map_eq_some_iff.mp e
  cases e2
  obtain ⟨a, as, ea, ha, da⟩ := kids_ok s h e1
  refine ⟨a, as, by rw [ea], ?_⟩
  cases t with
  | false => rw [if_neg (by decide)] at ha; exact .inl ⟨ha, fun p hp => q _ _ _ (newV_tup s hp da)⟩
  | true =>
    rw [if_pos rfl] at ha
    have ex := kids_true e1
    subst ex
    subst ea
    exact .inr ⟨ha, q _ _ _ (newV_same s h)⟩
theorem callS_abs : CallS X (.builtin "abs") absR := by
  refine ⟨_, call_abs, fun {G H v x z Q} s h e q => ?_⟩
  unfold absR at e
  split at e
  · cases e; exact ⟨_, by rw [rv_int h], q _ _ _ (newV_same s (.int _))⟩
  · cases e
theorem callS_int : CallS X (.type "int") intR := by
  refine ⟨_, call_int1, fun {G H v x z Q} s h e q => ?_⟩
  unfold intR at e
  split at e
  · cases e; exact .inr ⟨_, by rw [rv_bool h], q _ _ _ (newV_same s (.int _))⟩
  · cases e; exact .inl ⟨_, by rw [rv_int h], q _ _ _ (newV_same s (.int _))⟩
  · cases e
theorem callS_str : CallS X (.type "str") strR := by
  refine ⟨_, call_str_int, fun {G H v x z Q} s h e q => ?_⟩
  unfold strR at e
  split at e
  · split at e
    · next hz => cases e; exact ⟨_, by rw [rv_int h], hz, q _ _ _ (newV_same s (.str _))⟩
    · cases e
  · cases e
theorem ints_all {H : Hp} : ∀ {ds : List D} {vs : List V} {ns : List Int}, DpAll K H vs ds → ints? ds = some ns → vs = ns.map V.int ∧ ds = ns.map .int
  | [], _, _, h, e => by cases h; cases e; exact ⟨rfl, rfl⟩
  | d :: ds, _, ns, h, e => by
    unfold ints? at e
    split at e
    · next hh => exact absurd hh (by simp)
    · next hh =>
      cases hh
      obtain ⟨ms, e1, e2⟩ := Option.map_eq_some_iff.mp e
      cases e2
      cases h with
      | cons a b =>
        cases a
        obtain ⟨r1, r2⟩ := ints_all b e1
        exact ⟨by rw [r1]; rfl, by rw [r2]; rfl⟩
    · cases e
theorem bools_all {H : Hp} : ∀ {ds : List D} {vs : List V} {ns : List Bool}, DpAll K H vs ds → bools? ds = some ns → vs = ns.map V.bl
  | [], _, _, h, e => by cases h; cases e; rfl
  | d :: ds, _, ns, h, e => by
    unfold bools? at e
    split at e
    · next hh => exact absurd hh (by simp)
    · next hh =>
      cases hh
      obtain ⟨ms, e1, e2⟩ := Option.map_eq_some_iff.mp e
      cases e2
      cases h with
      | cons a b =>
        cases a
        rw [bools_all b e1]; rfl
    · cases e
theorem callS_sum (hc : X.calm = true) : CallS X (.builtin "sum") sumR := by
  refine ⟨_, cr_sum hc, fun {G H v x z Q} s h e q => ?_⟩
  unfold sumR at e
  obtain ⟨⟨t, ds⟩, e1, e⟩ := Option.bind_eq_some_iff.mp e
  simp only at e
  cases t with
  | true => cases e
  | false =>
    rw [if_neg (by decide)] at e
    obtain ⟨ns, e2, e3⟩ := Option.map_eq_some_iff.mp e
    cases e3
    obtain ⟨a, as, ea, ha, da⟩ := kids_ok s h e1
    rw [if_neg (by decide)] at ha
    rw [(ints_all da e2).1] at ha
    exact ⟨a, ns, by rw [ea], ha, q _ _ _ (newV_same s (.int _))⟩
theorem callS_all (hc : X.calm = true) : CallS X (.builtin "all") (allR fun bs => bs.all id) := by
  refine ⟨_, cr_all hc, fun {G H v x z Q} s h e q => ?_⟩
  unfold allR at e
  obtain ⟨⟨t, ds⟩, e1, e⟩ := Option.bind_eq_some_iff.mp e
  simp only at e
  cases t with
  | true => cases e
  | false =>
    rw [if_neg (by decide)] at e
    obtain ⟨ns, e2, e3⟩ := Option.map_eq_some_iff.mp e
    cases e3
    obtain ⟨a, as, ea, ha, da⟩ := kids_ok s h e1
    rw [if_neg (by decide)] at ha
    rw [bools_all da e2] at ha
    exact ⟨a, ns, by rw [ea], ha, q _ _ _ (newV_same s (.bl _))⟩
theorem callS_any (hc : X.calm = true) : CallS X (.builtin "any") (allR fun bs => bs.any id) := by
  refine ⟨_, cr_any hc, fun {G H v x z Q} s h e q => ?_⟩
  unfold allR at e
  obtain ⟨⟨t, ds⟩, e1, e⟩ := Option.bind_eq_some_iff.mp e
  simp only at e
  cases t with
  | true => cases e
  | false =>
    rw [if_neg (by decide)] at e
    obtain ⟨ns, e2, e3⟩ := Option.map_eq_some_iff.mp e
    cases e3
    obtain ⟨a, as, ea, ha, da⟩ := kids_ok s h e1
    rw [if_neg (by decide)] at ha
    rw [bools_all da e2] at ha
    exact ⟨a, ns, by rw [ea], ha, q _ _ _ (newV_same s (.bl _))⟩
/-! max, min of a row of whole numbers -/
theorem vals_one {v : V} {us : List Value} (h : Vals [v] us) : ∃ u, us = [u] ∧ RelV v u := by
  cases h with
  | cons a b => cases b; exact ⟨_, rfl, a⟩
theorem alike_int (ns : List Int) : PySem.W.AlikeAll (ns.map PyData.int) := by
  refine ⟨fun x hx y hy => ?_, fun x hx => ?_⟩
  · obtain ⟨i, _, rfl⟩ := List.mem_map.mp hx
    obtain ⟨j, _, rfl⟩ := List.mem_map.mp hy
    rfl
  · obtain ⟨i, _, rfl⟩ := List.mem_map.mp hx
    exact fun z => nomatch z
theorem depth_int : ∀ ns : List Int, PyData.depthAll (ns.map PyData.int) = 0
  | [] => rfl
  | n :: ns => by simp [PyData.depthAll, PyData.depth, depth_int ns]
def rFold (K : PySem.W.Frag) (g : Int → Int → Int) : List V → Hp → VK → Prop := fun vs H Q => ∃ a n ns t, vs = [.ref a] ∧ Dp K H (.ref a) (seqOf t ((n :: ns).map .int)) ∧ Q (.int (ns.foldl g n)) H
theorem cr_fold (hc : X.calm = true) (hu : X.A.units + 64 < cLine) (b : Bool) : CallR X (.builtin (if b then "max" else "min")) (rFold X.K (if b then max else min)) := by
  intro pins s σ H vs us Q I r h
  obtain ⟨a, n, ns, t, rfl, hd, q⟩ := h
  obtain ⟨u, rfl, ru⟩ := vals_one r
  obtain ⟨as, rr⟩ := Dp.reads I _ _ _ hd ru
  cases ru
  have al := alike_int (n :: ns)
  have room : X.A.units + 1 + PyData.depthAll ((n :: ns).map PyData.int) < cLine := by rw [depth_int]; omega
  have fin : ∀ (k : Int) (h' : Heap) (tk : Nat) (v : Value) (bs : List Addr), Reads h' v (.int k) bs → (∀ b o, s.heap.get? b = some o → h'.get? b = some o) → Q (.int k) H → EP X pins σ Q v { s with heap := h', toks := tk } := by
    intro k h' tk v bs rd kp q
    cases rd with
    | int i t => exact ⟨.int k, H, I.kept kp, ⟨_, rfl⟩, q⟩
  cases t with
  | false =>
    cases rr with
    | list h1 h2 h3 h4 =>
      cases b with
      | true => exact PySem.W.max_list_data (I.ok.hd hc) ⟨_, h1, h2, _, h3⟩ h4 al room fun i v h' tk bs _ rd kp => fin _ h' tk v bs (by rw [PySem.W.maxD_ints] at rd; exact rd) kp q
      | false => exact PySem.W.min_list_data (I.ok.hd hc) ⟨_, h1, h2, _, h3⟩ h4 al room fun i v h' tk bs _ rd kp => fin _ h' tk v bs (by rw [PySem.W.minD_ints] at rd; exact rd) kp q
  | true =>
    cases rr with
    | tuple h1 h2 h3 h4 =>
      cases b with
      | true => exact PySem.W.max_tuple_data (I.ok.hd hc) ⟨_, h1, h2, _, h3⟩ h4 al room fun i v h' tk bs _ rd kp => fin _ h' tk v bs (by rw [PySem.W.maxD_ints] at rd; exact rd) kp q
      | false => exact PySem.W.min_tuple_data (I.ok.hd hc) ⟨_, h1, h2, _, h3⟩ h4 al room fun i v h' tk bs _ rd kp => fin _ h' tk v bs (by rw [PySem.W.minD_ints] at rd; exact rd) kp q
end Rx
set_option Elab.async false
set_option linter.all false
set_option maxHeartbeats 1000000
/-! Rx7: max, min, sorted, repr, isinstance -/
namespace Rx
open PySem PySem.Spec L2
variable {K : PySem.W.Frag} {X : Cx}
theorem callS_fold (hc : X.calm = true) (hu : X.A.units + 64 < cLine) (b : Bool) : CallS X (.builtin (if b then "max" else "min")) (foldR (if b then max else min)) := by
  refine ⟨_, cr_fold hc hu b, fun {G H v x z Q} s h e q => ?_⟩
  unfold foldR at e
  obtain ⟨⟨t, ds⟩, e1, e⟩ := Option.bind_eq_some_iff.mp e
  obtain ⟨ns, e2, e⟩ := Option.bind_eq_some_iff.mp e
  obtain ⟨a, as, ea, ha, da⟩ := kids_ok s h e1
  have hd := kids_toD e1 ▸ toD_ok s h
  obtain ⟨_, e3⟩ := ints_all da e2
  subst ea
  cases ns with
  | nil => cases e
  | cons n ns =>
    cases e
    rw [e3] at hd
    exact ⟨a, n, ns, t, rfl, hd, q _ _ _ (newV_same s (.int _))⟩
/-! ### repr of lists and tuples -/
def rRepr (K : PySem.W.Frag) : List V → Hp → VK → Prop := fun vs H Q => ∃ a t ds, vs = [.ref a] ∧ Dp K H (.ref a) (seqOf t ds) ∧ (seqOf t ds).showable = true ∧ SeqAt.shaped (seqOf t ds) = true ∧ (seqOf t ds).shown.length ≤ sizeLine ∧ Q (.str (seqOf t ds).shown) H
theorem cr_repr (hg : X.A.guards = some []) (hu : X.A.units + 65 < cLine) : CallR X (.builtin "repr") (rRepr X.K) := by
  intro pins s σ H vs us Q I r h
  obtain ⟨a, t, ds, rfl, hd, h1, h2, h3, q⟩ := h
  obtain ⟨u, rfl, ru⟩ := vals_one r
  obtain ⟨as, rr⟩ := Dp.reads I _ _ _ hd ru
  cases ru
  have dp := SeqAt.depth_of_shaped h2
  refine repr_of_reads' rr h1 (PyData.noDict_hsm (PyData.hasDict_of_canLay _ (SeqAt.canLay_of_shaped h2))) hg (by omega) (fun _ _ e => e) (fun h' u tk hk => ⟨.str _, H, I.kept hk, ⟨_, rfl⟩, q⟩) h3
theorem callS_repr (hg : X.A.guards = some []) (hu : X.A.units + 65 < cLine) : CallS X (.builtin "repr") reprR := by
  refine ⟨_, cr_repr hg hu, fun {G H v x z Q} s h e q => ?_⟩
  have hd := toD_ok s h
  unfold reprR at e
  split at e
  · next ds hh =>
    rw [hh] at hd
    split at e
    · next c =>
      cases e
      simp only [Bool.and_eq_true, decide_eq_true_eq] at c
      obtain ⟨a, ev⟩ : ∃ a, v = .ref a := by cases hd; exact ⟨_, rfl⟩
      subst ev
      exact ⟨a, false, ds, rfl, hd, c.1.1, c.1.2, c.2, q _ _ _ (newV_same s (.str _))⟩
    · cases e
  · next ds hh =>
    rw [hh] at hd
    split at e
    · next c =>
      cases e
      simp only [Bool.and_eq_true, decide_eq_true_eq] at c
      obtain ⟨a, ev⟩ : ∃ a, v = .ref a := by cases hd; exact ⟨_, rfl⟩
      subst ev
      exact ⟨a, true, ds, rfl, hd, c.1.1, c.1.2, c.2, q _ _ _ (newV_same s (.str _))⟩
    · cases e
  · cases e
/-! ### sorted of a list of alike data -/
theorem depth_mem : ∀ {ds : List D} {d : D}, d ∈ ds → ds.all SeqAt.shaped = true → d.depth ≤ 64
  | d' :: ds, d, h, s => by
    simp only [List.all_cons, Bool.and_eq_true] at s
    rcases List.mem_cons.mp h with e | h
    · rw [e]; exact SeqAt.depth_of_shaped s.1
    · exact depth_mem h s.2
def rSortD (K : PySem.W.Frag) : List V → Hp → VK → Prop := fun vs H Q => ∃ a xs ds, vs = [.ref a] ∧ (SqL K H a xs ∨ SqT K H a xs) ∧ DpAll K H xs ds ∧ sortOk ds = true ∧ ∀ p ys, H p = none → (∃ zs : List (V × D), zs.Perm (xs.zip ds) ∧ ys = zs.map (·.1) ∧ sortD ds = zs.map (·.2)) → Q (.ref p) (upd H p (.lst ys))
theorem zip_snd : ∀ {xs : List V} {ds : List D}, xs.length = ds.length → (xs.zip ds).map (·.2) = ds
  | [], [], _ => rfl
  | _ :: xs, _ :: ds, h => by
    simp only [List.zip_cons_cons, List.map_cons]
    rw [zip_snd (by simpa using h)]
  | [], _ :: _, h => by simp at h
  | _ :: _, [], h => by simp at h
theorem each_of (H h : Hp) : True := trivial
theorem cr_sortD (hu : X.A.units + 70 < cLine) : CallR X (.builtin "sorted") (rSortD X.K) := by
  intro pins s σ H vs us Q I r h
  obtain ⟨a, xs, ds, rfl, hs, hd, ok, q⟩ := h
  obtain ⟨u, rfl, ru⟩ := vals_one r
  cases ru
  rcases hs with hs | hs
  · obtain ⟨its, rv, hl, hz⟩ := I.list hs
    have hlen := dpAll_len hd
    unfold sortOk at ok
    simp only [Bool.and_eq_true, decide_eq_true_eq, Bool.or_eq_true] at ok
    obtain ⟨⟨⟨o1, o2⟩, o3⟩, o4⟩ := ok
    -- the items beside what they are
    have each : ∀ {xs : List V} {ds : List D} {its : List Value}, DpAll X.K H xs ds → Vals xs its →
        PySem.W.EachIs (fun u (b : V × D) => RelV b.1 u) its (xs.zip ds) ∧ PySem.W.EachIs (fun u (b : V × D) => ∃ as, Reads s.heap u b.2 as) its (xs.zip ds) := by
      intro xs ds its hd rv
      induction ds generalizing xs its with
      | nil => cases hd; cases rv; exact ⟨.nil, .nil⟩
      | cons d ds ih =>
        cases hd with
        | cons h1 h2 =>
          cases rv with
          | cons r1 r2 =>
            obtain ⟨a1, a2⟩ := ih h2 r2
            exact ⟨.cons r1 a1, .cons (Dp.reads I d _ _ h1 r1) a2⟩
    obtain ⟨e1, e2⟩ := each hd rv
    have sn : (xs.zip ds).map (·.2) = ds := zip_snd hlen
    have sn' : List.map (fun (b : V × D) => b.2) (xs.zip ds) = ds := sn
    refine PySem.W.sorted_data (enc := fun b : V × D => b.2) hl.isList e1 e2 ?_ ?_ ?_ (fun b hb => ?_) fun out ho hout => ?_
    · rw [sn']
      intro d hd' d' hd2
      rw [List.all_eq_true] at o1
      have := o1 d hd'
      rw [List.all_eq_true] at this
      exact this d' hd2
    · rw [sn']
      rcases o2 with o | o
      · refine .inl fun d hd' => ?_
        have := List.all_eq_true.mp o d hd'
        unfold tupNE at this
        split at this
        · exact ⟨_, _, rfl⟩
        · cases this
      · refine .inr fun d hd' => ?_
        have := List.all_eq_true.mp o d hd'
        refine ⟨fun z => ?_, fun zs z => ?_⟩ <;> (subst z; cases this)
    · rw [List.length_zip, hlen, Nat.min_self]; exact o4
    · have : b.2 ∈ ds := (List.of_mem_zip (show (b.1, b.2) ∈ xs.zip ds from hb)).2
      have := depth_mem this o3
      omega
    · obtain ⟨ep, he⟩ := PyProof.Rows.sortedAll_at s.heap its out.toArray
      have vo : ∀ {l : List (V × D)} {out : List Value}, PySem.W.EachIs (fun u (b : V × D) => RelV b.1 u) out l → Vals (l.map (·.1)) out := by
        intro l out e
        induction e with
        | nil => exact .nil
        | cons a _ ih => exact .cons a ih
      have hv := vo hout
      have hl2 := hv.length
      refine ⟨.ref _, _, I.laid (t' := s.toks) (o := .lst _) (fun _ _ => PyProof.Rows.sortedAll_old) (Nat.le_succ _) ⟨?_, out, ep, hv, he⟩, rfl, q _ _ (I.hok.fresh (Nat.le_succ _)) ⟨_, List.mergeSort_perm _ _, rfl, ?_⟩⟩
      · rw [hl2, ho, List.length_zip, hlen, Nat.min_self]; exact o4
      · unfold sortD
        have hm := List.map_mergeSort (r := PySem.W.dataLe false fun b : V × D => b.2) (s := PySem.W.dataLe false id) (f := fun b : V × D => b.2) (l := xs.zip ds) (fun _ _ _ _ => rfl)
        rw [sn'] at hm
        exact hm.symm
  · obtain ⟨its, rv, hl, hz⟩ := I.tuple hs
    have hlen := dpAll_len hd
    unfold sortOk at ok
    simp only [Bool.and_eq_true, decide_eq_true_eq, Bool.or_eq_true] at ok
    obtain ⟨⟨⟨o1, o2⟩, o3⟩, o4⟩ := ok
    -- the items beside what they are
    have each : ∀ {xs : List V} {ds : List D} {its : List Value}, DpAll X.K H xs ds → Vals xs its →
        PySem.W.EachIs (fun u (b : V × D) => RelV b.1 u) its (xs.zip ds) ∧ PySem.W.EachIs (fun u (b : V × D) => ∃ as, Reads s.heap u b.2 as) its (xs.zip ds) := by
      intro xs ds its hd rv
      induction ds generalizing xs its with
      | nil => cases hd; cases rv; exact ⟨.nil, .nil⟩
      | cons d ds ih =>
        cases hd with
        | cons h1 h2 =>
          cases rv with
          | cons r1 r2 =>
            obtain ⟨a1, a2⟩ := ih h2 r2
            exact ⟨.cons r1 a1, .cons (Dp.reads I d _ _ h1 r1) a2⟩
    obtain ⟨e1, e2⟩ := each hd rv
    have sn : (xs.zip ds).map (·.2) = ds := zip_snd hlen
    have sn' : List.map (fun (b : V × D) => b.2) (xs.zip ds) = ds := sn
    refine PySem.W.sorted_dataT (enc := fun b : V × D => b.2) hl e1 e2 ?_ ?_ ?_ (fun b hb => ?_) fun out ho hout => ?_
    · rw [sn']
      intro d hd' d' hd2
      rw [List.all_eq_true] at o1
      have := o1 d hd'
      rw [List.all_eq_true] at this
      exact this d' hd2
    · rw [sn']
      rcases o2 with o | o
      · refine .inl fun d hd' => ?_
        have := List.all_eq_true.mp o d hd'
        unfold tupNE at this
        split at this
        · exact ⟨_, _, rfl⟩
        · cases this
      · refine .inr fun d hd' => ?_
        have := List.all_eq_true.mp o d hd'
        refine ⟨fun z => ?_, fun zs z => ?_⟩ <;> (subst z; cases this)
    · rw [List.length_zip, hlen, Nat.min_self]; exact o4
    · have : b.2 ∈ ds := (List.of_mem_zip (show (b.1, b.2) ∈ xs.zip ds from hb)).2
      have := depth_mem this o3
      omega
    · obtain ⟨ep, he⟩ := PyProof.Rows.sortedAll_at s.heap its out.toArray
      have vo : ∀ {l : List (V × D)} {out : List Value}, PySem.W.EachIs (fun u (b : V × D) => RelV b.1 u) out l → Vals (l.map (·.1)) out := by
        intro l out e
        induction e with
        | nil => exact .nil
        | cons a _ ih => exact .cons a ih
      have hv := vo hout
      have hl2 := hv.length
      refine ⟨.ref _, _, I.laid (t' := s.toks) (o := .lst _) (fun _ _ => PyProof.Rows.sortedAll_old) (Nat.le_succ _) ⟨?_, out, ep, hv, he⟩, rfl, q _ _ (I.hok.fresh (Nat.le_succ _)) ⟨_, List.mergeSort_perm _ _, rfl, ?_⟩⟩
      · rw [hl2, ho, List.length_zip, hlen, Nat.min_self]; exact o4
      · unfold sortD
        have hm := List.map_mergeSort (r := PySem.W.dataLe false fun b : V × D => b.2) (s := PySem.W.dataLe false id) (f := fun b : V × D => b.2) (l := xs.zip ds) (fun _ _ _ _ => rfl)
        rw [sn'] at hm
        exact hm.symm
theorem dpAll_zip {G : Hp} : ∀ {xs : List V} {ds : List D}, DpAll K G xs ds → ∀ b ∈ xs.zip ds, Dp K G b.1 b.2
  | _, [], h, b, hb => by cases h; cases hb
  | _, d :: ds, h, b, hb => by
    cases h with
    | cons a t =>
      rcases List.mem_cons.mp hb with e | hb
      · rw [e]; exact a
      · exact dpAll_zip t b hb
theorem dpAll_of {G : Hp} : ∀ {zs : List (V × D)}, (∀ b ∈ zs, Dp K G b.1 b.2) → DpAll K G (zs.map (·.1)) (zs.map (·.2))
  | [], _ => .nil
  | b :: zs, h => .cons (h b List.mem_cons_self) (dpAll_of fun c hc => h c (List.mem_cons_of_mem _ hc))
theorem callS_sorted (hu : X.A.units + 70 < cLine) : CallS X (.builtin "sorted") sortedR := by
  refine ⟨_, cr_sortD hu, fun {G H v x z Q} s h e q => ?_⟩
  unfold sortedR at e
  obtain ⟨⟨t, ds⟩, e1, e⟩ := Option.bind_eq_some_iff.mp e
  simp only at e
  split at e
  · next c =>
    cases e
    obtain ⟨a, as, ea, ha, da⟩ := kids_ok s h e1
    refine ⟨a, as, ds, by rw [ea], ?_, dpAll_sub s da, c, fun p ys hp hh => ?_⟩
    · cases t with
      | true => rw [if_pos rfl] at ha; exact .inr ha
      | false => rw [if_neg (by decide)] at ha; exact .inl ha
    obtain ⟨zs, h1, h2, h3⟩ := hh
    refine q _ _ _ (newV_lst s hp ?_)
    rw [h2, h3]
    exact dpAll_of fun b hb => dpAll_zip da b (h1.subset hb)
  · cases e
/-! ### isinstance -/
def tyS : Ty → String
  | .int => "int"
  | .bool => "bool"
  | .str => "str"
  | .list => "list"
  | .tuple => "tuple"
def dTy : D → String
  | .none => "NoneType"
  | .bool _ => "bool"
  | .int _ => "int"
  | .str _ => "str"
  | .list _ => "list"
  | .tuple _ => "tuple"
  | .dict _ => "dict"
theorem tyX_of {H : Hp} {v : V} {d : D} (h : Dp K H v d) : TyX K H v (.type (dTy d)) := by
  cases h with
  | non => exact .base .non
  | bl b => exact .base (.bl b)
  | int i => exact .base (.int i)
  | str z => exact .base (.str z)
  | lst a b =>
    rcases a with (a | ⟨o, a⟩) | ⟨o, _, _, hk, hc, _⟩
    · exact .base (.lst a)
    · exact .base (.frz a)
    · exact .kList hk hc
  | tup a b =>
    rcases a with (a | ⟨o, a⟩) | ⟨o, _, _, hk, hc, _⟩
    · exact .base (.tup a)
    · exact .fTuple a
    · exact .kTuple hk hc
theorem kit_isTy (d : D) (t : Ty) (hd : ∀ k, d ≠ .dict k) : PySem.W.kitOne K (.type (dTy d)) (.type (tyS t)) = some (isTy d t) := by
  cases d with
  | dict k => exact absurd rfl (hd k)
  | _ => cases t <;> simp only [dTy, tyS, isTy] <;> exact kit_ty (by decide +kernel)
theorem kit_anyTy (d : D) (hd : ∀ k, d ≠ .dict k) : ∀ ts : List Ty, PySem.W.kitAny K (.type (dTy d)) (ts.map fun t => .type (tyS t)) = some (ts.any (isTy d))
  | [] => rfl
  | t :: ts => by
    refine kitAny_cons (kit_isTy d t hd) (fun e => ?_) fun e => ?_
    · rw [kit_anyTy d hd ts, List.any_cons, e, Bool.false_or]
    · rw [List.any_cons, e, Bool.true_or]
theorem dp_noDict {H : Hp} {v : V} {d : D} (h : Dp K H v d) : ∀ k, d ≠ .dict k := fun k e => by
  subst e; cases h
end Rx
set_option Elab.async false
set_option linter.all false
set_option maxHeartbeats 1000000
/-! Rx8: expressions beside their meaning -/
namespace Rx
open PySem PySem.Spec L2
variable {X : Cx}
def SemE (X : Cx) (t : TE) (m : Sto → Out Opd) : Prop := ∀ {G0 G : Hp} {ρ : Sto} {σ : L2.St} {H : Hp} {Q : VK} {x : Opd} {ρ' : Sto}, Rel X.K G0 G ρ σ H → m ρ = .ret x ρ' →
  (∀ G' H' v, Aft X.K G0 σ ρ G H ρ' G' H' → OpdOk X.K G' H' H ρ' σ x v → Q v H') → t σ H Q
def SE (X : Cx) (e : Expr) (m : Sto → Out Opd) : Prop := ∃ t : TE, PE X e t ∧ SemE X t m
/-- as a test -/
def SemT (X : Cx) (t : TT) (m : Sto → Out Opd) : Prop := ∀ {G0 G : Hp} {ρ : Sto} {σ : L2.St} {H : Hp} {Q : Bool → Hp → Prop} {x : Opd} {ρ' : Sto} {b : Bool}, Rel X.K G0 G ρ σ H → m ρ = .ret x ρ' → asBool ρ' x = some b →
  (∀ G' H', Aft X.K G0 σ ρ G H ρ' G' H' → Q b H') → t σ H Q
def ST (X : Cx) (e : Expr) (m : Sto → Out Opd) : Prop := ∃ t : TT, PT X e t ∧ SemT X t m
def SW (X : Cx) (e : Expr) (m : Sto → Out Opd) : Prop := ∃ t : TT, PW X e t ∧ SemT X t m
/-- arguments -/
def SemA (X : Cx) (t : TA) (m : Sto → Out (List Opd)) : Prop := ∀ {G0 G : Hp} {ρ : Sto} {σ : L2.St} {H : Hp} {Q : List V → Hp → Prop} {xs : List Opd} {ρ' : Sto}, Rel X.K G0 G ρ σ H → m ρ = .ret xs ρ' →
  (∀ G' H' vs, Aft X.K G0 σ ρ G H ρ' G' H' → OpdsOk X.K G' H' H ρ' σ xs vs → Q vs H') → t σ H Q
def SA (X : Cx) (es : List Expr) (m : Sto → Out (List Opd)) : Prop := ∃ t : TA, PA X es t ∧ SemA X t m
section
variable {G0 G : Hp} {ρ ρ' ρ1 : Sto} {σ : L2.St} {H : Hp}
theorem sem_two {ta tb : TE} {ma mb : Sto → Out Opd} {α : Type} {k : Opd → Opd → Sto → Out α} {z : α} {C : V → V → Hp → Prop} (Sa : SemE X ta ma) (Sb : SemE X tb mb) (R : Rel X.K G0 G ρ σ H)
    (h : ((ma ρ).bind fun x ρ1 => (mb ρ1).bind fun y ρ2 => k x y ρ2) = .ret z ρ')
    (hC : ∀ x y ρ2 G2 H2 v w, Aft X.K G0 σ ρ G H ρ2 G2 H2 → OpdOk X.K G2 H2 H ρ2 σ x v → OpdOk X.K G2 H2 H ρ2 σ y w → k x y ρ2 = .ret z ρ' → C v w H2) : ta σ H fun v H1 => tb σ H1 fun w H2 => C v w H2 := by
  obtain ⟨x, ρ1, e1, h⟩ := bind_ret h
  obtain ⟨y, ρ2, e2, h⟩ := bind_ret h
  refine Sa R e1 fun G1 H1 v a o => Sb a.rel e2 fun G2 H2 w b o2 => ?_
  exact hC x y ρ2 G2 H2 v w (a.trans b) (o.later R a b) (o2.wider R a) h
theorem Aft.newV {z : R} {u : V} {G1 H1 G' H' : Hp} (R : Rel X.K G0 G ρ σ H) (a : Aft X.K G0 σ ρ G H ρ1 G1 H1) (n : NewV X.K G1 H1 z u G' H') : Aft X.K G0 σ ρ G H ρ1 G' H' ∧ OpdOk X.K G' H' H ρ1 σ (.val z) u := by
  obtain ⟨s, t, v⟩ := n
  have r := a.rel.step s t fun _ _ h => h
  exact ⟨a.trans ⟨r, s.mono fun _ h => h.elim, fun _ => rfl⟩, ValOk.wider R a v⟩
theorem Aft.sameV {d : D} {u : V} {G1 H1 : Hp} (h : Dp X.K G1 u d) : OpdOk X.K G1 H1 H ρ1 σ (.val (.frz d)) u := h
end
theorem asBool_rd {ρ : Sto} {x : Opd} {b : Bool} (h : asBool ρ x = some b) : rd ρ x = some (.frz (.bool b)) := by
  unfold asBool at h
  split at h
  · next e => cases h; exact e
  · cases h
theorem asBool_v {G0 G H Hs : Hp} {ρ : Sto} {σ : L2.St} {x : Opd} {v : V} {b : Bool} (R : Rel X.K G0 G ρ σ H) (o : OpdOk X.K G H Hs ρ σ x v) (h : asBool ρ x = some b) : v = .bl b := rv_bool (rd_ok R o (asBool_rd h))
/-! ### leaves -/
section
variable {pos : Pos}
theorem se_const {d : D} {v : V} {e : Expr} (he : PE X e (tC v)) (hd : ∀ G, Dp X.K G v d) : SE X e (evE (.const d)) :=
  ⟨_, he, fun {G0 G ρ σ H Q x ρ'} R h q => by cases h; exact q G H v (Aft.refl R) (hd G)⟩
theorem se_int {i : Int} {j : Nat} : SE X (.Constant (.int i) j pos) (evE (.const (.int i))) := se_const pe_int fun _ => .int i
theorem se_bool {i : Bool} {j : Nat} : SE X (.Constant (.bool i) j pos) (evE (.const (.bool i))) := se_const pe_bl fun _ => .bl i
theorem se_none {j : Nat} : SE X (.Constant .none j pos) (evE (.const .none)) := se_const pe_non fun _ => .non
theorem se_str {z : Str} {j : Nat} : SE X (.Constant (.str z) j pos) (evE (.const (.str z))) := se_const pe_str fun _ => .str z
theorem se_var {i : Nat} {x : Str} (hN : X.N[i]? = some x) (hv : Vis X.env.scope x) (hd : (x == ("__debug__" : Str)) = false) (hcd : (x == ("__classdict__" : Str)) = false) : SE X (.Name x pos) (evE (.var i)) := by
  refine ⟨_, pe_var hN hv hd hcd, fun {G0 G ρ σ H Q x ρ'} R h q => ?_⟩
  unfold evE at h
  split at h
  · next d e =>
    cases h
    obtain ⟨v, e1, o⟩ := R.ok _ _ e
    exact ⟨v, e1, q G H v (Aft.refl R) (dp_sub R.s0 o)⟩
  · next d e =>
    cases h
    obtain ⟨v, e1, o⟩ := R.ok _ _ e
    exact ⟨v, e1, q G H v (Aft.refl R) o⟩
  · next m k ds e =>
    cases h
    obtain ⟨v, e1, o⟩ := R.ok _ _ e
    exact ⟨v, e1, q G H v (Aft.refl R) ⟨by rw [mkk_of e]; rfl, e1⟩⟩
  · cases h
theorem se_glob {x : Str} {v : V} {u : Value} {d : D} (hg : Gl X x) (hm : X.mg x = some u) (r : RelV v u) (hd : (x == ("__debug__" : Str)) = false) (hD : ∀ G, Dp X.K G v d) : SE X (.Name x pos) (evE (.const d)) := se_const (pe_glob hg hm r hd) hD
/-! ### operators -/
variable {a b c : Expr} {A B C : E}
theorem se_bop {op : Operator} {o : Bop} (hop : OpS X (binaryOp op) (bopR o)) (ha : SE X a (evE A)) (hb : SE X b (evE B)) : SE X (.BinOp a op b pos) (evE (.bop o A B)) := by
  obtain ⟨ta, pa, sa⟩ := ha
  obtain ⟨tb, pb, sb⟩ := hb
  obtain ⟨r, rr, hr⟩ := hop
  refine ⟨_, pe_op rr pa pb, fun {G0 G ρ σ H Q x ρ'} R h q => ?_⟩
  unfold evE at h
  refine sem_two sa sb R h fun x y ρ2 G2 H2 v w af o1 o2 h => ?_
  obtain ⟨x', e1, h⟩ := lift_ret h
  obtain ⟨y', e2, h⟩ := lift_ret h
  obtain ⟨z, e3, h⟩ := lift_ret h
  cases h
  refine hr af.rel.s1 (rd_ok af.rel o1 e1) (rd_ok af.rel o2 e2) e3 fun u G' H' n => ?_
  obtain ⟨af', o⟩ := af.newV R n
  exact q G' H' u af' o
theorem se_neg (ha : SE X a (evE A)) : SE X (.UnaryOp .USub a pos) (evE (.neg A)) := by
  obtain ⟨ta, pa, sa⟩ := ha
  refine ⟨_, pe_un un_neg pa, fun {G0 G ρ σ H Q x ρ'} R h q => ?_⟩
  unfold evE at h
  obtain ⟨x, ρ1, e1, h⟩ := bind_ret h
  refine sa R e1 fun G1 H1 v af o => ?_
  split at h
  · next i e =>
    cases h
    exact ⟨i, rv_int (rd_ok af.rel o e), q G1 H1 _ af (Dp.int (-i))⟩
  · cases h
theorem se_cop {op : CmpOp} {o : Cop} (hop : OpC X (compareOp op) (copR o)) (hm : behindInMarks op b = false) (ha : SE X a (evE A)) (hb : SE X b (evE B)) : SE X (.Compare a [op] [b] pos) (evE (.cop o A B)) := by
  obtain ⟨ta, pa, sa⟩ := ha
  obtain ⟨tb, pb, sb⟩ := hb
  obtain ⟨r, rr, hr⟩ := hop
  refine ⟨_, pe_cmpR rr pa pb hm, fun {G0 G ρ σ H Q x ρ'} R h q => ?_⟩
  unfold evE at h
  refine sem_two sa sb R h fun x y ρ2 G2 H2 v w af o1 o2 h => ?_
  obtain ⟨x', e1, h⟩ := lift_ret h
  obtain ⟨y', e2, h⟩ := lift_ret h
  obtain ⟨z, e3, h⟩ := lift_ret h
  cases h
  exact hr af.rel.s1 (rd_ok af.rel o1 e1) (rd_ok af.rel o2 e2) e3 (q G2 H2 _ af (Dp.bl z))
theorem st_cop {op : CmpOp} {o : Cop} (hop : OpC X (compareOp op) (copR o)) (hm : behindInMarks op b = false) (ha : SE X a (evE A)) (hb : SE X b (evE B)) : ST X (.Compare a [op] [b] pos) (evE (.cop o A B)) := by
  obtain ⟨ta, pa, sa⟩ := ha
  obtain ⟨tb, pb, sb⟩ := hb
  obtain ⟨r, rr, hr⟩ := hop
  refine ⟨_, pt_cmpR rr pa pb hm, fun {G0 G ρ σ H Q x ρ' b'} R h hb' q => ?_⟩
  unfold evE at h
  refine sem_two sa sb R h fun x y ρ2 G2 H2 v w af o1 o2 h => ?_
  obtain ⟨x', e1, h⟩ := lift_ret h
  obtain ⟨y', e2, h⟩ := lift_ret h
  obtain ⟨z, e3, h⟩ := lift_ret h
  cases h
  cases hb'
  exact hr af.rel.s1 (rd_ok af.rel o1 e1) (rd_ok af.rel o2 e2) e3 ⟨_, rfl, q G2 H2 af⟩
theorem sem_chain {r r' : R2} {o o' : Cop} {ta tb tc : TE}
    (hr : ∀ {G H : Hp} {v w : V} {x y : R} {b : Bool} {Q : VK}, Sub G H → RV X.K G H x v → RV X.K G H y w → copR o x y = some b → Q (.bl b) H → r v w H Q)
    (hr' : ∀ {G H : Hp} {v w : V} {x y : R} {b : Bool} {Q : VK}, Sub G H → RV X.K G H x v → RV X.K G H y w → copR o' x y = some b → Q (.bl b) H → r' v w H Q)
    (sa : SemE X ta (evE A)) (sb : SemE X tb (evE B)) (sc : SemE X tc (evE C)) : SemE X (tChain r r' ta tb tc) (evE (.ch2 o o' A B C)) := by
  intro G0 G ρ σ H Q x ρ' R h q
  unfold evE at h
  refine sem_two sa sb R h fun x y ρ2 G2 H2 v w af o1 o2 h => ?_
  obtain ⟨x', e1, h⟩ := lift_ret h
  obtain ⟨y', e2, h⟩ := lift_ret h
  obtain ⟨k, e3, h⟩ := lift_ret h
  refine hr af.rel.s1 (rd_ok af.rel o1 e1) (rd_ok af.rel o2 e2) e3 ⟨k, rfl, ?_⟩
  cases k with
  | false =>
    rw [if_neg Bool.false_ne_true] at h ⊢
    cases h
    exact q G2 H2 _ af (Dp.bl false)
  | true =>
    rw [if_pos rfl] at h ⊢
    obtain ⟨z, ρ3, e4, h⟩ := bind_ret h
    obtain ⟨y2, e5, h⟩ := lift_ret h
    obtain ⟨z', e6, h⟩ := lift_ret h
    obtain ⟨l, e7, h⟩ := lift_ret h
    cases h
    refine sc af.rel e4 fun G3 H3 u bf o3 => ?_
    have o2' := o2.later R af bf
    exact hr' bf.rel.s1 (rd_ok bf.rel o2' e5) (rd_ok bf.rel o3 e6) e7 (q G3 H3 _ (af.trans bf) (Dp.bl l))
theorem se_chain {op op' : CmpOp} {o o' : Cop} (hop : OpC X (compareOp op) (copR o)) (hop' : OpC X (compareOp op') (copR o')) (hm : lastMarks [op, op'] [b, c] = false) (ha : SE X a (evE A)) (hb : SE X b (evE B)) (hc : SE X c (evE C)) :
    SE X (.Compare a [op, op'] [b, c] pos) (evE (.ch2 o o' A B C)) := by
  obtain ⟨ta, pa, sa⟩ := ha
  obtain ⟨tb, pb, sb⟩ := hb
  obtain ⟨tc, pc, sc⟩ := hc
  obtain ⟨r, rr, hr⟩ := hop
  obtain ⟨r', rr', hr'⟩ := hop'
  exact ⟨_, pe_chain rr rr' pa pb pc hm, sem_chain hr hr' sa sb sc⟩
/-- a value's reading as a test -/
theorem semT_of {t : TE} {m : Sto → Out Opd} (s : SemE X t m) : SemT X (tTest t) m := by
  intro G0 G ρ σ H Q x ρ' b R h hb q
  exact s R h fun G' H' v af o => ⟨b, asBool_v af.rel o hb, q G' H' af⟩
theorem st_chain {op op' : CmpOp} {o o' : Cop} (hop : OpC X (compareOp op) (copR o)) (hop' : OpC X (compareOp op') (copR o')) (hm : lastMarks [op, op'] [b, c] = false) (ha : SE X a (evE A)) (hb : SE X b (evE B)) (hc : SE X c (evE C)) :
    ST X (.Compare a [op, op'] [b, c] pos) (evE (.ch2 o o' A B C)) := by
  obtain ⟨ta, pa, sa⟩ := ha
  obtain ⟨tb, pb, sb⟩ := hb
  obtain ⟨tc, pc, sc⟩ := hc
  obtain ⟨r, rr, hr⟩ := hop
  obtain ⟨r', rr', hr'⟩ := hop'
  exact ⟨_, pt_chain rr rr' pa pb pc hm, semT_of (sem_chain hr hr' sa sb sc)⟩
theorem st_val {m : Sto → Out Opd} {e : Expr} (h : SE X e m) (he : ∀ whole, isTrue e X.env whole = (do let v ← whole; standAt e.pos; holding [v] (truthy v))) : ST X e m := by
  obtain ⟨t, p, s⟩ := h
  exact ⟨_, pt_val p he, semT_of s⟩
theorem isNone_v {G H : Hp} {r : R} {v : V} (h : RV X.K G H r v) : decide (v = .non) = isNoneR r := by
  cases r with
  | frz d =>
    have h : Dp X.K G v d := h
    cases h <;> simp [isNoneR]
  | lst ds => obtain ⟨p, vs, e, _⟩ := h; subst e; simp [isNoneR]
theorem se_isN {j : Nat} {p' : Pos} (ha : SE X a (evE A)) : SE X (.Compare a [.Is] [.Constant .none j p'] pos) (evE (.isN A)) := by
  obtain ⟨ta, pa, sa⟩ := ha
  refine ⟨_, pe_cmp (pc_isN pa), fun {G0 G ρ σ H Q x ρ'} R h q => ?_⟩
  unfold evE at h
  obtain ⟨x, ρ1, e1, h⟩ := bind_ret h
  obtain ⟨r, e2, h⟩ := lift_ret h
  cases h
  refine sa R e1 fun G1 H1 v af o => ?_
  rw [isNone_v (rd_ok af.rel o e2)]
  exact q G1 H1 _ af (Dp.bl _)
theorem se_notN {j : Nat} {p' : Pos} (ha : SE X a (evE A)) : SE X (.Compare a [.IsNot] [.Constant .none j p'] pos) (evE (.notN A)) := by
  obtain ⟨ta, pa, sa⟩ := ha
  refine ⟨_, pe_cmp (pc_notN pa), fun {G0 G ρ σ H Q x ρ'} R h q => ?_⟩
  unfold evE at h
  obtain ⟨x, ρ1, e1, h⟩ := bind_ret h
  obtain ⟨r, e2, h⟩ := lift_ret h
  cases h
  refine sa R e1 fun G1 H1 v af o => ?_
  rw [isNone_v (rd_ok af.rel o e2)]
  exact q G1 H1 _ af (Dp.bl _)
theorem st_isN {j : Nat} {p' : Pos} (ha : SE X a (evE A)) : ST X (.Compare a [.Is] [.Constant .none j p'] pos) (evE (.isN A)) := by
  obtain ⟨ta, pa, sa⟩ := ha
  refine ⟨_, pt_cmp (pc_isN pa), fun {G0 G ρ σ H Q x ρ' b'} R h hb q => ?_⟩
  unfold evE at h
  obtain ⟨x, ρ1, e1, h⟩ := bind_ret h
  obtain ⟨r, e2, h⟩ := lift_ret h
  cases h
  cases hb
  refine sa R e1 fun G1 H1 v af o => ⟨_, ?_, q G1 H1 af⟩
  rw [isNone_v (rd_ok af.rel o e2)]
theorem st_notN {j : Nat} {p' : Pos} (ha : SE X a (evE A)) : ST X (.Compare a [.IsNot] [.Constant .none j p'] pos) (evE (.notN A)) := by
  obtain ⟨ta, pa, sa⟩ := ha
  refine ⟨_, pt_cmp (pc_notN pa), fun {G0 G ρ σ H Q x ρ' b'} R h hb q => ?_⟩
  unfold evE at h
  obtain ⟨x, ρ1, e1, h⟩ := bind_ret h
  obtain ⟨r, e2, h⟩ := lift_ret h
  cases h
  cases hb
  refine sa R e1 fun G1 H1 v af o => ⟨_, ?_, q G1 H1 af⟩
  rw [isNone_v (rd_ok af.rel o e2)]
/-! ### and, or, not, if -/
theorem se_not (ha : SE X a (evE A)) : SE X (.UnaryOp .Not a pos) (evE (.not A)) := by
  obtain ⟨ta, pa, sa⟩ := ha
  refine ⟨_, pe_not pa, fun {G0 G ρ σ H Q x ρ'} R h q => ?_⟩
  unfold evE at h
  obtain ⟨x, ρ1, e1, h⟩ := bind_ret h
  obtain ⟨k, e2, h⟩ := lift_ret h
  cases h
  exact sa R e1 fun G1 H1 v af o => ⟨k, asBool_v af.rel o e2, q G1 H1 _ af (Dp.bl _)⟩
theorem st_not (ha : ST X a (evE A)) : ST X (.UnaryOp .Not a pos) (evE (.not A)) := by
  obtain ⟨ta, pa, sa⟩ := ha
  refine ⟨_, pt_not pa, fun {G0 G ρ σ H Q x ρ' b'} R h hb q => ?_⟩
  unfold evE at h
  obtain ⟨x, ρ1, e1, h⟩ := bind_ret h
  obtain ⟨k, e2, h⟩ := lift_ret h
  cases h
  cases hb
  exact sa R e1 e2 fun G1 H1 af => q G1 H1 af
theorem se_one {op : BoolOp} (ha : SE X a (evE A)) : SE X (.BoolOp op [a] pos) (evE A) := by
  obtain ⟨ta, pa, sa⟩ := ha
  exact ⟨_, pe_one pa, sa⟩
theorem se_and {rest : List Expr} (ha : SE X a (evE A)) (hb : SE X (.BoolOp .And (b :: rest) pos) (evE B)) : SE X (.BoolOp .And (a :: b :: rest) pos) (evE (.and A B)) := by
  obtain ⟨ta, pa, sa⟩ := ha
  obtain ⟨tb, pb, sb⟩ := hb
  refine ⟨_, pe_and pa pb, fun {G0 G ρ σ H Q x ρ'} R h q => ?_⟩
  unfold evE at h
  obtain ⟨x, ρ1, e1, h⟩ := bind_ret h
  obtain ⟨k, e2, h⟩ := lift_ret h
  refine sa R e1 fun G1 H1 v af o => ⟨k, asBool_v af.rel o e2, ?_⟩
  cases k with
  | true =>
    rw [if_pos rfl] at h ⊢
    exact sb af.rel h fun G2 H2 w bf o2 => q G2 H2 w (af.trans bf) (o2.wider R af)
  | false =>
    rw [if_neg Bool.false_ne_true] at h ⊢
    cases h
    exact q G1 H1 _ af (Dp.bl _)
theorem se_or {rest : List Expr} (ha : SE X a (evE A)) (hb : SE X (.BoolOp .Or (b :: rest) pos) (evE B)) : SE X (.BoolOp .Or (a :: b :: rest) pos) (evE (.or A B)) := by
  obtain ⟨ta, pa, sa⟩ := ha
  obtain ⟨tb, pb, sb⟩ := hb
  refine ⟨_, pe_or pa pb, fun {G0 G ρ σ H Q x ρ'} R h q => ?_⟩
  unfold evE at h
  obtain ⟨x, ρ1, e1, h⟩ := bind_ret h
  obtain ⟨k, e2, h⟩ := lift_ret h
  refine sa R e1 fun G1 H1 v af o => ⟨k, asBool_v af.rel o e2, ?_⟩
  cases k with
  | false =>
    rw [if_neg Bool.false_ne_true] at h ⊢
    exact sb af.rel h fun G2 H2 w bf o2 => q G2 H2 w (af.trans bf) (o2.wider R af)
  | true =>
    rw [if_pos rfl] at h ⊢
    cases h
    exact q G1 H1 _ af (Dp.bl _)
theorem sw_and1 (ha : ST X a (evE A)) : SW X (.BoolOp .And [a] pos) (evE A) := by
  obtain ⟨ta, pa, sa⟩ := ha
  exact ⟨_, pw_and1 pa, sa⟩
theorem sw_or1 (ha : ST X a (evE A)) : SW X (.BoolOp .Or [a] pos) (evE A) := by
  obtain ⟨ta, pa, sa⟩ := ha
  exact ⟨_, pw_or1 pa, sa⟩
theorem sw_and {rest : List Expr} (ha : ST X a (evE A)) (hb : SW X (.BoolOp .And (b :: rest) pos) (evE B)) : SW X (.BoolOp .And (a :: b :: rest) pos) (evE (.and A B)) := by
  obtain ⟨ta, pa, sa⟩ := ha
  obtain ⟨tb, pb, sb⟩ := hb
  refine ⟨_, pw_and pa pb, fun {G0 G ρ σ H Q x ρ' b'} R h hb' q => ?_⟩
  unfold evE at h
  obtain ⟨x, ρ1, e1, h⟩ := bind_ret h
  obtain ⟨k, e2, h⟩ := lift_ret h
  refine sa R e1 e2 fun G1 H1 af => ?_
  cases k with
  | true =>
    rw [if_pos rfl] at h ⊢
    exact sb af.rel h hb' fun G2 H2 bf => q G2 H2 (af.trans bf)
  | false =>
    rw [if_neg Bool.false_ne_true] at h ⊢
    cases h
    cases hb'
    exact q G1 H1 af
theorem sw_or {rest : List Expr} (ha : ST X a (evE A)) (hb : SW X (.BoolOp .Or (b :: rest) pos) (evE B)) : SW X (.BoolOp .Or (a :: b :: rest) pos) (evE (.or A B)) := by
  obtain ⟨ta, pa, sa⟩ := ha
  obtain ⟨tb, pb, sb⟩ := hb
  refine ⟨_, pw_or pa pb, fun {G0 G ρ σ H Q x ρ' b'} R h hb' q => ?_⟩
  unfold evE at h
  obtain ⟨x, ρ1, e1, h⟩ := bind_ret h
  obtain ⟨k, e2, h⟩ := lift_ret h
  refine sa R e1 e2 fun G1 H1 af => ?_
  cases k with
  | false =>
    rw [if_neg Bool.false_ne_true] at h ⊢
    exact sb af.rel h hb' fun G2 H2 bf => q G2 H2 (af.trans bf)
  | true =>
    rw [if_pos rfl] at h ⊢
    cases h
    cases hb'
    exact q G1 H1 af
theorem SW.st {e : Expr} {m : Sto → Out Opd} (h : SW X e m) : ST X e m := by
  obtain ⟨t, p, s⟩ := h
  exact ⟨t, p.pt, s⟩
theorem se_ife (hc : ST X c (evE C)) (ha : SE X a (evE A)) (hb : SE X b (evE B)) : SE X (.IfExp c a b pos) (evE (.ife C A B)) := by
  obtain ⟨tc, pc, sc⟩ := hc
  obtain ⟨ta, pa, sa⟩ := ha
  obtain ⟨tb, pb, sb⟩ := hb
  refine ⟨_, pe_ifExp pc pa pb, fun {G0 G ρ σ H Q x ρ'} R h q => ?_⟩
  unfold evE at h
  obtain ⟨x, ρ1, e1, h⟩ := bind_ret h
  obtain ⟨k, e2, h⟩ := lift_ret h
  refine sc R e1 e2 fun G1 H1 af => ?_
  cases k with
  | true =>
    rw [if_pos rfl] at h ⊢
    exact sa af.rel h fun G2 H2 w bf o2 => q G2 H2 w (af.trans bf) (o2.wider R af)
  | false =>
    rw [if_neg Bool.false_ne_true] at h ⊢
    exact sb af.rel h fun G2 H2 w bf o2 => q G2 H2 w (af.trans bf) (o2.wider R af)
end
end Rx
set_option Elab.async false
set_option linter.all false
set_option maxHeartbeats 1000000
/-! Rx9: the call of a def by what it gives -/
namespace Rx
open PySem PySem.Spec L2
variable {K : PySem.W.Frag}
/-- what a def promises -/
abbrev Sp' := List V → Hp → VK → Prop
def SpecOf (K : PySem.W.Frag) (fi : Fi) : Sp' := fun vs H Q => vs.length = fi.modes.length ∧ ∃ G ρa r ρo, Rel K G G ρa (vs.map some) H ∧ (∀ i, mkk ρa i ≠ some false) ∧ fi.sf ρa = .ret r ρo ∧
  ∀ v G' H', Rel K G' G' ρo (vs.map some) H' → Stp G H G' H' (Own ρa (vs.map some)) → Pat ρa ρo → ValOk K G' H' H r v → Q v H'
section
variable {G0 G G1 G2 G3 H H1 H3 : Hp} {ρ ρ1 ρ2 : Sto} {σ : L2.St}
inductive HOk (K : PySem.W.Frag) (G : Hp) (ρ : Sto) (σ : L2.St) : List (Option D) → List Opd → List V → Prop
  | nil : HOk K G ρ σ [] [] []
  | data {d : D} {x : Opd} {v : V} {ds : List (Option D)} {xs : List Opd} {vs : List V} : Dp K G v d → HOk K G ρ σ ds xs vs → HOk K G ρ σ (some d :: ds) (x :: xs) (v :: vs)
  | lent {x : Opd} {v : V} {ds : List (Option D)} {xs : List Opd} {vs : List V} : (∀ i, x = .slot i → (mkk ρ i).isSome = true ∧ σ[i]? = some (some v)) → HOk K G ρ σ ds xs vs → HOk K G ρ σ (none :: ds) (x :: xs) (v :: vs)
theorem HOk.pat {ρ' : Sto} (s : Sub G G1) (p : ∀ i, mkk ρ' i = mkk ρ i) : ∀ {ds : List (Option D)} {xs : List Opd} {vs : List V}, HOk K G ρ σ ds xs vs → HOk K G1 ρ' σ ds xs vs
  | _, _, _, .nil => .nil
  | _, _, _, .data h t => .data (dp_sub s h) (HOk.pat s p t)
  | _, _, _, .lent h t => .lent (fun i e => ⟨by rw [p i]; exact (h i e).1, (h i e).2⟩) (HOk.pat s p t)
theorem argH_ok : ∀ {ms : List Bool} {xs : List Opd} {vs : List V} {ds : List (Option D)} {ρ1 ρ2 : Sto} {G1 : Hp}, Rel K G0 G ρ σ H → Aft K G0 σ ρ G H ρ1 G1 H1 → OpdsOk K G1 H1 H ρ1 σ xs vs → argH ρ1 ms xs = some (ds, ρ2) →
    ∃ G2, Aft K G0 σ ρ G H ρ2 G2 H1 ∧ HOk K G2 ρ2 σ ds xs vs ∧ Sub G1 G2
  | [], [], _, _, _, _, G1, R, a, .nil, e => by cases e; exact ⟨G1, a, .nil, Sub.refl _⟩
  | false :: ms, x :: xs, v :: vs, ds, ρ1, ρ2, G1, R, a, .cons h n t, e => by
    unfold argH at e
    obtain ⟨⟨d, ρ3⟩, e1, e2⟩ := Option.bind_eq_some_iff.mp e
    obtain ⟨⟨ds', ρ4⟩, e3, e4⟩ := Option.map_eq_some_iff.mp e2
    cases e4
    obtain ⟨G3, b, c, s⟩ := hard_ok R a h e1
    obtain ⟨G4, b', c', s'⟩ := argH_ok R b (OpdsOk.hard R a h b s t n) e3
    exact ⟨G4, b', .data (dp_sub s' c) c', s.g.trans s'⟩
  | true :: ms, x :: xs, v :: vs, ds, ρ1, ρ2, G1, R, a, .cons h n t, e => by
    unfold argH at e
    obtain ⟨⟨ds', ρ4⟩, e3, e4⟩ := Option.map_eq_some_iff.mp e
    cases e4
    obtain ⟨G4, b', c', s'⟩ := argH_ok R a t e3
    refine ⟨G4, b', .lent (fun i ei => ?_) c', s'⟩
    subst ei
    exact ⟨by rw [b'.pat i, ← a.pat i]; exact h.1, h.2⟩
  | [], _ :: _, _, _, _, _, _, _, _, _, e => by cases e
  | true :: _, [], _, _, _, _, _, _, _, _, e => by cases e
  | false :: _, [], _, _, _, _, _, _, _, _, e => by cases e
theorem getS_cons {s : Option Sl} {ρ : Sto} {i : Nat} : getS (s :: ρ) (i + 1) = getS ρ i := by unfold getS; simp
theorem getS_zero {s : Option Sl} {ρ : Sto} : getS (s :: ρ) 0 = s := by unfold getS; cases s <;> rfl
theorem mkk_cons {s : Option Sl} {ρ : Sto} {i : Nat} : mkk (s :: ρ) (i + 1) = mkk ρ i := by unfold mkk; rw [getS_cons]
theorem Rel.cons {s : Sl} {v : V} (R : Rel K G G ρ σ H) (h : SlOk K G G H s v) (ap : ∀ p m k ds, s = .mut m k ds → v = .ref p → ¬ Own ρ σ p) : Rel K G G (some s :: ρ) (some v :: σ) H := by
  refine ⟨R.s0, R.s1, by simp [R.len], fun i t e => ?_, fun i j p hi hj e1 e2 => ?_⟩
  · cases i with
    | zero => rw [getS_zero] at e; cases e; exact ⟨v, rfl, h⟩
    | succ i => rw [getS_cons] at e; obtain ⟨w, h1, h2⟩ := R.ok i t e; exact ⟨w, by simpa using h1, h2⟩
  · have key : ∀ k, (mkk (some s :: ρ) 0).isSome = true → (mkk ρ k).isSome = true → v = .ref p → σ[k]? = some (some (.ref p)) → False := fun k h0 hk ev ek => by
      obtain ⟨m, kk, ds, e0⟩ := mkk_some h0
      rw [getS_zero] at e0
      cases e0
      exact ap p m kk ds rfl ev ⟨k, hk, ek⟩
    cases i with
    | zero =>
      cases j with
      | zero => rfl
      | succ j =>
        rw [mkk_cons] at hj
        simp only [List.getElem?_cons_zero, Option.some.injEq] at e1
        exact (key j hi hj e1 (by simpa using e2)).elim
    | succ i =>
      cases j with
      | zero =>
        rw [mkk_cons] at hi
        simp only [List.getElem?_cons_zero, Option.some.injEq] at e2
        exact (key i hj hi e2 (by simpa using e1)).elim
      | succ j =>
        rw [mkk_cons] at hi hj
        exact congrArg (· + 1) (R.apart i j p hi hj (by simpa using e1) (by simpa using e2))
theorem argM_ok (R : Rel K G0 G2 ρ2 σ H1) : ∀ {ds : List (Option D)} {xs : List Opd} {vs : List V} {ρa : Sto}, HOk K G2 ρ2 σ ds xs vs → argM ρ2 ds xs = some ρa → distinct (lentOf ds xs) = true →
    Rel K G2 G2 ρa (vs.map some) H1 ∧ ∀ p, Own ρa (vs.map some) p → ∃ i ∈ lentOf ds xs, (mkk ρ2 i).isSome = true ∧ σ[i]? = some (some (.ref p))
  | _, _, _, _, .nil, e, _ => by
    cases e
    exact ⟨⟨Sub.refl _, R.s1, rfl, fun i s e => by simp [getS] at e, fun i j p h => by simp [mkk, getS] at h⟩, fun p ⟨i, h, _⟩ => by simp [mkk, getS] at h⟩
  | some d :: ds, x :: xs, v :: vs, ρa, .data h t, e, dis => by
    unfold argM at e
    obtain ⟨ρb, e1, e2⟩ := Option.map_eq_some_iff.mp e
    cases e2
    obtain ⟨r, own⟩ := argM_ok R t e1 (by unfold lentOf at dis; exact dis)
    refine ⟨r.cons h fun p m k ds e => (by cases e), fun p ⟨i, hi, ei⟩ => ?_⟩
    cases i with
    | zero => simp [mkk, getS_zero] at hi
    | succ i =>
      rw [mkk_cons] at hi
      obtain ⟨j, m, q⟩ := own p ⟨i, hi, by simpa using ei⟩
      exact ⟨j, by unfold lentOf; exact m, q⟩
  | none :: ds, .val r :: xs, v :: vs, ρa, .lent h t, e, dis => by unfold argM at e; cases e
  | none :: ds, .slot i :: xs, v :: vs, ρa, .lent h t, e, dis => by
    have dis' : (!(lentOf ds xs).contains i && distinct (lentOf ds xs)) = true := by unfold lentOf distinct at dis; exact dis
    simp only [Bool.and_eq_true, Bool.not_eq_true'] at dis'
    obtain ⟨hm, hs⟩ := h i rfl
    have fin : ∀ (m : Md) (k : Bool) (l : List D), getS ρ2 i = some (.mut m k l) → m ≠ .lent → (argM ρ2 ds xs).map (some (.mut .clean true l) :: ·) = some ρa →
        Rel K G2 G2 ρa ((v :: vs).map some) H1 ∧ ∀ p, Own ρa ((v :: vs).map some) p → ∃ j ∈ lentOf (none :: ds) (.slot i :: xs), (mkk ρ2 j).isSome = true ∧ σ[j]? = some (some (.ref p)) := by
      intro m k l hg nl e
      obtain ⟨ρb, e1, e2⟩ := Option.map_eq_some_iff.mp e
      cases e2
      obtain ⟨r, own⟩ := argM_ok R t e1 dis'.2
      obtain ⟨w, ew, o⟩ := R.ok i _ hg
      rw [hs] at ew
      cases ew
      have o' : SlOk K G2 G2 H1 (.mut .clean true l) v := by
        cases m with
        | clean => obtain ⟨p, zs, e, h1, h2, h3⟩ := o; exact ⟨p, zs, e, h1, h2, dpAll_sub R.s0 h3⟩
        | lent => exact absurd rfl nl
        | dirt => exact o
      refine ⟨r.cons o' fun p m' k' ds' _ ev w => ?_, fun p ⟨j, hj, ej⟩ => ?_⟩
      · obtain ⟨j, mj, hj, ej⟩ := own p w
        have := R.apart i j p hm hj (by rw [hs, ev]) ej
        subst this
        have := List.contains_iff_mem.mpr mj
        rw [dis'.1] at this
        cases this
      · cases j with
        | zero =>
          simp only [List.map_cons, List.getElem?_cons_zero, Option.some.injEq] at ej
          exact ⟨i, by unfold lentOf; exact List.mem_cons_self, hm, by rw [hs, ej]⟩
        | succ j =>
          rw [mkk_cons] at hj
          obtain ⟨j', m', q⟩ := own p ⟨j, hj, by simpa using ej⟩
          exact ⟨j', by unfold lentOf; exact List.mem_cons_of_mem _ m', q⟩
    unfold argM at e
    split at e
    · next hg => exact fin _ _ _ hg (fun z => nomatch z) e
    · next hg => exact fin _ _ _ hg (fun z => nomatch z) e
    · cases e
theorem argB_ok : ∀ {ds : List (Option D)} {xs : List Opd} {vs : List V} {ρo ρ ρ' : Sto}, argB ρ ds xs ρo = some ρ' → HOk K G2 ρ σ ds xs vs →
    (∀ i s, getS ρo i = some s → ∃ v, (vs.map some)[i]? = some (some v) ∧ SlOk K G3 G3 H3 s v) → distinct (lentOf ds xs) = true →
    (∀ j s, getS ρ j = some s → j ∉ lentOf ds xs → ∃ v, σ[j]? = some (some v) ∧ SlOk K G0 G3 H3 s v) →
    (∀ j s, getS ρ' j = some s → ∃ v, σ[j]? = some (some v) ∧ SlOk K G0 G3 H3 s v) ∧ Pat ρ ρ' ∧ ρ'.length = ρ.length
  | [], [], _, _, ρ, ρ', e, .nil, _, _, h => by
    unfold argB at e
    cases e
    exact ⟨fun j s ej => h j s ej (by simp [lentOf]), fun _ => rfl, rfl⟩
  | some d :: ds, x :: xs, v :: vs, s :: ρo, ρ, ρ', e, .data hd t, ho, dis, h => by
    unfold argB at e
    exact argB_ok e t (fun i s' e' => by simpa using ho (i + 1) s' (by rw [getS_cons]; exact e')) (by unfold lentOf at dis; exact dis) fun j s' e' hj => h j s' e' (by unfold lentOf; exact hj)
  | none :: ds, .slot i :: xs, v :: vs, some (.mut m k l) :: ρo, ρ, ρ', e, .lent hl t, ho, dis, h => by
    unfold argB at e
    split at e
    · next m' k' l' hg =>
      have dis' : (!(lentOf ds xs).contains i && distinct (lentOf ds xs)) = true := by unfold lentOf distinct at dis; exact dis
      simp only [Bool.and_eq_true, Bool.not_eq_true'] at dis'
      obtain ⟨hm, hs⟩ := hl i rfl
      have pt : ∀ j, mkk (ρ.set i (some (.mut .dirt k' l))) j = mkk ρ j := fun j => by
        rw [mkk_set hg]
        by_cases q : i = j
        · subst q; rw [if_pos rfl, mkk_of hg]
        · rw [if_neg q]
      obtain ⟨a, b, c⟩ := argB_ok e (t.pat (Sub.refl _) pt) (fun i s' e' => by simpa using ho (i + 1) s' (by rw [getS_cons]; exact e')) dis'.2 fun j s' e' hj => by
        rw [getS_set] at e'
        by_cases q : i = j
        · subst q
          rw [if_pos ⟨rfl, getS_lt hg⟩] at e'
          cases e'
          obtain ⟨w, ew, o⟩ := ho 0 _ getS_zero
          simp only [List.map_cons, List.getElem?_cons_zero, Option.some.injEq] at ew
          subst ew
          refine ⟨_, hs, ?_⟩
          cases m with
          | clean => exact o
          | lent => obtain ⟨p, zs, _, h1, h2, _⟩ := o; rw [h1] at h2; cases h2
          | dirt => exact o
        · rw [if_neg fun z => q z.1] at e'
          refine h j s' e' ?_
          unfold lentOf
          exact fun z => (List.mem_cons.mp z).elim (fun z => q z.symm) hj
      exact ⟨a, fun j => (b j).trans (pt j), by rw [c]; simp⟩
    · cases e
  | [], _ :: _, _, _, _, _, e, t, _, _, _ => by cases t
  | _ :: _, [], _, _, _, _, e, t, _, _, _ => by cases t
  | some _ :: _, _ :: _, _, [], _, _, e, _, _, _, _ => by unfold argB at e; cases e
  | none :: _, .val _ :: _, _, _, _, _, e, _, _, _, _ => by unfold argB at e; cases e
  | none :: _, .slot _ :: _, _, [], _, _, e, _, _, _, _ => by unfold argB at e; cases e
  | none :: _, .slot _ :: _, _, none :: _, _, _, e, _, _, _, _ => by unfold argB at e; cases e
  | none :: _, .slot _ :: _, _, some (.frz _) :: _, _, _, e, _, _, _, _ => by unfold argB at e; cases e
  | none :: _, .slot _ :: _, _, some (.tmp _) :: _, _, _, e, _, _, _, _ => by unfold argB at e; cases e
theorem argH_len : ∀ {ms : List Bool} {xs : List Opd} {ds : List (Option D)} {ρ1 ρ2 : Sto}, argH ρ1 ms xs = some (ds, ρ2) → xs.length = ms.length
  | [], [], _, _, _, _ => rfl
  | false :: ms, x :: xs, ds, ρ1, ρ2, e => by
    unfold argH at e
    obtain ⟨⟨d, ρ3⟩, e1, e2⟩ := Option.bind_eq_some_iff.mp e
    obtain ⟨⟨ds', ρ4⟩, e3, e4⟩ := Option.map_eq_some_iff.mp e2
    simp [argH_len e3]
  | true :: ms, x :: xs, ds, ρ1, ρ2, e => by
    unfold argH at e
    obtain ⟨⟨ds', ρ4⟩, e3, e4⟩ := Option.map_eq_some_iff.mp e
    simp [argH_len e3]
  | [], _ :: _, _, _, _, e => by cases e
  | true :: _, [], _, _, _, e => by cases e
  | false :: _, [], _, _, _, e => by cases e
theorem argM_keep : ∀ {ds : List (Option D)} {xs : List Opd} {ρ ρa : Sto}, argM ρ ds xs = some ρa → ∀ i, mkk ρa i ≠ some false
  | [], [], _, _, e, i => by unfold argM at e; cases e; simp [mkk, getS]
  | some d :: ds, _ :: xs, ρ, ρa, e, i => by
    unfold argM at e
    obtain ⟨ρb, e1, e2⟩ := Option.map_eq_some_iff.mp e
    cases e2
    cases i with
    | zero => simp [mkk, getS_zero]
    | succ i => rw [mkk_cons]; exact argM_keep e1 i
  | none :: ds, .slot j :: xs, ρ, ρa, e, i => by
    unfold argM at e
    split at e
    · obtain ⟨ρb, e1, e2⟩ := Option.map_eq_some_iff.mp e
      cases e2
      cases i with
      | zero => simp [mkk, getS_zero]
      | succ i => rw [mkk_cons]; exact argM_keep e1 i
    · obtain ⟨ρb, e1, e2⟩ := Option.map_eq_some_iff.mp e
      cases e2
      cases i with
      | zero => simp [mkk, getS_zero]
      | succ i => rw [mkk_cons]; exact argM_keep e1 i
    · cases e
  | none :: _, .val _ :: _, _, _, e, _ => by unfold argM at e; cases e
  | [], _ :: _, _, _, e, _ => by unfold argM at e; cases e
  | some _ :: _, [], _, _, e, _ => by unfold argM at e; cases e
  | none :: _, [], _, _, e, _ => by unfold argM at e; cases e
theorem callF_ok {fi : Fi} {xs : List Opd} {vs : List V} {x : Opd} {ρ' : Sto} {Q : VK} (R : Rel K G0 G ρ σ H) (a : Aft K G0 σ ρ G H ρ1 G1 H1) (o : OpdsOk K G1 H1 H ρ1 σ xs vs) (e : callF fi xs ρ1 = .ret x ρ')
    (q : ∀ G' H' v, Aft K G0 σ ρ G H ρ' G' H' → OpdOk K G' H' H ρ' σ x v → Q v H') : SpecOf K fi vs H1 Q := by
  unfold callF at e
  obtain ⟨⟨ds, ρ2⟩, e1, e⟩ := lift_ret e
  obtain ⟨dis, e⟩ := ite_ret e
  obtain ⟨ρa, e2, e⟩ := lift_ret e
  obtain ⟨r, ρo, e3, e⟩ := bind_ret e
  obtain ⟨ρ4, e4, e⟩ := lift_ret e
  cases e
  obtain ⟨G2, b, hh, s⟩ := argH_ok R a o e1
  obtain ⟨ra, own⟩ := argM_ok b.rel hh e2 dis
  refine ⟨by rw [o.len, argH_len e1], G2, ρa, r, ρo, ra, argM_keep e2, e3, fun v G3 H3 ro st pt val => ?_⟩
  have hown : ∀ p, Own ρa (vs.map some) p → Own ρ2 σ p := fun p w => let ⟨i, _, h1, h2⟩ := own p w; ⟨i, h1, h2⟩
  obtain ⟨k1, k2, k3⟩ := argB_ok e4 hh ro.ok dis fun j t ej nj => by
    obtain ⟨w, ew, ow⟩ := b.rel.ok j t ej
    refine ⟨w, ew, ow.step st fun p ep ⟨m, k, l, et⟩ hp => nj ?_⟩
    obtain ⟨i, mi, hi, ei⟩ := own p hp
    subst ep et
    rw [b.rel.apart j i p (by rw [mkk_of ej]; rfl) hi ew ei]
    exact mi
  have bf : Aft K G0 σ ρ2 G2 H1 ρ' G3 H3 := by
    refine ⟨⟨b.rel.s0.trans st.g, ro.s1, by rw [k3]; exact b.rel.len, k1, fun i j p hi hj => ?_⟩, st.mono hown, k2⟩
    rw [k2 i] at hi
    rw [k2 j] at hj
    exact b.rel.apart i j p hi hj
  exact q G3 H3 v (b.trans bf) (ValOk.wider R b val)
end
/-- a def that stands in the module, by its promise; it lets nothing out -/
structure FnG (P : Program) (w : World) (K : PySem.W.Frag) (mg : Str → Option Value) (base : Heap) (k : Nat) (f : Addr) (fd : FuncData) (ps : List Str) (sp : Sp') : Prop where
  len : ∀ vs H Q, sp vs H Q → vs.length = ps.length
  run : ∀ (A : Around) (outer : List Env) (s : Shared) (H : Hp) (args : Args) (us : List Value) (vs : List V) (Q : VK), Room k A → A.guards = some [] → Env0 P w K mg base A outer s H → BindsTo s fd args (ps.zip us) → Vals vs us → sp vs H Q →
    codeAny (model P w) A (.call (.ref f) args) (CR CX0 outer P w H s Q E0) s
section
variable {X : Cx} {k : Nat} {f : Addr} {fd : FuncData} {ps : List Str} {sp : Sp'} {x : Str} {p pos : Pos} {e : Expr} {es : List Expr} {t tk : TA} {kws : List Keyword}
theorem run_g {pins : List (Addr × Obj)} {σ : L2.St} {H : Hp} {s : Shared} {Q : VK} {us ws : List Value} {vs : List V} {kw : List (Str × Value)} (F : FnG X.prog X.w X.K X.mg X.base k f fd ps sp) (hr : Room k X.A) (hg : X.A.guards = some []) (I : L2.Inv X pins σ H s)
    (b : BindsTo s fd ⟨us, kw⟩ (ps.zip ws)) (r : Vals vs ws) (h : sp vs H Q) : wpAny (model X.prog X.w) X.A (call (.ref f) us kw) (EP X pins σ Q) X.xe s := by
  refine wpAny_call (codeAny_mono (F.run X.A X.stack s H ⟨us, kw⟩ ws vs Q hr hg I.env0 b r h) fun out s' c => ?_)
  cases out with
  | error z => exact False.elim c
  | ok fl =>
    cases fl with
    | ret u => exact I.after c
    | _ => exact False.elim c
theorem pe_callG (F : FnG X.prog X.w X.K X.mg X.base k f fd ps sp) (hr : Room k X.A) (hgu : X.A.guards = some []) (hg : Gl X x) (hm : X.mg x = some (.ref f)) (hk : PySem.W.keepIn X.K (.ref f) = true) (hb : Binds X.K fd ps [])
    (ha : PA X (e :: es) t) (hdb : (x == ("__debug__" : Str)) = false) (he : starEach (e :: es) X.env = (false, eval e X.env) :: starEach es X.env) (hpl : (backTo pos (starEach es X.env)).any (·.1) = false) :
    PE X (.Call (.Name x p) (e :: es) [] pos) fun σ H Q => t σ H fun vs H1 => sp vs H1 Q := by
  refine ⟨fun pins s σ H Q I h => wpAny_Call_Name_kw (ld_glob I hg hm ?_ hdb)⟩
  refine PySem.W.callWith_K (h₀ := X.base) I.ok.mod.kin hk (thn (ha.run pos pins s σ H _ I h) fun us s1 ⟨vs, H1, I1, r, q⟩ => ⟨I1.kIn, ?_⟩) he hpl
  have l := F.len _ _ _ q
  have := hb s1 us I1.kIn (by rw [List.append_nil, ← r.length, l])
  rw [List.append_nil] at this
  exact run_g F hr hgu I1 this r q
end
end Rx
set_option Elab.async false
set_option linter.all false
set_option maxHeartbeats 1000000
/-! Rx10: arguments, displays, subscripts, calls -/
namespace Rx
open PySem PySem.Spec L2
variable {X : Cx} {pos : Pos}
def NoStar (e : Expr) (X : Cx) : Prop := ∀ es, starEach (e :: es) X.env = (false, eval e X.env) :: starEach es X.env
theorem sa_nil : SA X [] (evEs []) := ⟨_, pa_nil, fun {G0 G ρ σ H Q xs ρ'} R h q => by unfold evEs at h; cases h; exact q G H [] (Aft.refl R) .nil⟩
theorem sa_cons {e : Expr} {es : List Expr} {A : E} {As : List E} (he : SE X e (evE A)) (hs : NoStar e X) (hes : SA X es (evEs As)) : SA X (e :: es) (evEs (A :: As)) := by
  obtain ⟨ta, pa, sa⟩ := he
  obtain ⟨tb, pb, sb⟩ := hes
  refine ⟨_, pa_cons pa pb (hs es), fun {G0 G ρ σ H Q xs ρ'} R h q => ?_⟩
  unfold evEs at h
  obtain ⟨x, ρ1, e1, h⟩ := bind_ret h
  obtain ⟨ys, ρ2, e2, h⟩ := bind_ret h
  cases h
  refine sa R e1 fun G1 H1 v af o => sb af.rel e2 fun G2 H2 vs bf os => ?_
  exact q G2 H2 _ (af.trans bf) (OpdsOk.cons' R af bf o os)
theorem se_tup {es : List Expr} {As : List E} {j : Nat} (h : SA X es (evEs As)) : SE X (.Tuple es j pos) (evE (.tup As)) := by
  obtain ⟨t, pa, sa⟩ := h
  refine ⟨_, pe_tup pa, fun {G0 G ρ σ H Q x ρ'} R h q => ?_⟩
  unfold evE at h
  obtain ⟨xs, ρ1, e1, h⟩ := bind_ret h
  obtain ⟨⟨ds, ρ2⟩, e2, h⟩ := lift_ret h
  obtain ⟨hl, h⟩ := ite_ret h
  cases h
  refine sa R e1 fun G1 H1 vs af os => ?_
  obtain ⟨G2, bf, da, _⟩ := hards_ok R af os e2
  refine ⟨by rw [dpAll_len da]; exact hl, fun p hp => ?_⟩
  obtain ⟨cf, d⟩ := bf.newT hp da
  exact q _ _ _ cf d
theorem se_lst {es : List Expr} {As : List E} (h : SA X es (evEs As)) : SE X (.List es pos) (evE (.lst As)) := by
  obtain ⟨t, pa, sa⟩ := h
  refine ⟨_, pe_lst pa, fun {G0 G ρ σ H Q x ρ'} R h q => ?_⟩
  unfold evE at h
  obtain ⟨xs, ρ1, e1, h⟩ := bind_ret h
  obtain ⟨⟨ds, ρ2⟩, e2, h⟩ := lift_ret h
  obtain ⟨hl, h⟩ := ite_ret h
  cases h
  refine sa R e1 fun G1 H1 vs af os => ?_
  obtain ⟨G2, bf, da, _⟩ := hards_ok R af os e2
  refine ⟨by rw [dpAll_len da]; exact hl, fun p hp => ?_⟩
  obtain ⟨cf, d⟩ := bf.newL R hp da
  exact q _ _ _ cf d
/-! ### subscripts -/
section
variable {a b : Expr} {A B C : E}
theorem se_idx (hs : PlainIx b) (ha : SE X a (evE A)) (hb : SE X b (evE B)) : SE X (.Subscript a b pos) (evE (.idx A B)) := by
  obtain ⟨ta, pa, sa⟩ := ha
  obtain ⟨tb, pb, sb⟩ := hb
  refine ⟨_, pe_ix ix_seq pa pb hs, fun {G0 G ρ σ H Q x ρ'} R h q => ?_⟩
  unfold evE at h
  refine sem_two sa sb R h fun x y ρ2 G2 H2 v w af o1 o2 h => ?_
  obtain ⟨x', e1, h⟩ := lift_ret h
  obtain ⟨y', e2, h⟩ := lift_ret h
  obtain ⟨d, e3, h⟩ := lift_ret h
  cases h
  exact ixS af.rel.s1 (rd_ok af.rel o1 e1) (rd_ok af.rel o2 e2) e3 fun u hu => q G2 H2 u af hu
/-- a slice's part -/
def SO (X : Cx) (o : Option Expr) (m : Sto → Out Opd) : Prop := ∃ t : TO, PO X o t ∧ ∀ {G0 G : Hp} {ρ : Sto} {σ : L2.St} {H : Hp} {Q : Option Int → Hp → Prop} {x : Opd} {ρ' : Sto} {oi : Option Int}, Rel X.K G0 G ρ σ H → m ρ = .ret x ρ' →
  rd ρ' x = some (.frz (optD oi)) → (∀ G' H', Aft X.K G0 σ ρ G H ρ' G' H' → Q oi H') → t σ H Q
theorem so_none : SO X none (evE (.const .none)) := by
  refine ⟨_, po_none, fun {G0 G ρ σ H Q x ρ' oi} R h e q => ?_⟩
  unfold evE at h
  cases h
  cases oi with
  | none => exact q G H (Aft.refl R)
  | some i => cases e
theorem so_some {e : Expr} (h : SE X e (evE A)) : SO X (some e) (evE (.asI A)) := by
  obtain ⟨t, p, s⟩ := h
  refine ⟨_, po_some p, fun {G0 G ρ σ H Q x ρ' oi} R h e q => ?_⟩
  unfold evE at h
  obtain ⟨y, ρ1, e1, h⟩ := bind_ret h
  split at h
  · next i ei =>
    cases h
    refine s R e1 fun G' H' v af o => ?_
    cases oi with
    | none => cases e
    | some j =>
    cases e
    exact ⟨_, rv_int (rd_ok af.rel o ei), q G' H' af⟩
  · cases h
/-- an operand that tells an int or None stays what it is -/
theorem rd_scal {ρ ρ' : Sto} {x : Opd} {r : R} {d : D} (h : rd ρ x = some (.frz d)) : ∃ d', x = .val (.frz d') ∧ d' = d := by
  cases x with
  | val r => cases h; exact ⟨_, rfl, rfl⟩
  | slot i =>
    simp only [rd] at h
    split at h <;> cases h
theorem rd_frz {ρ : Sto} {x : Opd} {d : D} (h : rd ρ x = some (.frz d)) : x = .val (.frz d) := by
  cases x with
  | val r => cases h; rfl
  | slot i =>
    simp only [rd] at h
    split at h <;> cases h
theorem se_slc {lo hi : Option Expr} {p2 : Pos} (ha : SE X a (evE A)) (hl : SO X lo (evE B)) (hh : SO X hi (evE C)) : SE X (.Subscript a (.Slice lo hi none p2) pos) (evE (.slc A B C)) := by
  obtain ⟨ta, pa, sa⟩ := ha
  obtain ⟨tl, pl, sl⟩ := hl
  obtain ⟨th, ph, sh⟩ := hh
  refine ⟨_, pe_slice (SlR.or sl_list sl_tupA) pa pl ph, fun {G0 G ρ σ H Q x ρ'} R h q => ?_⟩
  unfold evE at h
  obtain ⟨x, ρ1, e1, h⟩ := bind_ret h
  obtain ⟨l, ρ2, e2, h⟩ := bind_ret h
  obtain ⟨u, ρ3, e3, h⟩ := bind_ret h
  obtain ⟨x', e4, h⟩ := lift_ret h
  obtain ⟨l', e5, h⟩ := lift_ret h
  obtain ⟨u', e6, h⟩ := lift_ret h
  obtain ⟨z, e7, h⟩ := lift_ret h
  cases h
  have e8 := e7
  unfold slcR at e8
  obtain ⟨lo', f1, e8⟩ := Option.bind_eq_some_iff.mp e8
  obtain ⟨hi', f2, e8⟩ := Option.bind_eq_some_iff.mp e8
  rw [optI_eq f1] at e5 e7
  rw [optI_eq f2] at e6 e7
  refine sa R e1 fun G1 H1 v af o => ?_
  refine sl af.rel e2 (by rw [rd_frz e5] <;> rfl) fun G2 H2 bf => ?_
  refine sh bf.rel e3 e6 fun G3 H3 cf => ?_
  have tot := (af.trans bf).trans cf
  have o3 := o.later R af (bf.trans cf)
  refine slS tot.rel.s1 (rd_ok tot.rel o3 e4) e7 fun w G' H' n => ?_
  obtain ⟨df, ow⟩ := tot.newV R n
  exact q G' H' w df ow
theorem se_rev {j : Nat} {p1 p2 p3 : Pos} (ha : SE X a (evE A)) : SE X (.Subscript a (.Slice none none (some (.UnaryOp .USub (.Constant (.int 1) j p1) p2)) p3) pos) (evE (.rev A)) := by
  obtain ⟨ta, pa, sa⟩ := ha
  refine ⟨_, pe_revL pa, fun {G0 G ρ σ H Q x ρ'} R h q => ?_⟩
  unfold evE at h
  obtain ⟨x, ρ1, e1, h⟩ := bind_ret h
  obtain ⟨x', e2, h⟩ := lift_ret h
  obtain ⟨z, e3, h⟩ := lift_ret h
  cases h
  refine sa R e1 fun G1 H1 v af o => ?_
  unfold revR at e3
  obtain ⟨⟨t, ds⟩, f1, f2⟩ := Option.bind_eq_some_iff.mp e3
  simp only at f2
  cases t with
  | true => cases f2
  | false =>
    rw [if_neg Bool.false_ne_true] at f2
    cases f2
    obtain ⟨p, xs, ea, ha, da⟩ := kids_ok af.rel.s1 (rd_ok af.rel o e2) f1
    rw [if_neg Bool.false_ne_true] at ha
    refine ⟨p, xs, ea, ha, fun r hr => ?_⟩
    obtain ⟨bf, ob⟩ := af.newV R (newV_lst af.rel.s1 hr (dpAll_rev da))
    exact q _ _ _ bf ob
end
/-! ### built-in functions -/
theorem rds_one {ρ : Sto} {x : Opd} {ys : List R} (h : rds ρ [x] = some ys) : ∃ r, rd ρ x = some r ∧ ys = [r] := by
  unfold rds at h
  obtain ⟨r, e1, h⟩ := Option.bind_eq_some_iff.mp h
  simp only [rds, Option.map_some, Option.some.injEq] at h
  exact ⟨r, e1, h.symm⟩
theorem rds_two {ρ : Sto} {x y : Opd} {ys : List R} (h : rds ρ [x, y] = some ys) : ∃ r r', rd ρ x = some r ∧ rd ρ y = some r' ∧ ys = [r, r'] := by
  unfold rds at h
  obtain ⟨r, e1, h⟩ := Option.bind_eq_some_iff.mp h
  obtain ⟨zs, e2, h⟩ := Option.map_eq_some_iff.mp h
  obtain ⟨r', e3, rfl⟩ := rds_one e2
  exact ⟨r, r', e1, e3, h.symm⟩
theorem evEs_one {A : E} {ρ ρ' : Sto} {xs : List Opd} (h : evEs [A] ρ = .ret xs ρ') : ∃ x, evE A ρ = .ret x ρ' ∧ xs = [x] := by
  unfold evEs at h
  obtain ⟨x, ρ1, e1, h⟩ := bind_ret h
  obtain ⟨ys, ρ2, e2, h⟩ := bind_ret h
  unfold evEs at e2
  cases e2; cases h
  exact ⟨x, e1, rfl⟩
section
variable {x : Str} {p : Pos} {a b : Expr} {A B : E} {id T : String} {s : R → Option R} {bi : Bi}
theorem sem_bi1 {ta : TE} {r : List V → Hp → VK → Prop} (sa : SemE X ta (evE A)) (hb : ∀ z, biR bi [z] = s z)
    (hr : ∀ {G H : Hp} {v : V} {x z : R} {Q : VK}, Sub G H → RV X.K G H x v → s x = some z → (∀ u G' H', NewV X.K G H z u G' H' → Q u H') → r [v] H Q) : SemE X (tCB r (tCons ta tNil)) (evE (.bi bi [A])) := by
  intro G0 G ρ σ H Q x ρ' R h q
  unfold evE at h
  obtain ⟨xs, ρ1, e1, h⟩ := bind_ret h
  obtain ⟨ys, e2, h⟩ := lift_ret h
  obtain ⟨z, e3, h⟩ := lift_ret h
  cases h
  obtain ⟨x, e0, rfl⟩ := evEs_one e1
  obtain ⟨y, e4, rfl⟩ := rds_one e2
  refine sa R e0 fun G1 H1 v af o => ?_
  rw [hb] at e3
  refine hr af.rel.s1 (rd_ok af.rel o e4) e3 fun u G' H' n => ?_
  obtain ⟨bf, ob⟩ := af.newV R n
  exact q G' H' u bf ob
theorem se_biB (hc : CallS X (.builtin id) s) (hb : ∀ z, biR bi [z] = s z) (hg : Gl X x) (hm : X.mg x = none) (hv : bootBuiltins x = some (.builtin id)) (ha : SE X a (evE A)) (hs : NoStar a X)
    (hn : x ≠ "__name__") (hdb : (x == ("__debug__" : Str)) = false) : SE X (.Call (.Name x p) [a] [] pos) (evE (.bi bi [A])) := by
  obtain ⟨ta, pa, sa⟩ := ha
  obtain ⟨r, rr, hr⟩ := hc
  exact ⟨_, pe_callB rr hg hm hv (pa_cons pa pa_nil (hs [])) hn hdb (hs []) rfl, sem_bi1 sa hb hr⟩
theorem se_biT (hc : CallS X (.type T) s) (hb : ∀ z, biR bi [z] = s z) (hg : Gl X x) (hm : X.mg x = none) (hv : bootBuiltins x = some (.type T)) (ha : SE X a (evE A)) (hs : NoStar a X)
    (hn : x ≠ "__name__") (hdb : (x == ("__debug__" : Str)) = false) : SE X (.Call (.Name x p) [a] [] pos) (evE (.bi bi [A])) := by
  obtain ⟨ta, pa, sa⟩ := ha
  obtain ⟨r, rr, hr⟩ := hc
  exact ⟨_, pe_callTy rr hg hm hv (pa_cons pa pa_nil (hs [])) hn hdb (hs []) rfl, sem_bi1 sa hb hr⟩
/-- max(a, b), min(a, b) of whole numbers -/
theorem se_bi2 {g : Int → Int → Int} (rule : CallR X (.builtin id) fun xs H Q => ∃ i j, xs = [.int i, .int j] ∧ Q (.int (g i j)) H) (hb : ∀ y z, biR bi [y, z] = int2R g y z) (hg : Gl X x) (hm : X.mg x = none) (hv : bootBuiltins x = some (.builtin id))
    (ha : SE X a (evE A)) (hb' : SE X b (evE B)) (hs : NoStar a X) (hs' : NoStar b X) (hpl : (backTo pos (starEach [b] X.env)).any (·.1) = false) (hn : x ≠ "__name__") (hdb : (x == ("__debug__" : Str)) = false) : SE X (.Call (.Name x p) [a, b] [] pos) (evE (.bi bi [A, B])) := by
  obtain ⟨ta, pa, sa⟩ := sa_cons ha hs (sa_cons hb' hs' (sa_nil (X := X) ))
  refine ⟨_, pe_callB rule hg hm hv pa hn hdb (hs [b]) hpl, fun {G0 G ρ σ H Q x ρ'} R h q => ?_⟩
  unfold evE at h
  obtain ⟨xs, ρ1, e1, h⟩ := bind_ret h
  obtain ⟨ys, e2, h⟩ := lift_ret h
  obtain ⟨z, e3, h⟩ := lift_ret h
  cases h
  refine sa R e1 fun G1 H1 vs af os => ?_
  have l : xs.length = 2 := by
    unfold evEs at e1
    obtain ⟨x, ρ1, e1, h⟩ := bind_ret e1
    obtain ⟨ys, ρ2, e2, h⟩ := bind_ret h
    obtain ⟨y, _, rfl⟩ := evEs_one e2
    cases h
    rfl
  match xs, l, os with
  | [x, y], _, .cons o1 _ (.cons o2 _ .nil) =>
    obtain ⟨r1, r2, f1, f2, rfl⟩ := rds_two e2
    rw [hb] at e3
    unfold int2R at e3
    split at e3
    · cases e3
      refine ⟨_, _, by rw [rv_int (rd_ok af.rel o1 f1), rv_int (rd_ok af.rel o2 f2)], q G1 H1 _ af (Dp.int _)⟩
    · cases e3
/-- isinstance with one built-in class -/
theorem se_isi1 {t : Ty} {tn : Str} {p2 : Pos} (hg : Gl X "isinstance") (hm : X.mg "isinstance" = none) (hg2 : Gl X tn) (hm2 : X.mg tn = none) (hv2 : bootBuiltins tn = some (.type (tyS t))) (ha : SE X a (evE A)) (hs : NoStar a X) (hn : tn ≠ "__name__") (hdb : (tn == ("__debug__" : Str)) = false) :
    SE X (.Call (.Name "isinstance" p) [a, .Name tn p2] [] pos) (evE (.bi (.isi [t]) [A])) := by
  obtain ⟨ta, pa, sa⟩ := ha
  refine ⟨_, pe_callB call_isi hg hm (by decide +kernel) (pa_cons pa (pa_cons (pe_bltn (v := .ty (tyS t)) hg2 hm2 hv2 rfl hn hdb) pa_nil) (hs _)) (by decide) (by decide) (hs _) rfl, fun {G0 G ρ σ H Q x ρ'} R h q => ?_⟩
  unfold evE at h
  obtain ⟨xs, ρ1, e1, h⟩ := bind_ret h
  obtain ⟨ys, e2, h⟩ := lift_ret h
  obtain ⟨z, e3, h⟩ := lift_ret h
  cases h
  obtain ⟨x, e0, rfl⟩ := evEs_one e1
  obtain ⟨y, e4, rfl⟩ := rds_one e2
  cases e3
  refine sa R e0 fun G1 H1 v af o => ?_
  have hd := toD_ok af.rel.s1 (rd_ok af.rel o e4)
  refine ⟨v, .ty (tyS t), _, _, _, rfl, .ty _, tyX_of hd, kit_isTy (toD y) t (dp_noDict hd), q G1 H1 _ af ?_⟩
  show Dp X.K G1 _ (.bool ([t].any (isTy (toD y))))
  rw [List.any_cons, List.any_nil, Bool.or_false]
  exact .bl _
/-- isinstance with two -/
theorem se_isi2 {t t' : Ty} {tn tn' : Str} {p2 p3 p4 : Pos} {j : Nat} (hg : Gl X "isinstance") (hm : X.mg "isinstance" = none) (hg2 : Gl X tn) (hm2 : X.mg tn = none) (hv2 : bootBuiltins tn = some (.type (tyS t))) (hn : tn ≠ "__name__") (hdb : (tn == ("__debug__" : Str)) = false)
    (hg3 : Gl X tn') (hm3 : X.mg tn' = none) (hv3 : bootBuiltins tn' = some (.type (tyS t'))) (hn' : tn' ≠ "__name__") (hdb' : (tn' == ("__debug__" : Str)) = false) (ha : SE X a (evE A)) (hs : NoStar a X) :
    SE X (.Call (.Name "isinstance" p) [a, .Tuple [.Name tn p2, .Name tn' p3] j p4] [] pos) (evE (.bi (.isi [t, t']) [A])) := by
  obtain ⟨ta, pa, sa⟩ := ha
  refine ⟨_, pe_callB call_isiT hg hm (by decide +kernel) (pa_cons pa (pa_cons (pe_tup (pa_cons (pe_bltn (v := .ty (tyS t)) hg2 hm2 hv2 rfl hn hdb) (pa_cons (pe_bltn (v := .ty (tyS t')) hg3 hm3 hv3 rfl hn' hdb') pa_nil))) pa_nil) (hs _)) (by decide) (by decide) (hs _) rfl, fun {G0 G ρ σ H Q x ρ'} R h q => ?_⟩
  unfold evE at h
  obtain ⟨xs, ρ1, e1, h⟩ := bind_ret h
  obtain ⟨ys, e2, h⟩ := lift_ret h
  obtain ⟨z, e3, h⟩ := lift_ret h
  cases h
  obtain ⟨x, e0, rfl⟩ := evEs_one e1
  obtain ⟨y, e4, rfl⟩ := rds_one e2
  cases e3
  refine sa R e0 fun G1 H1 v af o => ?_
  refine ⟨by show 2 ≤ sizeLine; decide, fun tp htp => ?_⟩
  obtain ⟨r2, s2⟩ := af.rel.newObj (o := .tup [.ty (tyS t), .ty (tyS t')]) htp
  have bf := af.trans ⟨r2, s2, fun _ => rfl⟩
  have hd := dp_sub (Sub.upd (o := .tup [.ty (tyS t), .ty (tyS t')]) htp) (toD_ok af.rel.s1 (rd_ok af.rel o e4))
  have hk := kit_anyTy (K := X.K) (toD y) (dp_noDict hd) [t, t']
  exact ⟨v, tp, _, _, _, _, rfl, upd_same, .cons (.ty _) (.cons (.ty _) .nil), tyX_of hd, hk, q _ _ _ bf (Dp.bl _)⟩
end
/-! ### the call of a def -/
theorem se_call {x : Str} {p : Pos} {e : Expr} {es : List Expr} {As : List E} {fi : Fi} {k : Nat} {f : Addr} {fd : FuncData} {ps : List Str} (F : FnG X.prog X.w X.K X.mg X.base k f fd ps (SpecOf X.K fi)) (hr : Room k X.A) (hgu : X.A.guards = some [])
    (hg : Gl X x) (hm : X.mg x = some (.ref f)) (hk : PySem.W.keepIn X.K (.ref f) = true) (hb : Binds X.K fd ps []) (ha : SA X (e :: es) (evEs As)) (hdb : (x == ("__debug__" : Str)) = false) (hs : NoStar e X) (hpl : (backTo pos (starEach es X.env)).any (·.1) = false) :
    SE X (.Call (.Name x p) (e :: es) [] pos) (evE (.call fi As)) := by
  obtain ⟨t, pa, sa⟩ := ha
  refine ⟨_, pe_callG F hr hgu hg hm hk hb pa hdb (hs es) hpl, fun {G0 G ρ σ H Q y ρ'} R h q => ?_⟩
  unfold evE at h
  obtain ⟨xs, ρ1, e1, h⟩ := bind_ret h
  exact sa R e1 fun G1 H1 vs af os => callF_ok R af os h q
end Rx
set_option Elab.async false
set_option linter.all false
set_option maxHeartbeats 1000000
set_option maxRecDepth 100000
/-! Rx11: zip(.., strict=True) and enumerate(v), beneath the hand layer -/
namespace Rx
open PySem PySem.Spec
open PySem.Sem (wp)
abbrev IsZs (h : Heap) (z TI TO : Addr) (f0 : Value) : Prop :=
  h.get? z = some { cls := .type "zip", data := .fields #[f0, .bool false, .bool true, .ref TI, .ref TO] }
section
variable {prog : Program} {w : World} {A : Around} {E : Value → Shared → Prop} {s : Shared} {it : Addr} {fp : List Addr} {n i : Nat} {P : Nat → Value → Prop} {St : Nat → Heap → Prop}
theorem zs_some {Q : Option Value → Shared → Prop} (D : Draws prog w A it fp n P St) (hi : i < n) (st : St i s.heap)
    (q : ∀ x h' tk, P i x → St (i + 1) h' → Heap.SameBut it s.heap h' → Q (some x) { s with heap := h', toks := tk }) : wpAny (model prog w) A (Builtin.SmallTypes.nextOrEnd (.ref it)) Q E s := by
  unfold Builtin.SmallTypes.nextOrEnd
  exact wpAny_bind (wpAny_attempt (D.item i s _ _ hi st fun x h' tk p st' sb => wpAny_pure (q x h' tk p st' sb)))
theorem zs_none {Q : Option Value → Shared → Prop} (D : Draws prog w A it fp n P St) (st : St n s.heap)
    (q : ∀ h', Heap.ExtBut it s.heap h' → Q none { s with heap := h' }) : wpAny (model prog w) A (Builtin.SmallTypes.nextOrEnd (.ref it)) Q E s := by
  unfold Builtin.SmallTypes.nextOrEnd
  refine wpAny_bind (wpAny_attempt (D.done s _ _ st fun h' e he hx => ?_))
  obtain ⟨o, ho, hc⟩ := hx
  refine wpAny_bind (wpAny_isInstance (T := "StopIteration") (b := true) ⟨o, ho, hc⟩ isSubtype_stop ?_)
  exact wpAny_pure (q _ he)
theorem zs_stop {α : Type} {Q : α → Shared → Prop} (hh : A.handled = none) (q : ∀ h' e, (∀ b o, s.heap.get? b = some o → h'.get? b = some o) → (∃ o, h'.get? e = some o ∧ o.cls = .type "StopIteration") → E (.ref e) { s with heap := h' }) :
    wpAny (model prog w) A (Builtin.SmallTypes.stopIteration : Sem α) Q E s := by
  unfold Builtin.SmallTypes.stopIteration
  refine wpAny_bind ?_
  simp only [newExc, newTuple]
  refine wpAny_bind (wpAny_newObj_type ?_ (by size_fits))
  refine wpAny_bind (m := firstArgMember _ _) (wpAny_of_eq (a := Value.none) (by first | rfl | (simp only [firstArgMember]; rfl)) ?_)
  refine wpAny_newObj_type ?_ (by size_fits)
  simp only [raiseNew]
  refine wpAny_bind (wpAny_handled ?_)
  rw [hh]
  refine wpAny_bind (wpAny_pure (wpAny_throw ?_))
  exact q _ _ (fun b o e => Heap.get?_push_of_some _ (Heap.get?_push_of_some _ e)) ⟨_, Heap.get?_push_size _ rfl, rfl⟩
end
section
variable {prog : Program} {w : World} {A : Around} {E : Value → Shared → Prop} {s : Shared} {z TI TO i1 i2 : Addr} {fp1 fp2 : List Addr} {n i : Nat} {P1 P2 : Nat → Value → Prop} {St1 St2 : Nat → Heap → Prop} {a1 a2 : Value}
theorem zs_item {Q : Value → Shared → Prop} (S : ZipSep2 z TI TO i1 i2 fp1 fp2) (D1 : Draws prog w A i1 fp1 n P1 St1) (D2 : Draws prog w A i2 fp2 n P2 St2)
    (hz : IsZs s.heap z TI TO .none) (hTI : IsTupOf2 s.heap TI (.ref i1) (.ref i2)) (hTO : IsTupOf2 s.heap TO a1 a2) (st1 : St1 i s.heap) (st2 : St2 i s.heap) (hi : i < n)
    (hQ : ∀ x y h' tk, P1 i x → P2 i y → IsZs h' z TI TO (rawInt s.heap.objs.size) → IsTupOf2 h' TO x y → St1 (i + 1) h' → St2 (i + 1) h' → IsTupOf2 h' s.heap.objs.size x y →
      (∀ c o, c ≠ z → c ≠ TO → c ≠ i1 → c ≠ i2 → s.heap.get? c = some o → h'.get? c = some o) → Q (.ref s.heap.objs.size) { s with heap := h', toks := tk }) :
    wpAny (model prog w) A (Builtin.«zip.__next__» ⟨[.ref z], []⟩) (fun fin s' => ∃ v, fin = .done (.ret v) ∧ Q v s') E s := by
  obtain ⟨hp, ge, dr, t0, os⟩ := s
  show wpAny _ _ (field (.ref z) 2 >>= _) _ _ _
  refine wpAny_bind (wpAny_field hz rfl (x := .bool true) rfl ?_)
  show wpAny _ _ (field (.ref z) 3 >>= _) _ _ _
  refine wpAny_bind (wpAny_field hz rfl (x := .ref TI) rfl ?_)
  refine wpAny_bind (wpAny_seqItems hTI rfl ?_)
  show wpAny _ _ (Builtin.SmallTypes.ownedTupleIsFree (.ref z) >>= _) _ _ _
  refine wpAny_bind ?_
  unfold Builtin.SmallTypes.ownedTupleIsFree
  refine wpAny_bind (wpAny_field hz rfl (x := .none) rfl (wpAny_pure ?_))
  simp only [if_true]
  refine wpAny_bind (wpAny_rule (wpAny_bind (wpAny_field hz rfl (x := .ref TO) rfl ?_)))
  refine wpAny_bind (wpAny_setField_rec hz (by simp) fun k0 z0 s0 => ?_)
  replace z0 : IsZs k0 z TI TO .ellipsis := z0
  replace s0 : Heap.SameBut z hp k0 := s0
  refine wpAny_bind ?_
  simp only [List.zipIdx_cons, List.zipIdx_nil, List.forIn_cons, List.forIn_nil]
  refine wpAny_bind (wpAny_bind (wpAny_onRaise ?_))
  show wpAny _ _ (Builtin.SmallTypes.nextOrEnd (.ref i1)) _ _ ⟨k0, ge, dr, t0, os⟩
  refine zs_some D1 hi (D1.over st1 s0 S.zf1) fun x p1 t1 hx n1 e1 => ?_
  replace e1 : Heap.SameBut i1 k0 p1 := e1
  have U1 : IsTupOf2 p1 TO a1 a2 := e1.extBut _ _ S.Ti1 (s0.extBut _ _ S.TOz hTO)
  refine wpAny_bind (wpAny_seqItems (s := ⟨p1, ge, dr, t1, os⟩) U1 rfl ?_)
  refine wpAny_bind (updateSeq_IsTupOf2 (s := ⟨p1, ge, dr, t1, os⟩) U1 fun k1 T1 s1 => ?_)
  replace T1 : IsTupOf2 k1 TO x a2 := T1
  replace s1 : Heap.SameBut TO p1 k1 := s1
  refine wpAny_bind (wpAny_letGo (wpAny_pure ?_))
  refine wpAny_bind (wpAny_bind (wpAny_onRaise ?_))
  show wpAny _ _ (Builtin.SmallTypes.nextOrEnd (.ref i2)) _ _ ⟨k1, ge, dr, t1, os⟩
  refine zs_some D2 hi (D2.over (D2.over (D2.over st2 s0 S.zf2) e1 S.sep1_2) s1 S.Tf2) fun y p2 t2 hy n2 e2 => ?_
  replace e2 : Heap.SameBut i2 k1 p2 := e2
  have U2 : IsTupOf2 p2 TO x a2 := e2.extBut _ _ S.Ti2 T1
  refine wpAny_bind (wpAny_seqItems (s := ⟨p2, ge, dr, t2, os⟩) U2 rfl ?_)
  refine wpAny_bind (updateSeq_IsTupOf2 (s := ⟨p2, ge, dr, t2, os⟩) U2 fun k2 T2 s2 => ?_)
  replace T2 : IsTupOf2 k2 TO x y := T2
  replace s2 : Heap.SameBut TO p2 k2 := s2
  refine wpAny_bind (wpAny_letGo (wpAny_pure (wpAny_pure ?_)))
  refine wpAny_bind (wpAny_seqItems (s := ⟨k2, ge, dr, t2, os⟩) T2 rfl ?_)
  refine wpAny_bind (wpAny_newTuple ?_)
  have sz : k2.objs.size = hp.objs.size := by rw [s2.1, e2.1, s1.1, e1.1, s0.1]
  have zz : IsZs k2 z TI TO .ellipsis := s2.extBut _ _ S.TOz.symm (e2.extBut _ _ S.zi2 (s1.extBut _ _ S.TOz.symm (e1.extBut _ _ S.zi1 z0)))
  have kk : ∀ c o, c ≠ z → c ≠ TO → c ≠ i1 → c ≠ i2 → hp.get? c = some o → k2.get? c = some o := fun c o c0 cT c1 c2 e =>
    s2.extBut _ _ cT (e2.extBut _ _ c2 (s1.extBut _ _ cT (e1.extBut _ _ c1 (s0.extBut _ _ c0 e))))
  have j1 : St1 (i + 1) k2 := D1.over (D1.over (D1.over n1 s1 S.Tf1) e2 S.sep2_1) s2 S.Tf1
  have j2 : St2 (i + 1) k2 := D2.over n2 s2 S.Tf2
  have zlt : z < k2.objs.size := Heap.lt_size zz
  show wpAny _ _ (Builtin.SmallTypes.ownedTupleHandOut (.ref z) (.ref k2.objs.size) >>= _) _ _ ⟨k2.push { cls := .type "tuple", data := .seq #[x, y] }, ge, dr, t2, os⟩
  refine wpAny_bind ?_
  unfold Builtin.SmallTypes.ownedTupleHandOut
  have z6 : IsZs (k2.push { cls := .type "tuple", data := .seq #[x, y] }) z TI TO .ellipsis := Heap.get?_push_of_some _ zz
  refine wpAny_bind (wpAny_setField_rec z6 (by simp) fun k7 z7 s7 => ?_)
  replace z7 : IsZs k7 z TI TO (rawInt k2.objs.size) := z7
  refine wpAny_setField_rec z7 (by simp) fun k8 z8 s8 => ?_
  replace z8 : IsZs k8 z TI TO (rawInt k2.objs.size) := z8
  replace s7 : Heap.SameBut z (k2.push { cls := .type "tuple", data := .seq #[x, y] }) k7 := s7
  replace s8 : Heap.SameBut z k7 k8 := s8
  have up : ∀ c o, c ≠ z → k2.get? c = some o → k8.get? c = some o := fun c o c0 e => s8.extBut _ _ c0 (s7.extBut _ _ c0 (Heap.get?_push_of_some _ e))
  have T8 : IsTupOf2 k8 k2.objs.size x y := s8.extBut _ _ (Nat.ne_of_gt zlt) (s7.extBut _ _ (Nat.ne_of_gt zlt) (Heap.get?_push_size _ rfl))
  rw [sz] at z8 T8
  refine wpAny_pure ⟨_, rfl, ?_⟩
  show Q (.ref k2.objs.size) ⟨k8, ge, dr, t2, os⟩
  rw [sz]
  exact hQ x y k8 t2 hx hy z8 (up _ _ S.TOz T2) (D1.frame _ _ _ j1 fun b hb o e => up b o (fun q => S.zf1 (q ▸ hb)) e) (D2.frame _ _ _ j2 fun b hb o e => up b o (fun q => S.zf2 (q ▸ hb)) e) T8 fun c o c0 cT c1 c2 e => up c o c0 (kk c o c0 cT c1 c2 e)
theorem zs_end {Q : Fin → Shared → Prop} (hh : A.handled = none) (S : ZipSep2 z TI TO i1 i2 fp1 fp2) (D1 : Draws prog w A i1 fp1 n P1 St1) (D2 : Draws prog w A i2 fp2 n P2 St2)
    (hz : IsZs s.heap z TI TO .none) (hTI : IsTupOf2 s.heap TI (.ref i1) (.ref i2)) (st1 : St1 n s.heap) (st2 : St2 n s.heap) (hTO : IsTupOf2 s.heap TO a1 a2)
    (hE : ∀ h' e, (∀ c o, c ≠ z → c ≠ TO → c ≠ i1 → c ≠ i2 → s.heap.get? c = some o → h'.get? c = some o) → (∃ o, h'.get? e = some o ∧ o.cls = .type "StopIteration") → E (.ref e) { s with heap := h' }) :
    wpAny (model prog w) A (Builtin.«zip.__next__» ⟨[.ref z], []⟩) Q E s := by
  obtain ⟨hp, ge, dr, t0, os⟩ := s
  show wpAny _ _ (field (.ref z) 2 >>= _) _ _ _
  refine wpAny_bind (wpAny_field hz rfl (x := .bool true) rfl ?_)
  show wpAny _ _ (field (.ref z) 3 >>= _) _ _ _
  refine wpAny_bind (wpAny_field hz rfl (x := .ref TI) rfl ?_)
  refine wpAny_bind (wpAny_seqItems hTI rfl ?_)
  show wpAny _ _ (Builtin.SmallTypes.ownedTupleIsFree (.ref z) >>= _) _ _ _
  refine wpAny_bind ?_
  unfold Builtin.SmallTypes.ownedTupleIsFree
  refine wpAny_bind (wpAny_field hz rfl (x := .none) rfl (wpAny_pure ?_))
  simp only [if_true]
  refine wpAny_bind (wpAny_rule (wpAny_bind (wpAny_field hz rfl (x := .ref TO) rfl ?_)))
  refine wpAny_bind (wpAny_setField_rec hz (by simp) fun k0 z0 s0 => ?_)
  replace z0 : IsZs k0 z TI TO .ellipsis := z0
  replace s0 : Heap.SameBut z hp k0 := s0
  refine wpAny_bind ?_
  simp only [List.zipIdx_cons, List.zipIdx_nil, List.forIn_cons, List.forIn_nil]
  refine wpAny_bind (wpAny_bind (wpAny_onRaise ?_))
  show wpAny _ _ (Builtin.SmallTypes.nextOrEnd (.ref i1)) _ _ ⟨k0, ge, dr, t0, os⟩
  refine zs_none D1 (D1.over st1 s0 S.zf1) fun p1 e1 => ?_
  replace e1 : Heap.ExtBut i1 k0 p1 := e1
  have zq : IsZs p1 z TI TO .ellipsis := e1 _ _ S.zi1 z0
  refine wpAny_bind (wpAny_setField_rec (s := ⟨p1, ge, dr, t0, os⟩) zq (by simp) fun k1 _ s1 => ?_)
  replace s1 : Heap.SameBut z p1 k1 := s1
  have f2 : St2 n k1 := D2.over (D2.frame _ _ _ (D2.over st2 s0 S.zf2) fun b hb o e => e1 b o (fun q => S.sep1_2 (q ▸ hb)) e) s1 S.zf2
  refine wpAny_bind (PySem.wpAny_mono (E := E) (Q := fun _ _ => False) ?_ (fun _ _ h => h.elim) fun _ _ h => h)
  show wpAny (model prog w) A (do
    for (it, j) in ([Value.ref i1, Value.ref i2].drop 1).zipIdx 1 do
      if (← Builtin.SmallTypes.nextOrEnd it).isSome then
        rule "zip.__next__.longer"; raiseError "ValueError" s!"zip() argument {j + 1} is longer than {_}"
    rule "zip.__next__.all-ended"; Builtin.SmallTypes.stopIteration : Sem Fin) _ E ⟨k1, ge, dr, t0, os⟩
  simp only [List.drop_succ_cons, List.drop_zero, List.zipIdx_cons, List.zipIdx_nil, List.forIn_cons, List.forIn_nil]
  refine wpAny_bind (wpAny_bind (wpAny_bind ?_))
  refine zs_none D2 f2 fun p2 e2 => ?_
  replace e2 : Heap.ExtBut i2 k1 p2 := e2
  rw [if_neg (show ¬ ((Option.none : Option Value).isSome = true) from Bool.false_ne_true)]
  refine wpAny_pure (wpAny_pure (wpAny_bind (wpAny_rule ?_)))
  refine zs_stop (s := ⟨p2, ge, dr, t0, os⟩) hh fun h' e hk he => ?_
  exact hE h' e (fun c o c0 cT c1 c2 q => hk _ _ (e2 _ _ c2 (s1.extBut _ _ c0 (e1 _ _ c1 (s0.extBut _ _ c0 q))))) he
theorem IsZs.ty (hz : IsZs s.heap z TI TO a1) : s.TypeIs (.ref z) "zip" := ⟨_, hz, rfl⟩
theorem zs_iter {f0 : Value} {Q : Value → Shared → Prop} (hz : IsZs s.heap z TI TO f0) (h : Q (.ref z) s) : wpAny (model prog w) A (pyIter (.ref z)) Q E s := by
  have hT : s.TypeIs (.ref z) "zip" := ⟨_, hz, rfl⟩
  refine wpAny_pyIter_slot hT F.slot_zip_iter (wpAny_call_entry F.slot_zip_iter hT F.entry_zip_iter (wpAny_pure ?_) (F.args_zip_iter_1 _))
  exact ⟨_, rfl, "zip", _, hT, F.slot_zip_next.lookup, h⟩
theorem zs_go {elts : List Expr} {k : Nat} {pos : Pos} {T : Addr} {Q : Unit → Shared → Prop} (hz : IsZs s.heap z TI TO (rawInt T))
    (q : ∀ h', IsZs h' z TI TO .none → Heap.SameBut z s.heap h' → Q () { s with heap := h' }) : wpAny (model prog w) A (letOwnedTupleGo (.Tuple elts k pos) (.ref z) (.ref T)) Q E s := by
  unfold letOwnedTupleGo
  refine wpAny_bind (wpAny_load hz ?_)
  dsimp only
  rw [if_pos (by simp)]
  refine wpAny_bind (wpAny_rule ?_)
  exact wpAny_setField_rec hz (by simp) q
/-- zip(.., strict=True) over two iterators of any kind, as long -/
theorem WalksT.zs (hh : A.handled = none) (S : ZipSep2 z TI TO i1 i2 fp1 fp2) (D1 : Draws prog w A.in1 i1 fp1 n P1 St1) (D2 : Draws prog w A.in1 i2 fp2 n P2 St2) :
    WalksT prog w A z (z :: TI :: TO :: (fp1 ++ fp2)) [z, TO, i1, i2] n
      (fun i vals => ∃ x y, P1 i x ∧ P2 i y ∧ vals = #[x, y])
      (fun i h => IsZs h z TI TO .none ∧ IsTupOf2 h TI (.ref i1) (.ref i2) ∧ (∃ a1 a2, IsTupOf2 h TO a1 a2) ∧ St1 i h ∧ St2 i h)
      (fun i T h => IsZs h z TI TO (rawInt T) ∧ IsTupOf2 h TI (.ref i1) (.ref i2) ∧ (∃ a1 a2, IsTupOf2 h TO a1 a2) ∧ St1 (i + 1) h ∧ St2 (i + 1) h ∧ T ≠ z ∧ T ≠ TO ∧ T ≠ i1 ∧ T ≠ i2) where
  sub := fun c hc => by
    simp only [List.mem_cons, List.not_mem_nil, or_false] at hc
    rcases hc with e | e | e | e
    · simp [e]
    · simp [e]
    · simp [e, S.mem1]
    · simp [e, S.mem2]
  frame := fun i h h' ⟨hz, hTI, ⟨a1, a2, hTO⟩, st1, st2⟩ hk =>
    ⟨hk z (by simp) _ hz, hk TI (by simp) _ hTI, ⟨a1, a2, hk TO (by simp) _ hTO⟩, D1.frame _ _ _ st1 fun b hb o e => hk b (by simp [hb]) o e, D2.frame _ _ _ st2 fun b hb o e => hk b (by simp [hb]) o e⟩
  item := fun i s Q E hi ⟨hz, hTI, ⟨a1, a2, hTO⟩, st1, st2⟩ q => by
    have hT := hz.ty
    have lt : ∀ {c o}, s.heap.get? c = some o → s.heap.objs.size ≠ c := fun e => Nat.ne_of_gt (Heap.lt_size e)
    have l1 : s.heap.objs.size ≠ i1 := by obtain ⟨_, e⟩ := D1.live _ _ st1; exact lt e
    have l2 : s.heap.objs.size ≠ i2 := by obtain ⟨_, e⟩ := D2.live _ _ st2; exact lt e
    unfold pyNext
    refine wpAny_bind (wpAny_attempt (wpAny_callSpecial?_slot (name := Str.ofString "__next__") hT F.slot_zip_next (wpAny_call_entry F.slot_zip_next hT F.entry_zip_next (zs_item S D1 D2 hz hTI hTO st1 st2 hi ?_) (F.args_zip_next_1 _))))
    intro x y h' tk hx hy z' T' n1 n2 R hk
    refine wpAny_pure (q _ #[x, y] h' tk ⟨x, y, hx, hy, rfl⟩ (Nat.le_refl _) ⟨_, R, rfl, _, rfl⟩ ⟨z', hk _ _ S.TIz S.TITO S.TIi1 S.TIi2 hTI, ⟨_, _, T'⟩, n1, n2, lt hz, lt hTO, l1, l2⟩ fun c o hc e => ?_)
    simp only [List.mem_cons, List.not_mem_nil, or_false, not_or] at hc
    exact hk c o hc.1 hc.2.1 hc.2.2.1 hc.2.2.2 e
  go := fun elts k pos i T s Q E ⟨hz, hTI, ⟨a1, a2, hTO⟩, st1, st2, _⟩ q =>
    zs_go hz fun h' hz' sb => q h' ⟨hz', sb.extBut _ _ S.TIz hTI, ⟨a1, a2, sb.extBut _ _ S.TOz hTO⟩, D1.over st1 sb S.zf1, D2.over st2 sb S.zf2⟩ fun c o hc e => sb.extBut _ _ (fun x => hc (by simp [x])) e
  apart := fun i T h ⟨_, _, _, _, _, tz, tT, t1, t2⟩ hT => by
    simp only [List.mem_cons, List.not_mem_nil, or_false] at hT
    exact hT.elim tz fun hT => hT.elim tT fun hT => hT.elim t1 t2
  done := fun s Q E ⟨hz, hTI, ⟨a1, a2, hTO⟩, st1, st2⟩ q => by
    have hT := hz.ty
    unfold pyNext
    refine wpAny_bind (wpAny_attempt (wpAny_callSpecial?_slot (name := Str.ofString "__next__") hT F.slot_zip_next (wpAny_call_entry F.slot_zip_next hT F.entry_zip_next (zs_end hh S D1 D2 hz hTI st1 st2 hTO ?_) (F.args_zip_next_1 _))))
    intro h' e hk ⟨o, ho, hc⟩
    refine wpAny_bind (wpAny_isInstance (T := "StopIteration") (b := true) ⟨o, ho, hc⟩ isSubtype_stop (wpAny_pure (q h' _ fun c o hc e => ?_)))
    simp only [List.mem_cons, List.not_mem_nil, or_false, not_or] at hc
    exact hk c o hc.1 hc.2.1 hc.2.2.1 hc.2.2.2 e
  self := fun i s Q E st q => zs_iter st.1 q
end
/-! ### it begins -/
abbrev zsZ (h : Heap) (o1 o2 : Obj) : Heap := (gzO2 h o1 o2).push { cls := .type "zip", data := .fields #[.none, .bool false, .bool true, .ref ((h.push o1).push o2).objs.size, .ref (gzT2 h o1 o2).objs.size] }
theorem zs_typeCall (a b : Value) (t : Bool) : checkTypeCall "zip" ⟨[a, b], [(Str.ofString "strict", .bool t)]⟩ = pure () := by kernel_rfl
theorem zs_newCall (a b : Value) (t : Bool) : checkBuiltinCall "zip.__new__" ⟨[.type "zip", a, b], [(Str.ofString "strict", .bool t)]⟩ = pure () := by kernel_rfl
theorem zs_init (obj a b : Value) (t : Bool) : argsOk "object.__init__" ⟨[obj, a, b], [(Str.ofString "strict", .bool t)]⟩ := by unfold argsOk; kernel_rfl
theorem zs_new {v1 v2 : Value} {o1 o2 : Obj} {H1 H2 : Heap → Prop} (B1 : Begins v1 o1 H1) (B2 : Begins v2 o2 H2) :
    Meets (Builtin.«zip.__new__» ⟨[.type "zip", v1, v2], [(Str.ofString "strict", .bool true)]⟩) (fun _ R s => (H1 s.heap ∧ H2 s.heap) ∧ R (.ok (.ret (.ref (gzO2 s.heap o1 o2).objs.size))) { s with heap := zsZ s.heap o1 o2 }) :=
  .of_wp fun prog w A R s h => by
    obtain ⟨hp, ge, dr, tk, os⟩ := s
    obtain ⟨⟨h1, h2⟩, h⟩ := h
    have hsub := sub_zip
    have q1 : ∀ {A' : Around} {E : Value → Shared → Prop} {Q : Value → Shared → Prop}, Q (.ref hp.objs.size) ⟨hp.push o1, ge, dr, tk, os⟩ → wpAny (model prog w) A' (pyIter v1) Q E ⟨hp, ge, dr, tk, os⟩ := fun q => B1.iter prog w _ _ _ _ h1 q
    have q2 : ∀ {A' : Around} {E : Value → Shared → Prop} {Q : Value → Shared → Prop}, Q (.ref (hp.push o1).objs.size) ⟨(hp.push o1).push o2, ge, dr, tk, os⟩ → wpAny (model prog w) A' (pyIter v2) Q E ⟨hp.push o1, ge, dr, tk, os⟩ :=
      fun q => B2.iter prog w _ _ _ _ (B2.keeps _ _ h2 fun b o' e => Heap.get?_push_of_some _ e) q
    have e1 : (Str.ofString "strict" != ("strict" : Str)) = false := by decide +kernel
    wp_walk using q1, q2
    exact ⟨_, rfl, h⟩
section
variable {prog : Program} {w : World} {A : Around} {E : Value → Shared → Prop} {s : Shared}
theorem zs_begins {v1 v2 : Value} {o1 o2 : Obj} {H1 H2 : Heap → Prop} {Q : Value → Shared → Prop} (B1 : Begins v1 o1 H1) (B2 : Begins v2 o2 H2) (h1 : H1 s.heap) (h2 : H2 s.heap)
    (h : ∀ h', IsZs h' (s.heap.objs.size + 4) (s.heap.objs.size + 2) (s.heap.objs.size + 3) .none → IsTupOf2 h' (s.heap.objs.size + 2) (.ref s.heap.objs.size) (.ref (s.heap.objs.size + 1)) →
      IsTupOf2 h' (s.heap.objs.size + 3) .none .none → h'.get? s.heap.objs.size = some o1 → h'.get? (s.heap.objs.size + 1) = some o2 → (∀ c o, s.heap.get? c = some o → h'.get? c = some o) → Q (.ref (s.heap.objs.size + 4)) { s with heap := h' }) :
    wpAny (model prog w) A (call (.type "zip") [v1, v2] [(Str.ofString "strict", .bool true)]) Q E s := by
  refine callType_newKw F.called_zip (by decide) (zs_typeCall _ _ _) (zs_newCall _ _ _) (fun obj => zs_init obj _ _ _) F.entry_zip_new (zs_new B1 B2) ⟨⟨h1, h2⟩, ?_⟩
  have z1 : (s.heap.push o1).objs.size = s.heap.objs.size + 1 := Heap.size_push ..
  have z2 : ((s.heap.push o1).push o2).objs.size = s.heap.objs.size + 2 := by rw [Heap.size_push, z1]
  have z3 : (gzT2 s.heap o1 o2).objs.size = s.heap.objs.size + 3 := by rw [Heap.size_push, z2]
  have z4 : (gzO2 s.heap o1 o2).objs.size = s.heap.objs.size + 4 := by rw [Heap.size_push, z3]
  have g4 : (zsZ s.heap o1 o2).get? (gzO2 s.heap o1 o2).objs.size = some _ := Heap.get?_push_size _ rfl
  have g3 : (zsZ s.heap o1 o2).get? (gzT2 s.heap o1 o2).objs.size = some _ := Heap.get?_push_of_some _ (Heap.get?_push_size _ rfl)
  have g2 : (zsZ s.heap o1 o2).get? ((s.heap.push o1).push o2).objs.size = some _ := Heap.get?_push_of_some _ (Heap.get?_push_of_some _ (Heap.get?_push_size _ rfl))
  have g1 : (zsZ s.heap o1 o2).get? (s.heap.push o1).objs.size = some _ := Heap.get?_push_of_some _ (Heap.get?_push_of_some _ (Heap.get?_push_of_some _ (Heap.get?_push_size _ B2.free)))
  have g0 : (zsZ s.heap o1 o2).get? s.heap.objs.size = some _ := Heap.get?_push_of_some _ (Heap.get?_push_of_some _ (Heap.get?_push_of_some _ (Heap.get?_push_of_some _ (Heap.get?_push_size _ B1.free))))
  rw [z4, z3, z2] at g4
  rw [z3] at g3
  rw [z2, z1] at g2
  rw [z1] at g1
  show _ ∧ _
  rw [z4]
  exact ⟨⟨_, g4, rfl⟩, h _ g4 g2 g3 g0 g1 fun c o e => Heap.get?_push_of_some _ (Heap.get?_push_of_some _ (Heap.get?_push_of_some _ (Heap.get?_push_of_some _ (Heap.get?_push_of_some _ e))))⟩
end
/-! ### enumerate(v) -/
theorem en_new {v : Value} {o : Obj} {H : Heap → Prop} (B : Begins v o H) :
    Meets (Builtin.«enumerate.__new__» ⟨[.type "enumerate", v], []⟩) (fun _ R s => H s.heap ∧
      R (.ok (.ret (.ref (s.heap.push o).objs.size))) { s with heap := (s.heap.push o).push { cls := .type "enumerate", data := .fields #[.none, .bool false, .ref s.heap.objs.size, rawInt 0, .none, .none] } }) :=
  .of_wp fun prog w A R s h => by
    obtain ⟨hp, ge, dr, tk, os⟩ := s
    obtain ⟨h1, h⟩ := h
    have hsub := sub_enumerate
    have q1 : ∀ {A' : Around} {E : Value → Shared → Prop} {Q : Value → Shared → Prop}, Q (.ref hp.objs.size) ⟨hp.push o, ge, dr, tk, os⟩ → wpAny (model prog w) A' (pyIter v) Q E ⟨hp, ge, dr, tk, os⟩ := fun q => B.iter prog w _ _ _ _ h1 q
    wp_walk using q1
    refine wpAny_stack_any fun st => wpAny_pure ?_
    split
    · rename_i c _ _ _ _ _
      cases (c == Value.type "enumerate") <;> (wp_walk using q1; exact ⟨_, rfl, h⟩)
    · wp_walk using q1
      exact ⟨_, rfl, h⟩
section
variable {prog : Program} {w : World} {A : Around} {E : Value → Shared → Prop} {s : Shared}
theorem en_begins {v : Value} {o : Obj} {H : Heap → Prop} {Q : Value → Shared → Prop} (B : Begins v o H) (h1 : H s.heap)
    (h : ∀ h', IsEnum h' (s.heap.objs.size + 1) s.heap.objs.size 0 .none → h'.get? s.heap.objs.size = some o → (∀ b o, s.heap.get? b = some o → h'.get? b = some o) → Q (.ref (s.heap.objs.size + 1)) { s with heap := h' }) :
    wpAny (model prog w) A (call (.type "enumerate") [v]) Q E s := by
  refine callType_new F.called_enumerate (by decide) (F.typeCall_enumerate_1 _) (F.newCall_enumerate_1 _) (fun obj => F.args_object_init_2 obj _) F.entry_enumerate_new (en_new B) ⟨h1, ?_⟩
  have z1 : (s.heap.push o).objs.size = s.heap.objs.size + 1 := Heap.size_push ..
  have g1 : ((s.heap.push o).push { cls := .type "enumerate", data := .fields #[.none, .bool false, .ref s.heap.objs.size, rawInt 0, .none, .none] }).get? (s.heap.push o).objs.size = some _ := Heap.get?_push_size _ rfl
  show _ ∧ _
  rw [z1] at g1 ⊢
  exact ⟨⟨_, g1, rfl⟩, h _ g1 (Heap.get?_push_of_some _ (Heap.get?_push_size _ B.free)) fun b o e => Heap.get?_push_of_some _ (Heap.get?_push_of_some _ e)⟩
end
end Rx
set_option Elab.async false
set_option linter.all false
set_option maxHeartbeats 1000000
set_option maxRecDepth 100000
/-! Rx12: what is walked: lists and tuples, enumerate, zip, range -/
namespace Rx
open PySem PySem.Spec L2
def SqX (t : Bool) (K : PySem.W.Frag) (H : Hp) (a : Addr) (xs : List V) : Prop := if t = true then SqT K H a xs else SqL K H a xs
def SqH (t : Bool) (h : Heap) (a : Addr) (its : Array Value) : Prop := if t = true then h.IsTuple a its else h.IsList a its
def SqI (t : Bool) (h : Heap) (it a : Addr) (i : Nat) : Prop := if t = true then h.IsTupleIter it a i else h.IsListIter it a i
theorem SqX.sub {t : Bool} {K : PySem.W.Frag} {G H : Hp} {a : Addr} {xs : List V} (s : Sub G H) (h : SqX t K G a xs) : SqX t K H a xs := by
  cases t with
  | true => exact Sub.sqT s h
  | false => exact Sub.sqL s h
theorem inv_sq {t : Bool} {X : Cx} {pins : List (Addr × Obj)} {σ : L2.St} {H : Hp} {s : Shared} {a : Addr} {xs : List V} (I : Inv X pins σ H s) (h : SqX t X.K H a xs) : ∃ its, Vals xs its ∧ SqH t s.heap a its.toArray := by
  cases t with
  | true => obtain ⟨its, rv, p, _⟩ := I.tuple h; exact ⟨its, rv, p⟩
  | false => obtain ⟨its, rv, p, _⟩ := I.list h; exact ⟨its, rv, p.isList⟩
theorem inv_sqInj {t : Bool} {X : Cx} {pins : List (Addr × Obj)} {σ : L2.St} {H : Hp} {s : Shared} {a : Addr} {xs ys : List V} (I : Inv X pins σ H s) (h : SqX t X.K H a xs) (h' : SqX t X.K H a ys) : xs = ys := by
  cases t with
  | true => exact I.tuple_inj h h'
  | false => exact I.list_inj h h'
theorem SqH.lt {t : Bool} {h : Heap} {a : Addr} {its : Array Value} (q : SqH t h a its) : a < h.objs.size := by
  cases t with
  | true => obtain ⟨o, e, _⟩ := q; exact Heap.lt_size e
  | false => obtain ⟨o, e, _⟩ := q; exact Heap.lt_size e
theorem SqI.obj {t : Bool} {h : Heap} {it a : Addr} {i : Nat} (q : SqI t h it a i) : ∃ o, h.get? it = some o ∧ ∀ v, o.data ≠ .cell v := by
  cases t with
  | true => obtain ⟨o, e, c, d⟩ := q; exact ⟨o, e, fun v z => by rw [d] at z; cases z⟩
  | false => obtain ⟨o, e, c, d⟩ := q; exact ⟨o, e, fun v z => by rw [d] at z; cases z⟩
theorem SqI.keep {t : Bool} {h h' : Heap} {it a : Addr} {i : Nat} (q : SqI t h it a i) (k : ∀ o, h.get? it = some o → h'.get? it = some o) : SqI t h' it a i := by
  cases t with
  | true => obtain ⟨o, e, c⟩ := q; exact ⟨o, k o e, c⟩
  | false => obtain ⟨o, e, c⟩ := q; exact ⟨o, k o e, c⟩
theorem sq_draws {prog : Program} {w : World} {A : Around} (t : Bool) (hh : A.handled = none) (it a : Addr) (hne : a ≠ it) (items : Array Value) :
    Draws prog w A it [it, a] items.size (fun i v => items[i]? = some v) (fun i h => SqI t h it a i ∧ SqH t h a items) := by
  cases t with
  | true => exact Draws.tuple hh it a hne items
  | false => exact Draws.list hh it a hne items
def sqO (t : Bool) (a : Addr) : Obj := { cls := .type (if t = true then "tuple_iterator" else "list_iterator"), data := .fields #[.ref a, .int 0 0] }
theorem sq_begins (t : Bool) (a : Addr) (items : Array Value) : Begins (.ref a) (sqO t a) fun h => SqH t h a items := by
  cases t with
  | true => exact begins_tuple a items
  | false => exact begins_list a items
theorem sq_start {t : Bool} {h : Heap} {it a : Addr} (e : h.get? it = some (sqO t a)) : SqI t h it a 0 := by
  cases t with
  | true => exact ⟨_, e, rfl, rfl⟩
  | false => exact ⟨_, e, rfl, rfl⟩
/-! ### a list or a tuple -/
def ItS (t : Bool) (K : PySem.W.Frag) (a : Addr) : L2.It :=
  ⟨fun i H => ∃ (xs : List V) (x : V), SqX t K H a xs ∧ xs[i]? = some x, fun i H x H' => H' = H ∧ ∀ xs, SqX t K H a xs → xs[i]? = some x, fun i H => ∃ xs : List V, SqX t K H a xs ∧ xs.length ≤ i⟩
theorem turn_sq {P : Program} {w : World} {K : PySem.W.Frag} {tg : Expr} (t : Bool) (a it : Addr) : Turn P w K tg (ItS t K a) [it] it (fun i h => SqI t h it a i) := by
  cases t with
  | true => exact turn_tuple a it
  | false => exact turn_list a it
/-! ### iterators of pairs, by the library's walks -/
theorem turn_walks {P : Program} {w : World} {K : PySem.W.Frag} {elts : List Expr} {kk : Nat} {tpos : Pos} {J : L2.It} {fp : List Addr} {it : Addr} {tn : Nat → Heap → Prop} (mem : it ∈ fp) (obj : ∀ i h, tn i h → ∀ b ∈ fp, ∃ o, h.get? b = some o ∧ ∀ v, o.data ≠ .cell v)
    (keep : ∀ i h h', tn i h → (∀ b ∈ fp, ∀ o, h.get? b = some o → h'.get? b = some o) → tn i h') (self : ∀ (A : Around) (i : Nat) (s : Shared) (Q : Value → Shared → Prop) (E : Value → Shared → Prop), tn i s.heap → Q (.ref it) s → wpAny (model P w) A (pyIter (.ref it)) Q E s)
    (walk : ∀ (X : Cx), X.prog = P → X.w = w → X.K = K → ∀ (i : Nat) (pins : List (Addr × Obj)) (s : Shared) (σ : L2.St) (H : Hp), Inv X pins σ H s → X.A.handled = none → tn i s.heap → J.go i H ∨ J.stop i H →
      ∃ (fp' wr : List Addr) (n : Nat) (Pt : Nat → Array Value → Prop) (St : Nat → Heap → Prop) (Mid : Nat → Addr → Heap → Prop), WalksT P w X.A it fp' wr n Pt St Mid ∧ (∀ b ∈ wr, b ∈ fp) ∧ St i s.heap ∧ (J.go i H → i < n) ∧ (J.stop i H → i = n) ∧
        (∀ h', St (i + 1) h' → tn (i + 1) h') ∧ ∀ vals, J.go i H → Pt i vals → ∃ ws, Vals ws vals.toList ∧ ws.length ≤ sizeLine ∧ ∀ T, H T = none → J.yld i H (.ref T) (upd H T (.tup ws))) :
    Turn P w K (.Tuple elts kk tpos) J fp it tn where
  mem := mem
  obj := obj
  keep := keep
  self := self
  item := by
    intro X hP hw hK hc i pins s σ H E I hf st hg
    obtain ⟨fp', wr, n, Pt, St, Mid, W, sub, st0, lt, _, nx, yl⟩ := walk X hP hw hK i pins s σ H I (I.ok.hd hc) st (.inl hg)
    subst hP hw hK
    refine W.item i s _ _ (lt hg) st0 fun T vals h' tk hp hT ht hm hk => ⟨_, rfl, W.go elts kk tpos i T { s with heap := h', toks := tk } _ _ hm fun h2 st2 hk2 => ?_⟩
    obtain ⟨ws, rv, hl, y⟩ := yl vals hg hp
    have hn : H T = none := I.hok.fresh hT
    have ht2 : h2.IsTuple T vals := ht.at fun o e => hk2 T o (W.apart i T h' hm) e
    have new : ObjOk X.prog X.w (upd H T (.tup ws)) h2 T (.tup ws) := ⟨hl, vals.toList, rv, ht2⟩
    have I2 : Inv X pins σ (upd H T (.tup ws)) { s with heap := h2, toks := tk } := I.turnedNew (ch := fp) (fun b o hb e => hk2 b o (fun z => hb (sub b z)) (hk b o (fun z => hb (sub b z)) e)) hf hT new
    refine ⟨.ref T, _, I2, rfl, y T hn, nx _ st2, fun b hb => ?_⟩
    obtain ⟨o, e, _⟩ := obj i _ st b hb
    rw [upd_ne (Nat.ne_of_lt (Nat.lt_of_lt_of_le (Heap.lt_size e) hT))]
    exact (hf b hb).1
  done := by
    intro X hP hw hK hc i pins s σ H E I hf st hg
    obtain ⟨fp', wr, n, Pt, St, Mid, W, sub, st0, _, eq, _⟩ := walk X hP hw hK i pins s σ H I (I.ok.hd hc) st (.inr hg)
    subst hP hw hK
    have e := eq hg
    subst e
    exact W.done s _ _ st0 fun h' tk hk => ⟨rfl, I.turnedL (ch := fp) (fun b o hb e => hk b o (fun z => hb (sub b z)) e) hf⟩
/-- enumerate -/
def ItE (t : Bool) (K : PySem.W.Frag) (a : Addr) : L2.It :=
  ⟨fun i H => ∃ (xs : List V) (x : V), SqX t K H a xs ∧ xs[i]? = some x, fun i H v H' => ∃ T x, v = .ref T ∧ H T = none ∧ H' = upd H T (.tup [.int (i : Nat), x]) ∧ ∀ xs, SqX t K H a xs → xs[i]? = some x, fun i H => ∃ xs : List V, SqX t K H a xs ∧ xs.length = i⟩
theorem turn_en {P : Program} {w : World} {K : PySem.W.Frag} {elts : List Expr} {kk : Nat} {tpos : Pos} (t : Bool) (a e it : Addr) :
    Turn P w K (.Tuple elts kk tpos) (ItE t K a) [e, it] e (fun i h => (∃ old, IsEnum h e it ((i : Nat) : Int) old) ∧ SqI t h it a i ∧ e ≠ it ∧ a ≠ e ∧ a ≠ it) := by
  refine turn_walks (by simp) (fun i h ⟨⟨old, he⟩, hi, _⟩ b hb => ?_) (fun i h h' ⟨⟨old, he⟩, hi, ne⟩ k => ⟨⟨old, k e (by simp) _ he⟩, hi.keep fun o q => k it (by simp) o q, ne⟩) (fun A i s Q E st h => wpAny_pyIter_enum st.1.choose_spec h) ?_
  · simp only [List.mem_cons, List.not_mem_nil, or_false] at hb
    rcases hb with z | z
    · rw [z]; exact ⟨_, he, fun v q => nomatch q⟩
    · rw [z]; exact hi.obj
  · intro X hP hw hK i pins s σ H I hh ⟨⟨old, he⟩, hi, ne, na, nb⟩ hj
    subst hP hw hK
    obtain ⟨xs, hq, hx⟩ : ∃ xs, SqX t X.K H a xs ∧ i ≤ xs.length := by
      rcases hj with ⟨xs, x, hq, hx⟩ | ⟨xs, hq, hx⟩
      · exact ⟨xs, hq, Nat.le_of_lt (List.getElem?_eq_some_iff.mp hx).1⟩
      · exact ⟨xs, hq, Nat.le_of_eq hx.symm⟩
    obtain ⟨its, rv, p⟩ := inv_sq I hq
    have hl := rv.length
    refine ⟨_, _, _, _, _, _, WalksT.enumFrom 0 (sq_draws (prog := X.prog) (w := X.w) (A := X.A.in1) t hh it a nb its.toArray) e ne (by simp [ne, na.symm]) (by simp), by simp, ⟨⟨old, by rw [Int.zero_add]; exact he⟩, hi, p⟩, fun ⟨ys, y, hy, hyi⟩ => ?_, fun ⟨ys, hy, hyi⟩ => ?_, fun h' ⟨⟨old', he'⟩, hi', _⟩ => ⟨⟨old', by rw [Int.zero_add] at he'; exact he'⟩, hi', ne, na, nb⟩, fun vals ⟨ys, y, hy, hyi⟩ ⟨tk, x, hx, ev⟩ => ?_⟩
    · rw [inv_sqInj I hy hq] at hyi
      have := (List.getElem?_eq_some_iff.mp hyi).1
      simpa [← hl] using this
    · rw [inv_sqInj I hy hq] at hyi
      simp [← hl, hyi]
    · rw [inv_sqInj I hy hq] at hyi
      obtain ⟨u, hu, ru⟩ := rv.get hyi
      simp only [List.getElem?_toArray] at hx
      rw [hu] at hx; cases hx
      subst ev
      refine ⟨[.int (i : Nat), y], .cons ⟨tk, by rw [Int.zero_add]⟩ (.cons ru .nil), by show 2 ≤ sizeLine; decide, fun T hT => ⟨T, y, rfl, hT, rfl, fun zs hz => by rw [inv_sqInj I hz hq]; exact hyi⟩⟩
/-- zip -/
def ItZ (b t u : Bool) (K : PySem.W.Frag) (a c : Addr) : L2.It :=
  ⟨fun i H => ∃ (xs ys : List V) (x y : V), SqX t K H a xs ∧ SqX u K H c ys ∧ xs[i]? = some x ∧ ys[i]? = some y ∧ (b = true → xs.length = ys.length),
    fun i H v H' => ∃ T x y, v = .ref T ∧ H T = none ∧ H' = upd H T (.tup [x, y]) ∧ (∀ xs, SqX t K H a xs → xs[i]? = some x) ∧ ∀ ys, SqX u K H c ys → ys[i]? = some y,
    fun i H => ∃ xs ys : List V, SqX t K H a xs ∧ SqX u K H c ys ∧ i = min xs.length ys.length ∧ (b = true → xs.length = ys.length)⟩
def IsZb (b : Bool) (h : Heap) (z TI TO : Addr) (f0 : Value) : Prop := if b = true then IsZs h z TI TO f0 else IsZip h z TI TO f0
theorem IsZb.at {b : Bool} {h : Heap} {z TI TO : Addr} {f0 : Value} (q : IsZb b h z TI TO f0) : ∃ o, h.get? z = some o ∧ ∀ v, o.data ≠ .cell v := by
  cases b with
  | true => exact ⟨_, q, fun v e => nomatch e⟩
  | false => exact ⟨_, q, fun v e => nomatch e⟩
theorem IsZb.keep {b : Bool} {h h' : Heap} {z TI TO : Addr} {f0 : Value} (q : IsZb b h z TI TO f0) (k : ∀ o, h.get? z = some o → h'.get? z = some o) : IsZb b h' z TI TO f0 := by
  cases b with
  | true => exact k _ q
  | false => exact k _ q
/-- the cells of a zip lie apart -/
structure ZAp (z TI TO i1 i2 a c : Addr) : Prop where
  s : ZipSep2 z TI TO i1 i2 [i1, a] [i2, c]
  a : a ≠ i1
  c : c ≠ i2
theorem turn_zp {P : Program} {w : World} {K : PySem.W.Frag} {elts : List Expr} {kk : Nat} {tpos : Pos} (b t u : Bool) {a c z TI TO i1 i2 : Addr} (D : ZAp z TI TO i1 i2 a c) :
    Turn P w K (.Tuple elts kk tpos) (ItZ b t u K a c) [z, TI, TO, i1, i2] z (fun i h => IsZb b h z TI TO .none ∧ IsTupOf2 h TI (.ref i1) (.ref i2) ∧ (∃ x y, IsTupOf2 h TO x y) ∧ SqI t h i1 a i ∧ SqI u h i2 c i) := by
  refine turn_walks (by simp) (fun i h ⟨hz, hTI, ⟨x, y, hTO⟩, h1, h2⟩ q hq => ?_) (fun i h h' ⟨hz, hTI, ⟨x, y, hTO⟩, h1, h2⟩ k => ⟨hz.keep fun o e => k z (by simp) o e, k TI (by simp) _ hTI, ⟨x, y, k TO (by simp) _ hTO⟩, h1.keep fun o e => k i1 (by simp) o e, h2.keep fun o e => k i2 (by simp) o e⟩) (fun A i s Q E st h => ?_) ?_
  · simp only [List.mem_cons, List.not_mem_nil, or_false] at hq
    rcases hq with e | e | e | e | e
    · rw [e]; exact hz.at
    · rw [e]; exact ⟨_, hTI, fun v q => nomatch q⟩
    · rw [e]; exact ⟨_, hTO, fun v q => nomatch q⟩
    · rw [e]; exact h1.obj
    · rw [e]; exact h2.obj
  · cases b with
    | true => exact zs_iter st.1 h
    | false => exact wpAny_pyIter_zip st.1 h
  · intro X hP hw hK i pins s σ H I hh ⟨hz, hTI, ⟨x0, y0, hTO⟩, h1, h2⟩ hj
    subst hP hw hK
    obtain ⟨xs, ys, hq, hr, hi, hb⟩ : ∃ xs ys, SqX t X.K H a xs ∧ SqX u X.K H c ys ∧ i ≤ min xs.length ys.length ∧ (b = true → xs.length = ys.length) := by
      rcases hj with ⟨xs, ys, x, y, hq, hr, hx, hy, hb⟩ | ⟨xs, ys, hq, hr, hx, hb⟩
      · have h1 := (List.getElem?_eq_some_iff.mp hx).1
        have h2 := (List.getElem?_eq_some_iff.mp hy).1
        exact ⟨xs, ys, hq, hr, by omega, hb⟩
      · exact ⟨xs, ys, hq, hr, Nat.le_of_eq hx, hb⟩
    obtain ⟨its, rv, p⟩ := inv_sq I hq
    obtain ⟨jts, rw', p'⟩ := inv_sq I hr
    have hl := rv.length
    have hl' := rw'.length
    have D1 := sq_draws (prog := X.prog) (w := X.w) (A := X.A.in1) t hh i1 a D.a its.toArray
    have D2 := sq_draws (prog := X.prog) (w := X.w) (A := X.A.in1) u hh i2 c D.c jts.toArray
    have yl : ∀ (vals : Array Value), (ItZ b t u X.K a c).go i H → (∃ x y, its.toArray[i]? = some x ∧ jts.toArray[i]? = some y ∧ vals = #[x, y]) → ∃ ws, Vals ws vals.toList ∧ ws.length ≤ sizeLine ∧ ∀ T, H T = none → (ItZ b t u X.K a c).yld i H (.ref T) (upd H T (.tup ws)) := by
      intro vals ⟨xs', ys', x, y, hx, hy, ex, ey, _⟩ ⟨u1, u2, e1, e2, ev⟩
      rw [inv_sqInj I hx hq] at ex
      rw [inv_sqInj I hy hr] at ey
      obtain ⟨v1, f1, r1⟩ := rv.get ex
      obtain ⟨v2, f2, r2⟩ := rw'.get ey
      simp only [List.getElem?_toArray] at e1 e2
      rw [f1] at e1; cases e1
      rw [f2] at e2; cases e2
      subst ev
      exact ⟨[x, y], .cons r1 (.cons r2 .nil), by show 2 ≤ sizeLine; decide, fun T hT => ⟨T, x, y, rfl, hT, rfl, fun zs hz => by rw [inv_sqInj I hz hq]; exact ex, fun zs hz => by rw [inv_sqInj I hz hr]; exact ey⟩⟩
    have go_lt : (ItZ b t u X.K a c).go i H → i < min xs.length ys.length := fun ⟨xs', ys', x, y, hx, hy, ex, ey, _⟩ => by
      rw [inv_sqInj I hx hq] at ex
      rw [inv_sqInj I hy hr] at ey
      have h1 := (List.getElem?_eq_some_iff.mp ex).1
      have h2 := (List.getElem?_eq_some_iff.mp ey).1
      omega
    have stop_eq : (ItZ b t u X.K a c).stop i H → i = min xs.length ys.length := fun ⟨xs', ys', hx, hy, e, _⟩ => by
      rw [inv_sqInj I hx hq, inv_sqInj I hy hr] at e
      exact e
    cases b with
    | false =>
      refine ⟨_, _, _, _, _, _, WalksT.zipD2 D.s D1 D2, by simp, ⟨hz, hTI, ⟨x0, y0, hTO⟩, ⟨h1, p⟩, ⟨h2, p'⟩⟩, fun g => ?_, fun g => ?_, fun h' ⟨z', I', O', ⟨j1, _⟩, ⟨j2, _⟩⟩ => ⟨z', I', O', j1, j2⟩, yl⟩
      · have := go_lt g
        simpa [← hl, ← hl'] using this
      · have := stop_eq g
        simpa [← hl, ← hl'] using this
    | true =>
      have el := hb rfl
      have ee : jts.toArray.size = its.toArray.size := by simp [← hl, ← hl', el]
      rw [ee] at D2
      refine ⟨_, _, _, _, _, _, WalksT.zs hh D.s D1 D2, by simp, ⟨hz, hTI, ⟨x0, y0, hTO⟩, ⟨h1, p⟩, ⟨h2, p'⟩⟩, fun g => ?_, fun g => ?_, fun h' ⟨z', I', O', ⟨j1, _⟩, ⟨j2, _⟩⟩ => ⟨z', I', O', j1, j2⟩, yl⟩
      · have := go_lt g
        simp only [List.size_toArray, ← hl]
        omega
      · have := stop_eq g
        simp only [List.size_toArray, ← hl]
        omega
end Rx
set_option Elab.async false
set_option linter.all false
set_option maxHeartbeats 1000000
set_option maxRecDepth 100000
/-! Rx13: what is walked, beside its meaning -/
namespace Rx
open PySem PySem.Spec L2
variable {X : Cx} {pos : Pos}
def iSq (K : PySem.W.Frag) (te : TE) : TI := fun σ H R => te σ H fun x H1 => ∃ (t : Bool) (a : Addr) (xs : List V), x = .ref a ∧ SqX t K H1 a xs ∧ R (ItS t K a) H1
theorem pi_sq {tg l : Expr} {te : TE} (hl : PE X l te) : PI X tg l (iSq X.K te) := by
  refine ⟨fun pins s σ H R I h => ?_⟩
  refine thn (hl.run pins s σ H _ I h) fun v s1 ⟨x, H1, I1, r1, t, a, xs, e, hq, q⟩ => ?_
  subst e
  cases r1
  obtain ⟨its, rv, p⟩ := inv_sq I1 hq
  refine (sq_begins t a its.toArray).iter _ _ _ _ s1 _ p ?_
  exact pi_one (tk := s1.toks) I1 _ (turn_sq t a _) (sq_start (Heap.get?_push_size _ rfl)) q
def iEn (K : PySem.W.Frag) (ta : TA) : TI := fun σ H R => ta σ H fun vs H1 => ∃ (t : Bool) (a : Addr) (xs : List V), vs = [.ref a] ∧ SqX t K H1 a xs ∧ R (ItE t K a) H1
theorem fresh_all {pins : List (Addr × Obj)} {σ : L2.St} {H : Hp} {s : Shared} (I : Inv X pins σ H s) {l : List Addr} (h : ∀ b ∈ l, s.heap.objs.size ≤ b) : ∀ b ∈ l, FpOk X pins H b := fun b hb => I.fpOk (h b hb) (I.hok.fresh (h b hb))
theorem pi_en {e : Expr} {ta : TA} {p pos tpos : Pos} {elts : List Expr} {kk : Nat} (hg : Gl X "enumerate") (hm : X.mg "enumerate" = none) (ha : PA X [e] ta) (hs : starEach [e] X.env = [(false, eval e X.env)]) :
    PI X (.Tuple elts kk tpos) (.Call (.Name "enumerate" p) [e] [] pos) (iEn X.K ta) := by
  refine ⟨fun pins s σ H R I h => ?_⟩
  refine PyProof.Rows.Call_ (ld_blt I hg hm PyProof.Rows.boot_enumerate (PyProof.Rows.callWith_type1 (thn (ha.run pos pins s σ H _ I h) fun us s1 ⟨vs, H1, I1, r1, t, a, xs, e, hq, q⟩ => ?_) hs rfl))
  subst e
  cases r1 with
  | cons r rr =>
    cases rr
    cases r
    obtain ⟨its, rv, p'⟩ := inv_sq I1 hq
    refine en_begins (sq_begins t a its.toArray) p' fun h' he hi hk => wpAny_pyIter_enum he ?_
    have I2 : Inv X pins σ H1 { s1 with heap := h' } := I1.kept (t' := s1.toks) hk
    have la := p'.lt
    refine ⟨s1.heap.objs.size + 1, [s1.heap.objs.size + 1, s1.heap.objs.size], _, _, H1, rfl, I2, turn_en t a _ _, ⟨⟨.none, he⟩, sq_start hi, Nat.succ_ne_self _, Nat.ne_of_lt (Nat.lt_succ_of_lt la), Nat.ne_of_lt la⟩, fresh_all I1 fun b hb => ?_, q⟩
    simp only [List.mem_cons, List.not_mem_nil, or_false] at hb
    rcases hb with z | z
    · rw [z]; exact Nat.le_succ _
    · rw [z]; exact Nat.le_refl _
def iZp (b : Bool) (K : PySem.W.Frag) (ta : TA) : TI := fun σ H R => ta σ H fun vs H1 => ∃ (t u : Bool) (a c : Addr) (xs ys : List V), vs = [.ref a, .ref c] ∧ SqX t K H1 a xs ∧ SqX u K H1 c ys ∧ R (ItZ b t u K a c) H1
theorem zap {n a c : Addr} (ha : a < n) (hc : c < n) : ZAp (n + 4) (n + 2) (n + 3) n (n + 1) a c :=
  ⟨zip_sep2 (fp1 := [a]) (fp2 := [c]) (fun b hb => by rw [List.mem_singleton.mp hb]; exact ha) (fun b hb => by rw [List.mem_singleton.mp hb]; exact hc), Nat.ne_of_lt ha, Nat.ne_of_lt (Nat.lt_succ_of_lt hc)⟩
theorem mem5 {n b : Addr} (hb : b ∈ [n + 4, n + 2, n + 3, n, n + 1]) : n ≤ b := by
  simp only [List.mem_cons, List.not_mem_nil, or_false] at hb
  rcases hb with z | z | z | z | z <;> rw [z] <;> first | exact Nat.le_refl _ | exact Nat.le_add_right _ _
theorem pi_zp {e e2 : Expr} {ta : TA} {p pos tpos : Pos} {elts : List Expr} {kk : Nat} (hg : Gl X "zip") (hm : X.mg "zip" = none) (ha : PA X [e, e2] ta)
    (hs : starEach [e, e2] X.env = (false, eval e X.env) :: starEach [e2] X.env) (hpl : (backTo pos (starEach [e2] X.env)).any (·.1) = false) : PI X (.Tuple elts kk tpos) (.Call (.Name "zip" p) [e, e2] [] pos) (iZp false X.K ta) := by
  refine ⟨fun pins s σ H R I h => ?_⟩
  refine PyProof.Rows.Call_ (ld_blt I hg hm PyProof.Rows.boot_zip (PyProof.Rows.callWith_type1 (thn (ha.run pos pins s σ H _ I h) fun us s1 ⟨vs, H1, I1, r1, t, u, a, c, xs, ys, e, hq, hr, q⟩ => ?_) hs hpl))
  subst e
  cases r1 with
  | cons r rr =>
    cases rr with
    | cons r' rr =>
      cases rr
      cases r
      cases r'
      obtain ⟨its, rv, p1⟩ := inv_sq I1 hq
      obtain ⟨jts, rw', p2⟩ := inv_sq I1 hr
      refine zip_begins2 (sq_begins t a its.toArray) (sq_begins u c jts.toArray) p1 p2 fun h' hz hTI hTO h1 h2 _ hk => wpAny_pyIter_zip hz ?_
      have I2 : Inv X pins σ H1 { s1 with heap := h' } := I1.kept (t' := s1.toks) hk
      exact ⟨s1.heap.objs.size + 4, _, _, _, H1, rfl, I2, turn_zp false t u (zap p1.lt p2.lt), ⟨hz, hTI, ⟨_, _, hTO⟩, sq_start h1, sq_start h2⟩, fresh_all I1 fun b hb => mem5 hb, q⟩
theorem pi_zs {e e2 : Expr} {ta : TA} {p pos tpos kp p3 : Pos} {elts : List Expr} {kk j : Nat} (hg : Gl X "zip") (hm : X.mg "zip" = none) (ha : PA X [e, e2] ta)
    (hs : starEach [e, e2] X.env = (false, eval e X.env) :: starEach [e2] X.env) (hpl : (backTo pos (starEach [e2] X.env)).any (·.1) = false) :
    PI X (.Tuple elts kk tpos) (.Call (.Name "zip" p) [e, e2] [⟨some "strict", .Constant (.bool true) j p3, kp⟩] pos) (iZp true X.K ta) := by
  refine ⟨fun pins s σ H R I h => ?_⟩
  refine wpAny_Call_Name_kw (ld_blt I hg hm PyProof.Rows.boot_zip ?_)
  refine PySem.W.callWith_of (P := fun _ => True) (by rw [hs]; show ((false || (backTo pos (starEach [e2] X.env)).any (·.1)) || false) = false; rw [hpl]; rfl) (fun _ _ => ⟨.machine, .inr (.inl rfl), PySem.W.Looks.of_pure rfl⟩) (PyProof.Rows.evalArgs_kw2 (by rfl) (thn (ha.run pos pins s σ H _ I h) fun us s1 ⟨vs, H1, I1, r1, t, u, a, c, xs, ys, e, hq, hr, q⟩ => ?_) hs)
  refine thn ((pk_cons pe_bl pk_nil).run pos pins s1 σ H1 _ I1 (show tCons (tC (.bl true)) tNil σ H1 (fun ws H' => H' = H1 ∧ ws = [.bl true]) from ⟨rfl, rfl⟩)) fun ks s2 ⟨ws, H2, I2, r2, e2, ew⟩ => ⟨trivial, ?_⟩
  subst e e2 ew
  cases r2 with
  | cons rk rr2 =>
  cases rr2
  cases rk
  cases r1 with
  | cons r rr =>
    cases rr with
    | cons r' rr =>
      cases rr
      cases r
      cases r'
      obtain ⟨its, rv, p1⟩ := inv_sq I2 hq
      obtain ⟨jts, rw', p2⟩ := inv_sq I2 hr
      refine zs_begins (sq_begins t a its.toArray) (sq_begins u c jts.toArray) p1 p2 fun h' hz hTI hTO h1 h2 hk => zs_iter hz ?_
      have I3 : Inv X pins σ H2 { s2 with heap := h' } := I2.kept (t' := s2.toks) hk
      exact ⟨s2.heap.objs.size + 4, _, _, _, H2, rfl, I3, turn_zp true t u (zap p1.lt p2.lt), ⟨hz, hTI, ⟨_, _, hTO⟩, sq_start h1, sq_start h2⟩, fresh_all I2 fun b hb => mem5 hb, q⟩
/-! ### an iterator beside the items that it tells -/
structure ItOk (K : PySem.W.Frag) (G : Hp) (J : L2.It) (ds : List D) : Prop where
  go : ∀ i H, Sub G H → i < ds.length → J.go i H
  stop : ∀ i H, Sub G H → i = ds.length → J.stop i H
  yld : ∀ i Gc H x H', i < ds.length → Sub G Gc → Sub Gc H → J.yld i H x H' → ∃ d Gc', ds[i]? = some d ∧ Stp Gc H Gc' H' (fun _ => False) ∧ Sub Gc' H' ∧ Dp K Gc' x d
def SemI (X : Cx) (wi : TI) (m : Sto → Out (List D)) : Prop := ∀ {G0 G : Hp} {ρ : Sto} {σ : L2.St} {H : Hp} {R : L2.It → Hp → Prop} {ds : List D} {ρ' : Sto}, Rel X.K G0 G ρ σ H → m ρ = .ret ds ρ' →
  (∀ G' H' J, Aft X.K G0 σ ρ G H ρ' G' H' → ItOk X.K G' J ds → R J H') → wi σ H R
def SI (X : Cx) (tg it : Expr) (m : Sto → Out (List D)) : Prop := ∃ wi : TI, PI X tg it wi ∧ SemI X wi m
theorem seqD_of {G : Hp} {v : V} {d : D} {ds : List D} (h : Dp X.K G v d) (e : seqD d = some ds) : ∃ (t : Bool) (a : Addr) (xs : List V), v = .ref a ∧ SqX t X.K G a xs ∧ DpAll X.K G xs ds := by
  cases h with
  | lst a b => cases e; exact ⟨false, _, _, rfl, a, b⟩
  | tup a b => cases e; exact ⟨true, _, _, rfl, a, b⟩
  | _ => cases e
/-- a sequence stands through growing heaps -/
theorem sqX_inj {t : Bool} {K : PySem.W.Frag} {H : Hp} {a : Addr} {xs ys : List V} (h : SqX t K H a xs) (h' : ∀ zs, SqX t K H a zs → zs = ys) : xs = ys := h' xs h
theorem itok_sq {t : Bool} {G : Hp} {a : Addr} {xs : List V} {ds : List D} (h : SqX t X.K G a xs) (r : DpAll X.K G xs ds) : ItOk X.K G (ItS t X.K a) ds where
  go := fun i H s hi => by
    have l := dpAll_len r
    exact ⟨xs, xs[i], h.sub s, List.getElem?_eq_getElem (by omega)⟩
  stop := fun i H s hi => ⟨xs, h.sub s, by rw [hi, dpAll_len r]; exact Nat.le_refl _⟩
  yld := fun i Gc H x H' hi s s' ⟨e, y⟩ => by
    subst e
    obtain ⟨d, hd, rd⟩ := dpAll_getV r (y xs (h.sub (s.trans s')))
    exact ⟨d, Gc, hd, Stp.refl, s', dp_sub s rd⟩
/-- a pair is laid -/
theorem new_pair {Gc H : Hp} {T : Addr} {xs : List V} {ds : List D} {K : PySem.W.Frag} (s : Sub Gc H) (hT : H T = none) (r : DpAll K Gc xs ds) :
    Stp Gc H (upd Gc T (.tup xs)) (upd H T (.tup xs)) (fun _ => False) ∧ Sub (upd Gc T (.tup xs)) (upd H T (.tup xs)) ∧ Dp K (upd Gc T (.tup xs)) (.ref T) (.tuple ds) := by
  have hG := s.none hT
  refine ⟨⟨Sub.upd hG, fun a o e f => ?_, fun a o e _ => by rw [upd_ne (ne_of_none e hT)]; exact e⟩, s.upd2, .tup (.inl (.inl upd_same)) (dpAll_sub (Sub.upd hG) r)⟩
  by_cases q : a = T
  · subst q; exact .inl hT
  · rw [upd_ne q, e] at f; cases f
theorem itok_en {t : Bool} {G : Hp} {a : Addr} {xs : List V} {ds : List D} (h : SqX t X.K G a xs) (r : DpAll X.K G xs ds) : ItOk X.K G (ItE t X.K a) (itEnum ds) where
  go := fun i H s hi => by
    have l := dpAll_len r
    simp only [itEnum, List.length_map, List.length_zipIdx] at hi
    exact ⟨xs, xs[i], h.sub s, List.getElem?_eq_getElem (by omega)⟩
  stop := fun i H s hi => ⟨xs, h.sub s, by rw [hi, dpAll_len r]; simp [itEnum]⟩
  yld := fun i Gc H x H' hi s s' ⟨T, y, e, hT, eH, hy⟩ => by
    obtain ⟨d, hd, rd⟩ := dpAll_getV r (hy xs (h.sub (s.trans s')))
    obtain ⟨a, b, c⟩ := new_pair s' hT (xs := [.int (i : Nat), y]) (ds := [.int (i : Nat), d]) (.cons (.int _) (.cons (dp_sub s rd) .nil))
    refine ⟨.tuple [.int (i : Nat), d], _, ?_, by rw [eH]; exact a, by rw [eH]; exact b, by rw [e]; exact c⟩
    simp [itEnum, hd]
theorem itok_zp {b t u : Bool} {G : Hp} {a c : Addr} {xs ys : List V} {ds es : List D} (h : SqX t X.K G a xs) (r : DpAll X.K G xs ds) (h' : SqX u X.K G c ys) (r' : DpAll X.K G ys es) (hb : b = true → ds.length = es.length) : ItOk X.K G (ItZ b t u X.K a c) (itZip ds es) where
  go := fun i H s hi => by
    have l := dpAll_len r
    have l' := dpAll_len r'
    simp only [itZip, List.length_zipWith] at hi
    exact ⟨xs, ys, xs[i], ys[i], h.sub s, h'.sub s, List.getElem?_eq_getElem (by omega), List.getElem?_eq_getElem (by omega), fun e => by rw [l, l', hb e]⟩
  stop := fun i H s hi => ⟨xs, ys, h.sub s, h'.sub s, by rw [hi, dpAll_len r, dpAll_len r']; simp [itZip], fun e => by rw [dpAll_len r, dpAll_len r', hb e]⟩
  yld := fun i Gc H x H' hi s s' ⟨T, y, z, e, hT, eH, hy, hz⟩ => by
    obtain ⟨d, hd, rd⟩ := dpAll_getV r (hy xs (h.sub (s.trans s')))
    obtain ⟨d', hd', rd'⟩ := dpAll_getV r' (hz ys (h'.sub (s.trans s')))
    obtain ⟨a, b, c⟩ := new_pair s' hT (xs := [y, z]) (ds := [d, d']) (.cons (dp_sub s rd) (.cons (dp_sub s rd') .nil))
    refine ⟨.tuple [d, d'], _, ?_, by rw [eH]; exact a, by rw [eH]; exact b, by rw [e]; exact c⟩
    simp [itZip, List.getElem?_zipWith, hd, hd']
theorem itok_rng {G : Hp} {lo : Int} {n : Nat} : ItOk X.K G (Itr lo n) (itInts lo n) where
  go := fun i H s hi => by
    show i < n
    simpa [itInts] using hi
  stop := fun i H s hi => by
    have e : i = n := by simpa [itInts] using hi
    exact Nat.le_of_eq e.symm
  yld := fun i Gc H x H' hi s s' ⟨e, e'⟩ => by
    subst e e'
    have hn : i < n := by simpa [itInts] using hi
    refine ⟨.int (lo + (i : Nat)), Gc, ?_, Stp.refl, s', .int _⟩
    simp [itInts, hn]
section
variable {a b : Expr} {A B : E} {tg : Expr} {p kp p3 tpos : Pos} {elts : List Expr} {kk j : Nat}
theorem si_seq (ha : SE X a (evE A)) : SI X tg a (evIt (.seq A)) := by
  obtain ⟨ta, pa, sa⟩ := ha
  refine ⟨_, pi_sq pa, fun {G0 G ρ σ H R ds ρ'} Re h q => ?_⟩
  unfold evIt at h
  obtain ⟨x, ρ1, e1, h⟩ := bind_ret h
  obtain ⟨⟨d, ρ2⟩, e2, h⟩ := lift_ret h
  obtain ⟨ds', e3, h⟩ := lift_ret h
  cases h
  refine sa Re e1 fun G1 H1 v af o => ?_
  obtain ⟨G2, bf, dd, _⟩ := hard_ok Re af o e2
  obtain ⟨t, l, xs, rfl, hq, rq⟩ := seqD_of dd e3
  exact ⟨t, l, xs, rfl, hq.sub bf.rel.s1, q G2 H1 _ bf (itok_sq hq rq)⟩
theorem si_enum (hg : Gl X "enumerate") (hm : X.mg "enumerate" = none) (ha : SE X a (evE A)) (hs : NoStar a X) : SI X (.Tuple elts kk tpos) (.Call (.Name "enumerate" p) [a] [] pos) (evIt (.enum A)) := by
  obtain ⟨ta, pa, sa⟩ := ha
  refine ⟨_, pi_en hg hm (pa_cons pa pa_nil (hs [])) (hs []), fun {G0 G ρ σ H R ds ρ'} Re h q => ?_⟩
  unfold evIt at h
  obtain ⟨x, ρ1, e1, h⟩ := bind_ret h
  obtain ⟨⟨d, ρ2⟩, e2, h⟩ := lift_ret h
  obtain ⟨ds', e3, h⟩ := lift_ret h
  cases h
  refine sa Re e1 fun G1 H1 v af o => ?_
  obtain ⟨G2, bf, dd, _⟩ := hard_ok Re af o e2
  obtain ⟨t, l, xs, rfl, hq, rq⟩ := seqD_of dd e3
  exact ⟨t, l, xs, rfl, hq.sub bf.rel.s1, q G2 H1 _ bf (itok_en hq rq)⟩
theorem sem_zp {bb : Bool} {ta : TA} (sa : SemA X ta (evEs [A, B])) : SemI X (iZp bb X.K ta) (evIt (.zip bb A B)) := by
  intro G0 G ρ σ H R ds ρ' Re h q
  unfold evIt at h
  obtain ⟨x, ρ1, e1, h⟩ := bind_ret h
  obtain ⟨y, ρ2, e2, h⟩ := bind_ret h
  obtain ⟨⟨d, ρ3⟩, e3, h⟩ := lift_ret h
  obtain ⟨⟨d', ρ4⟩, e4, h⟩ := lift_ret h
  obtain ⟨xs', e5, h⟩ := lift_ret h
  obtain ⟨ys', e6, h⟩ := lift_ret h
  have hb : bb = true → xs'.length = ys'.length := fun eb => by
    subst eb
    cases hd : decide (xs'.length ≠ ys'.length) with
    | true => rw [hd] at h; cases h
    | false => simpa using hd
  have h' : ds = itZip xs' ys' ∧ ρ' = ρ4 := by
    split at h
    · cases h
    · cases h; exact ⟨rfl, rfl⟩
  obtain ⟨rfl, rfl⟩ := h'
  have ee : evEs [A, B] ρ = .ret [x, y] ρ2 := by simp [evEs, e1, e2]
  refine sa Re ee fun G1 H1 vs af os => ?_
  cases os with
  | cons o1 n1 os =>
  cases os with
  | cons o2 n2 os =>
  cases os
  obtain ⟨G2, bf, da, _⟩ := hards_ok (xs := [x, y]) (ds := [d, d']) (ρ2 := ρ') Re af (.cons o1 n1 (.cons o2 n2 .nil)) (by simp [hards, e3, e4])
  cases da with
  | cons d1 da =>
  cases da with
  | cons d2 da =>
  obtain ⟨t, l, xs, rfl, hq, rq⟩ := seqD_of d1 e5
  obtain ⟨u, l', ys, rfl, hq', rq'⟩ := seqD_of d2 e6
  exact ⟨t, u, l, l', xs, ys, rfl, hq.sub bf.rel.s1, hq'.sub bf.rel.s1, q G2 H1 _ bf (itok_zp hq rq hq' rq' hb)⟩
theorem si_zip (hg : Gl X "zip") (hm : X.mg "zip" = none) (ha : SE X a (evE A)) (hb : SE X b (evE B)) (hs : NoStar a X) (hs' : NoStar b X) (hpl : (backTo pos (starEach [b] X.env)).any (·.1) = false) : SI X (.Tuple elts kk tpos) (.Call (.Name "zip" p) [a, b] [] pos) (evIt (.zip false A B)) := by
  obtain ⟨ta, pa, sa⟩ := sa_cons ha hs (sa_cons hb hs' sa_nil)
  exact ⟨_, pi_zp hg hm pa (hs [b]) hpl, sem_zp sa⟩
theorem si_zips (hg : Gl X "zip") (hm : X.mg "zip" = none) (ha : SE X a (evE A)) (hb : SE X b (evE B)) (hs : NoStar a X) (hs' : NoStar b X) (hpl : (backTo pos (starEach [b] X.env)).any (·.1) = false) :
    SI X (.Tuple elts kk tpos) (.Call (.Name "zip" p) [a, b] [⟨some "strict", .Constant (.bool true) j p3, kp⟩] pos) (evIt (.zip true A B)) := by
  obtain ⟨ta, pa, sa⟩ := sa_cons ha hs (sa_cons hb hs' sa_nil)
  exact ⟨_, pi_zs hg hm pa (hs [b]) hpl, sem_zp sa⟩
theorem si_range1 (hg : Gl X "range") (hm : X.mg "range" = none) (ha : SE X a (evE A)) (hs : NoStar a X) : SI X tg (.Call (.Name "range" p) [a] [] pos) (evIt (.range1 A)) := by
  obtain ⟨ta, pa, sa⟩ := ha
  refine ⟨_, pi_range1 hg hm (pa_cons pa pa_nil (hs [])) (hs []), fun {G0 G ρ σ H R ds ρ'} Re h q => ?_⟩
  unfold evIt at h
  obtain ⟨x, ρ1, e1, h⟩ := bind_ret h
  split at h
  · next j e =>
    obtain ⟨hj, h⟩ := ite_ret h
    cases h
    refine sa Re e1 fun G1 H1 v af o => ?_
    exact ⟨j, by rw [rv_int (rd_ok af.rel o e)], hj.1, hj.2, q G1 H1 _ af itok_rng⟩
  · cases h
theorem si_range2 (hg : Gl X "range") (hm : X.mg "range" = none) (ha : SE X a (evE A)) (hb : SE X b (evE B)) (hs : NoStar a X) (hs' : NoStar b X) : SI X tg (.Call (.Name "range" p) [a, b] [] pos) (evIt (.range2 A B)) := by
  obtain ⟨ta, pa, sa⟩ := sa_cons ha hs (sa_cons hb hs' sa_nil)
  refine ⟨_, pi_range2 hg hm pa (by rw [hs [b], hs' []]; rfl) (hs' []), fun {G0 G ρ σ H R ds ρ'} Re h q => ?_⟩
  unfold evIt at h
  obtain ⟨x, ρ1, e1, h⟩ := bind_ret h
  obtain ⟨y, ρ2, e2, h⟩ := bind_ret h
  split at h
  · next i j f1 f2 =>
    obtain ⟨hj, h⟩ := ite_ret h
    cases h
    have ee : evEs [A, B] ρ = .ret [x, y] ρ' := by simp [evEs, e1, e2]
    refine sa Re ee fun G1 H1 vs af os => ?_
    cases os with
    | cons o1 n1 os =>
    cases os with
    | cons o2 n2 os =>
    cases os
    exact ⟨i, j, by rw [rv_int (rd_ok af.rel o1 f1), rv_int (rd_ok af.rel o2 f2)], hj, q G1 H1 _ af itok_rng⟩
  · cases h
end
end Rx
set_option Elab.async false
set_option linter.all false
set_option maxHeartbeats 1000000
/-! Rx14: behind a statement -/
namespace Rx
open PySem PySem.Spec L2
variable {K : PySem.W.Frag}
theorem getS_map {ρ : Sto} {f : Option Sl → Option Sl} (hf : f none = none) {i : Nat} : getS (ρ.map f) i = f (getS ρ i) := by
  unfold getS
  rw [List.getElem?_map]
  cases e : ρ[i]? with
  | none => simp [hf]
  | some o => simp
theorem getS_mem {ρ : Sto} {i : Nat} {s : Sl} (h : getS ρ i = some s) : some s ∈ ρ := by
  unfold getS at h
  cases e : ρ[i]? with
  | none => rw [e] at h; cases h
  | some o =>
    rw [e] at h
    have h : o = some s := h
    subst h
    exact List.mem_of_getElem? e
/-- between the expression and the statement's end -/
structure Pre (K : PySem.W.Frag) (G : Hp) (σ : L2.St) (ρ : Sto) (H : Hp) (ρ' : Sto) (G' H' : Hp) : Prop where
  rel : Rel K G G' ρ' σ H'
  stp : Stp G H G' H' (Own ρ σ)
  own : ∀ i, (mkk ρ' i).isSome = true → (mkk ρ i).isSome = true
  kp : ∀ i, mkk ρ' i = some true ↔ mkk ρ i = some true
  liv : ∀ p, H p ≠ none → H' p ≠ none
structure AftS (K : PySem.W.Frag) (σ : L2.St) (ρ : Sto) (G H : Hp) (σ' : L2.St) (ρ' : Sto) (G' H' : Hp) : Prop where
  rel : Rel K G' G' ρ' σ' H'
  stp : Stp G H G' H' (Own ρ σ)
  own : ∀ p, Own ρ' σ' p → Own ρ σ p ∨ H p = none
  kp : ∀ i, mkk ρ' i = some true ↔ mkk ρ i = some true
  sl : ∀ i, mkk ρ i = some true → σ'[i]? = σ[i]?
  liv : ∀ p, H p ≠ none → H' p ≠ none
  ln : σ'.length = σ.length
section
variable {G G0 G1 G2 H H1 H2 : Hp} {ρ ρ1 ρ2 ρ3 : Sto} {σ σ1 σ2 : L2.St} {i : Nat} {p : Addr}
theorem AftS.refl (R : Rel K G G ρ σ H) : AftS K σ ρ G H σ ρ G H := ⟨R, Stp.refl, fun _ h => .inl h, fun _ => Iff.rfl, fun _ _ => rfl, fun _ h => h, rfl⟩
theorem AftS.trans (a : AftS K σ ρ G H σ1 ρ1 G1 H1) (b : AftS K σ1 ρ1 G1 H1 σ2 ρ2 G2 H2) : AftS K σ ρ G H σ2 ρ2 G2 H2 := by
  have back : ∀ p, H1 p = none → H p = none := fun p e => by
    cases z : H p with
    | none => rfl
    | some o => exact absurd e (a.liv p (by rw [z]; exact fun q => nomatch q))
  refine ⟨b.rel, a.stp.trans b.stp fun p h => a.own p h, fun p h => (b.own p h).elim (a.own p) fun z => .inr (back p z), fun i => (b.kp i).trans (a.kp i), fun i h => (b.sl i ((a.kp i).mpr h)).trans (a.sl i h), fun p h => b.liv p (a.liv p h), b.ln.trans a.ln⟩
theorem Aft.pre (R : Rel K G G ρ σ H) (a : Aft K G σ ρ G H ρ1 G1 H1) : Pre K G σ ρ H ρ1 G1 H1 := by
  refine ⟨a.rel, a.stp, fun i h => by rw [← a.pat i]; exact h, fun i => by rw [a.pat i], fun p h => ?_⟩
  cases z : H p with
  | none => exact absurd z h
  | some o =>
    by_cases w : Own ρ σ p
    · obtain ⟨vs, e⟩ := a.rel.tracked (a.pat.own.mpr w)
      rw [e]; exact fun q => nomatch q
    · rw [a.stp.keep p o z w]; exact fun q => nomatch q
theorem Pre.own' (a : Pre K G σ ρ H ρ1 G1 H1) (h : Own ρ1 σ p) : Own ρ σ p := let ⟨i, h1, h2⟩ := h; ⟨i, a.own i h1, h2⟩
theorem Pre.unset (a : Pre K G σ ρ H ρ1 G1 H1) (h : mkk ρ1 i ≠ some true) : Pre K G σ ρ H (ρ1.set i none) G1 H1 := by
  have g : ∀ j, getS (ρ1.set i none) j = if i = j then none else getS ρ1 j := fun j => by
    rw [getS_set]
    by_cases e : i = j
    · subst e
      by_cases l : i < ρ1.length
      · simp [l]
      · simp only [true_and, l, if_false, if_true]
        unfold getS
        rw [List.getElem?_eq_none (by omega)]
        rfl
    · simp [e]
  have m : ∀ j, mkk (ρ1.set i none) j = if i = j then none else mkk ρ1 j := fun j => by
    unfold mkk
    rw [g]
    by_cases e : i = j
    · simp [e]
    · simp [e]
  refine ⟨⟨a.rel.s0, a.rel.s1, by simpa using a.rel.len, fun j s e => ?_, fun j l p hj hl => ?_⟩, a.stp, fun j hj => ?_, fun j => ?_, a.liv⟩
  · rw [g] at e
    by_cases q : i = j
    · rw [if_pos q] at e; cases e
    · rw [if_neg q] at e; exact a.rel.ok j s e
  · rw [m] at hj hl
    by_cases q : i = j
    · rw [if_pos q] at hj; cases hj
    · by_cases q' : i = l
      · rw [if_pos q'] at hl; cases hl
      · rw [if_neg q] at hj; rw [if_neg q'] at hl; exact a.rel.apart j l p hj hl
  · rw [m] at hj
    by_cases q : i = j
    · rw [if_pos q] at hj; cases hj
    · rw [if_neg q] at hj; exact a.own j hj
  · rw [m]
    by_cases q : i = j
    · subst q
      rw [if_pos rfl]
      exact ⟨fun z => (nomatch z), fun z => absurd ((a.kp i).mpr z) h⟩
    · rw [if_neg q]; exact a.kp j
/-! ### settle -/
theorem unlend_some {o : Option Sl} {s : Sl} (h : unlend o = some s) : (∃ d, o = some (.frz d) ∧ s = .frz d) ∨ ∃ m k ds, o = some (.mut m k ds) ∧ s = .mut .clean k ds := by
  unfold unlend at h
  split at h
  · cases h; exact .inr ⟨_, _, _, rfl, rfl⟩
  · cases h; exact .inl ⟨_, rfl, rfl⟩
  · cases h
theorem freeze_some {o : Option Sl} {s : Sl} (h : freeze o = some s) : (∃ d, o = some (.frz d) ∧ s = .frz d) ∨ (∃ k ds, o = some (.mut .lent k ds) ∧ s = .frz (.list ds)) ∨ ∃ m k ds, m ≠ .lent ∧ o = some (.mut m k ds) ∧ s = .mut .clean k ds := by
  unfold freeze at h
  split at h
  · cases h; exact .inr (.inl ⟨_, _, rfl, rfl⟩)
  · next m k ds hm =>
    cases h
    refine .inr (.inr ⟨_, _, _, fun e => ?_, rfl, rfl⟩)
    subst e
    first | exact hm _ _ rfl | exact hm _ | exact hm rfl | exact hm
  · cases h; exact .inl ⟨_, rfl, rfl⟩
  · cases h
theorem mkk_unlend {ρ : Sto} {i : Nat} : mkk (ρ.map unlend) i = mkk ρ i := by
  unfold mkk
  rw [getS_map rfl]
  cases e : getS ρ i with
  | none => rfl
  | some s => cases s <;> rfl
theorem mkk_freeze {ρ : Sto} {i : Nat} : mkk (ρ.map freeze) i = match getS ρ i with
    | some (.mut .lent _ _) => none
    | some (.mut _ k _) => some k
    | _ => none := by
  unfold mkk
  rw [getS_map rfl]
  cases e : getS ρ i with
  | none => rfl
  | some s =>
    cases s with
    | «mut» m k ds => cases m <;> rfl
    | _ => rfl
theorem settle_ok {sc : Bool} (a : Pre K G σ ρ H ρ1 G1 H1) (e : settle sc ρ1 = some ρ2) :
    ∃ G2, AftS K σ ρ G H σ ρ2 G2 H1 ∧ (∀ i, (mkk ρ2 i).isSome = true → (mkk ρ i).isSome = true) ∧ (sc = false → G2 = G1) ∧ ∀ r v Hs, (sc = true → isScalR r = true) → ValOk K G1 H1 Hs r v → ValOk K G2 H1 Hs r v := by
  have o1 : ∀ {ρ' : Sto}, (∀ i, (mkk ρ' i).isSome = true → (mkk ρ i).isSome = true) → ∀ p, Own ρ' σ p → Own ρ σ p ∨ H p = none := fun h p ⟨i, x, y⟩ => .inl ⟨i, h i x, y⟩
  unfold settle at e
  split at e
  · next h1 =>
    cases e
    have ow : ∀ i, (mkk (ρ1.map unlend) i).isSome = true → (mkk ρ i).isSome = true := fun i h => a.own i (by rw [← mkk_unlend]; exact h)
    refine ⟨G1, ⟨⟨Sub.refl _, a.rel.s1, by simpa using a.rel.len, fun i s ei => ?_, fun i j p hi hj => ?_⟩, a.stp, o1 ow, fun i => by rw [mkk_unlend]; exact a.kp i, fun _ _ => rfl, a.liv, rfl⟩, ow, fun _ => rfl, fun r v Hs _ h => h⟩
    · rw [getS_map rfl] at ei
      rcases unlend_some ei with ⟨d, e1, e2⟩ | ⟨m, k, ds, e1, e2⟩
      · subst e2
        obtain ⟨v, f1, f2⟩ := a.rel.ok i _ e1
        exact ⟨v, f1, dp_sub a.rel.s0 f2⟩
      · subst e2
        obtain ⟨v, f1, f2⟩ := a.rel.ok i _ e1
        refine ⟨v, f1, ?_⟩
        cases m with
        | clean => obtain ⟨q, vs, z1, z2, z3, z4⟩ := f2; exact ⟨q, vs, z1, z2, z3, dpAll_sub a.rel.s0 z4⟩
        | lent =>
          have := List.all_eq_true.mp h1 _ (getS_mem e1)
          simp at this
        | dirt => exact f2
    · rw [mkk_unlend] at hi hj; exact a.rel.apart i j p hi hj
  · split at e
    · next h1 h2 =>
      cases e
      simp only [Bool.and_eq_true] at h2
      have ow : ∀ i, (mkk (ρ1.map unlend) i).isSome = true → (mkk ρ i).isSome = true := fun i h => a.own i (by rw [← mkk_unlend]; exact h)
      refine ⟨G, ⟨⟨Sub.refl _, a.rel.s0.trans a.rel.s1, by simpa using a.rel.len, fun i s ei => ?_, fun i j p hi hj => ?_⟩, ⟨Sub.refl _, fun p o e f => (by rw [e] at f; cases f), a.stp.keep⟩, o1 ow, fun i => by rw [mkk_unlend]; exact a.kp i, fun _ _ => rfl, a.liv, rfl⟩, ow, fun z => (by rw [h2.1] at z; cases z), fun r v Hs hr h => ?_⟩
      · rw [getS_map rfl] at ei
        rcases unlend_some ei with ⟨d, e1, e2⟩ | ⟨m, k, ds, e1, e2⟩
        · subst e2
          obtain ⟨v, f1, f2⟩ := a.rel.ok i _ e1
          exact ⟨v, f1, f2⟩
        · subst e2
          obtain ⟨v, f1, f2⟩ := a.rel.ok i _ e1
          refine ⟨v, f1, ?_⟩
          cases m with
          | clean => obtain ⟨q, vs, z1, z2, z3, z4⟩ := f2; exact ⟨q, vs, z1, a.rel.s0.none z2, z3, z4⟩
          | lent => obtain ⟨q, vs, z1, z2, z3, z4⟩ := f2; exact ⟨q, vs, z1, z2, a.rel.s1 _ _ z3, z4⟩
          | dirt =>
            obtain ⟨q, vs, z1, z2, z3, z4⟩ := f2
            have := List.all_eq_true.mp h2.2 _ (getS_mem e1)
            exact ⟨q, vs, z1, a.rel.s0.none z2, z3, dpAll_scal z4 this⟩
      · rw [mkk_unlend] at hi hj; exact a.rel.apart i j p hi hj
      · cases r with
        | frz d => exact dp_scal h (hr h2.1)
        | lst ds => exact absurd (hr h2.1) (fun z => nomatch z)
    · split at e
      · next h1 h2 h3 =>
        cases e
        have mk : ∀ i, mkk (ρ1.map freeze) i = some true ↔ mkk ρ1 i = some true := fun i => by
          rw [mkk_freeze]
          unfold mkk
          split
          · next k ds e =>
            have := List.all_eq_true.mp h3 _ (getS_mem e)
            simp only [mayFreeze, Bool.not_eq_true'] at this
            rw [e]
            simp [this]
          · next m k ds hm e => rw [e]
          · next x h4 h5 =>
            split
            · next m k ds e => exact absurd e (h5 _ _ _)
            · exact Iff.rfl
        have ms : ∀ i, (mkk (ρ1.map freeze) i).isSome = true → (mkk ρ1 i).isSome = true := fun i h => by
          rw [mkk_freeze] at h
          unfold mkk
          split at h
          · cases h
          · next e => rw [e]; rfl
          · cases h
        have ow : ∀ i, (mkk (ρ1.map freeze) i).isSome = true → (mkk ρ i).isSome = true := fun i h => a.own i (ms i h)
        refine ⟨G1, ⟨⟨Sub.refl _, a.rel.s1, by simpa using a.rel.len, fun i s ei => ?_, fun i j p hi hj => a.rel.apart i j p (ms i hi) (ms j hj)⟩, a.stp, o1 ow, fun i => (mk i).trans (a.kp i), fun _ _ => rfl, a.liv, rfl⟩, ow, fun _ => rfl, fun r v Hs _ h => h⟩
        rw [getS_map rfl] at ei
        rcases freeze_some ei with ⟨d, e1, e2⟩ | ⟨k, ds, e1, e2⟩ | ⟨m, k, ds, hm, e1, e2⟩
        · subst e2
          obtain ⟨v, f1, f2⟩ := a.rel.ok i _ e1
          exact ⟨v, f1, dp_sub a.rel.s0 f2⟩
        · subst e2
          obtain ⟨v, f1, q, vs, z1, z2, z3, z4⟩ := a.rel.ok i _ e1
          subst z1
          exact ⟨_, f1, .lst (.inl (.inl z3)) (dpAll_sub a.rel.s0 z4)⟩
        · subst e2
          obtain ⟨v, f1, f2⟩ := a.rel.ok i _ e1
          refine ⟨v, f1, ?_⟩
          cases m with
          | clean => obtain ⟨q, vs, z1, z2, z3, z4⟩ := f2; exact ⟨q, vs, z1, z2, z3, dpAll_sub a.rel.s0 z4⟩
          | lent => exact absurd rfl hm
          | dirt => exact f2
      · cases e
/-! ### a store -/
def SlV (K : PySem.W.Frag) (G H : Hp) : Sl → V → Prop := fun s v => SlOk K G G H s v
theorem put_ok {s : Sl} {v : V} (a : AftS K σ ρ G H σ1 ρ1 G1 H1) (h : SlOk K G1 G1 H1 s v) (n : ∀ m k ds p, s = .mut m k ds → k = false ∧ (v = .ref p → H p = none ∧ ¬ Own ρ1 σ1 p)) (e : putS ρ1 i s = some ρ2) :
    AftS K σ ρ G H (σ1.set i (some v)) ρ2 G1 H1 := by
  unfold putS at e
  split at e
  · next hc =>
    cases e
    obtain ⟨hl, hk⟩ := hc
    have hl' : i < σ1.length := by rw [← a.rel.len]; exact hl
    have g : ∀ j, getS (ρ1.set i (some s)) j = if i = j then some s else getS ρ1 j := fun j => by
      rw [getS_set]
      by_cases q : i = j
      · simp [q, q ▸ hl]
      · simp [q]
    have gs : ∀ j, (σ1.set i (some v))[j]? = if i = j then some (some v) else σ1[j]? := fun j => by
      by_cases q : i = j
      · subst q; rw [if_pos rfl, List.getElem?_set_self hl']
      · rw [if_neg q, List.getElem?_set_ne q]
    have m : ∀ j, i ≠ j → mkk (ρ1.set i (some s)) j = mkk ρ1 j := fun j q => by
      unfold mkk
      rw [g, if_neg q]
    have nk : mkk ρ1 i ≠ some true := fun z => by
      unfold mkk at z
      split at z
      · next e => rw [e] at hk; cases z; cases hk
      · cases z
    have key : ∀ j p, i ≠ j → (mkk (ρ1.set i (some s)) i).isSome = true → (mkk ρ1 j).isSome = true → v = .ref p → σ1[j]? = some (some (.ref p)) → False := fun j p q h0 hj ev ej => by
      obtain ⟨m', k', ds', e0⟩ := mkk_some h0
      rw [g, if_pos rfl] at e0
      cases e0
      exact ((n m' k' ds' p rfl).2 ev).2 ⟨j, hj, ej⟩
    refine ⟨⟨Sub.refl _, a.rel.s1, by simpa using a.rel.len, fun j t ej => ?_, fun j l p hj hl e1 e2 => ?_⟩, a.stp, fun p ⟨j, hj, ej⟩ => ?_, fun j => ?_, fun j hj => ?_, a.liv, by simpa using a.ln⟩
    · rw [g] at ej
      by_cases q : i = j
      · rw [if_pos q] at ej
        cases ej
        exact ⟨v, by rw [gs, if_pos q], h⟩
      · rw [if_neg q] at ej
        obtain ⟨w, h1, h2⟩ := a.rel.ok j t ej
        exact ⟨w, by rw [gs, if_neg q]; exact h1, h2⟩
    · rw [gs] at e1 e2
      by_cases q : i = j
      · by_cases q' : i = l
        · exact q.symm.trans q'
        · rw [if_pos q] at e1
          rw [if_neg q'] at e2
          rw [m l q'] at hl
          subst q
          exact (key l p q' hj hl (by simpa using e1) e2).elim
      · by_cases q' : i = l
        · rw [if_neg q] at e1
          rw [if_pos q'] at e2
          rw [m j q] at hj
          subst q'
          exact (key j p q hl hj (by simpa using e2) e1).elim
        · rw [if_neg q] at e1
          rw [if_neg q'] at e2
          rw [m j q] at hj
          rw [m l q'] at hl
          exact a.rel.apart j l p hj hl e1 e2
    · rw [gs] at ej
      by_cases q : i = j
      · subst q
        rw [if_pos rfl] at ej
        obtain ⟨m', k', ds', e0⟩ := mkk_some hj
        rw [g, if_pos rfl] at e0
        cases e0
        exact .inr ((n m' k' ds' p rfl).2 (by simpa using ej)).1
      · rw [if_neg q] at ej
        rw [m j q] at hj
        exact a.own p ⟨j, hj, ej⟩
    · by_cases q : i = j
      · subst q
        refine ⟨fun z => ?_, fun z => absurd ((a.kp i).mpr z) nk⟩
        obtain ⟨m', k', ds', e0⟩ := mkk_some (by rw [z]; rfl)
        rw [mkk_of e0] at z
        rw [g, if_pos rfl] at e0
        cases e0
        cases z
        exact nomatch (n m' _ ds' 0 rfl).1
      · rw [m j q]; exact a.kp j
    · rw [gs]
      by_cases q : i = j
      · subst q; exact absurd ((a.kp i).mpr hj) nk
      · rw [if_neg q]; exact a.sl j hj
  · cases e
theorem slOf_ok {r : R} {v : V} {Hs : Hp} (h : ValOk K G1 H1 Hs r v) : SlOk K G1 G1 H1 (slOf r) v := by
  cases r with
  | frz d => exact h
  | lst ds => obtain ⟨p, vs, e, _, h1, h2, h3⟩ := h; exact ⟨p, vs, e, h1, h2, h3⟩
theorem slOf_mut {r : R} {v : V} (h : ValOk K G1 H1 H r v) {m : Md} {k : Bool} {ds : List D} {p : Addr} (e : slOf r = .mut m k ds) : k = false ∧ (v = .ref p → H p = none) := by
  cases r with
  | frz d => cases e
  | lst ds => cases e; obtain ⟨q, vs, e, h0, _⟩ := h; exact ⟨rfl, fun z => by rw [e] at z; cases z; exact h0⟩
end
end Rx
set_option Elab.async false
set_option linter.all false
set_option maxHeartbeats 1000000
/-! Rx15: statements beside their meaning -/
namespace Rx
open PySem PySem.Spec L2
variable {X : Cx} {pos : Pos}
def RetOk (K : PySem.W.Frag) (σ : L2.St) (ρ : Sto) (H G' H' : Hp) : R → V → Prop
  | .frz d, v => Dp K G' v d
  | .lst ds, v => ∃ p vs, v = .ref p ∧ (H p = none ∨ ∃ i, mkk ρ i = some false ∧ σ[i]? = some (some (.ref p))) ∧ G' p = none ∧ H' p = some (.lst vs) ∧ DpAll K G' vs ds
def FinF (K : PySem.W.Frag) (D : Ends) (σ : L2.St) (ρ : Sto) (H : Hp) (σ' : L2.St) (G' H' : Hp) : Fl → Prop
  | .next => D.nx σ' H'
  | .brk => D.bk σ' H'
  | .cont => D.ct σ' H'
  | .ret r => ∀ v, RetOk K σ ρ H G' H' r v → D.rt v H'
def SemS (X : Cx) (t : TS) (m : Sto → Out Fl) : Prop := ∀ {G : Hp} {ρ : Sto} {σ : L2.St} {H : Hp} {D : Ends} {f : Fl} {ρ' : Sto}, Rel X.K G G ρ σ H → m ρ = .ret f ρ' →
  (∀ σ' G' H', AftS X.K σ ρ G H σ' ρ' G' H' → FinF X.K D σ ρ H σ' G' H' f) → t D σ H
def SS (X : Cx) (st : Stmt) (m : Sto → Out Fl) : Prop := ∃ t : TS, PS X st t ∧ SemS X t m
def SB (X : Cx) (sts : List Stmt) (m : Sto → Out Fl) : Prop := ∃ t : TS, PSs X sts t ∧ SemS X t m
section
variable {K : PySem.W.Frag} {G G' G1 G2 H H' H1 H2 : Hp} {ρ ρ' ρ1 ρ2 ρ3 : Sto} {σ σ' σ1 σ2 : L2.St} {i : Nat} {p : Addr}
theorem AftS.back (a : AftS K σ ρ G H σ1 ρ1 G1 H1) (e : H1 p = none) : H p = none := by
  cases z : H p with
  | none => rfl
  | some o => exact absurd e (a.liv p (by rw [z]; exact fun q => nomatch q))
theorem RetOk.up {r : R} {v : V} (a : AftS K σ ρ G H σ1 ρ1 G1 H1) (h : RetOk K σ1 ρ1 H1 G' H' r v) : RetOk K σ ρ H G' H' r v := by
  cases r with
  | frz d => exact h
  | lst ds =>
    obtain ⟨p, vs, e, h0, h1⟩ := h
    refine ⟨p, vs, e, ?_, h1⟩
    rcases h0 with h0 | ⟨i, hi, si⟩
    · exact .inl (a.back h0)
    · rcases a.own p ⟨i, by rw [hi]; rfl, si⟩ with ⟨j, hj, sj⟩ | z
      · cases k : mkk ρ j with
        | none => rw [k] at hj; cases hj
        | some b =>
          cases b with
          | false => exact .inr ⟨j, k, sj⟩
          | true =>
            have k1 := (a.kp j).mpr k
            have := a.rel.apart i j p (by rw [hi]; rfl) (by rw [k1]; rfl) si ((a.sl j k).trans sj)
            subst this
            rw [hi] at k1; cases k1
      · exact .inl z
theorem FinF.up {D : Ends} {f : Fl} (a : AftS K σ ρ G H σ1 ρ1 G1 H1) (h : FinF K D σ ρ H σ' G' H' f) : FinF K D σ1 ρ1 H1 σ' G' H' f := by
  cases f with
  | ret r => exact fun v q => h v (q.up a)
  | _ => exact h
/-- a new list is a list to be returned -/
theorem ValOk.ret {r : R} {v : V} (h : ValOk K G' H' H r v) : RetOk K σ ρ H G' H' r v := by
  cases r with
  | frz d => exact h
  | lst ds => obtain ⟨p, vs, e, h0, h1⟩ := h; exact ⟨p, vs, e, .inl h0, h1⟩
end
/-! ### blocks -/
theorem sb_nil : SB X [] (evSs []) := ⟨_, pss_nil, fun {G ρ σ H D f ρ'} R h q => by unfold evSs at h; cases h; exact q σ G H (AftS.refl R)⟩
theorem sem_seq {t u : TS} {m m' : Sto → Out Fl} (s1 : SemS X t m) (s2 : SemS X u m') : SemS X (tSeq t u) (fun ρ => (m ρ).bind fun f ρ1 => match f with
    | .next => m' ρ1
    | f => .ret f ρ1) := by
  intro G ρ σ H D f ρ' R h q
  obtain ⟨f1, ρ1, e1, h⟩ := bind_ret h
  refine s1 R e1 fun σ1 G1 H1 a => ?_
  cases f1 with
  | next => exact s2 a.rel h fun σ2 G2 H2 b => (q σ2 G2 H2 (a.trans b)).up a
  | brk => cases h; exact q σ1 G1 H1 a
  | cont => cases h; exact q σ1 G1 H1 a
  | ret r => cases h; exact q σ1 G1 H1 a
theorem sb_cons {st : Stmt} {rest : List Stmt} {s : S} {ss : List S} (h1 : SS X st (evS s)) (h2 : SB X rest (evSs ss)) : SB X (st :: rest) (evSs (s :: ss)) := by
  obtain ⟨t, p1, s1⟩ := h1
  obtain ⟨u, p2, s2⟩ := h2
  refine ⟨_, pss_cons p1 p2, ?_⟩
  intro G ρ σ H D f ρ' R h q
  refine sem_seq s1 s2 R ?_ q
  unfold evSs at h
  exact h
theorem sb_never {sts : List Stmt} : SB X sts (evSs [.never]) := ⟨_, pss_never, fun {G ρ σ H D f ρ'} R h q => by
  unfold evSs at h
  obtain ⟨f1, ρ1, e1, _⟩ := bind_ret h
  unfold evS at e1
  cases e1⟩
/-! ### values of statements -/
theorem sem_val {t : TE} {A : E} (sa : SemE X t (evE A)) {G H : Hp} {ρ ρ2 : Sto} {σ : L2.St} {r : R} {C : VK} (Re : Rel X.K G G ρ σ H) (e : evV A ρ = .ret r ρ2)
    (q : ∀ G2 H1 v, AftS X.K σ ρ G H σ ρ2 G2 H1 → (∀ p, H p = none → ¬ Own ρ2 σ p) → ValOk X.K G2 H1 H r v → C v H1) : t σ H C := by
  unfold evV at e
  obtain ⟨x, ρ1, e1, e⟩ := bind_ret e
  refine sa Re e1 fun G1 H1 v af o => ?_
  have no : ∀ {ρ3 : Sto}, (∀ i, (mkk ρ3 i).isSome = true → (mkk ρ i).isSome = true) → ∀ p, H p = none → ¬ Own ρ3 σ p := fun h p hp ⟨i, hi, si⟩ => Re.notOwn hp ⟨i, h i hi, si⟩
  cases x with
  | val r' =>
    obtain ⟨ρ3, e2, e⟩ := lift_ret e
    cases e
    obtain ⟨G2, a, ow, _, vo⟩ := settle_ok (af.pre Re) e2
    exact q G2 H1 v a (no ow) (vo r v H (fun z => z) o)
  | slot i =>
    obtain ⟨⟨d, ρ3⟩, e2, e⟩ := lift_ret e
    obtain ⟨ρ4, e3, e⟩ := lift_ret e
    cases e
    obtain ⟨G2, bf, dd, _⟩ := hard_ok Re af o e2
    obtain ⟨G3, a, ow, _, vo⟩ := settle_ok (bf.pre Re) e3
    exact q G3 H1 v a (no ow) (vo (.frz d) v H (fun z => nomatch z) dd)
theorem sem_test {t : TT} {A : E} (sa : SemT X t (evE A)) {G H : Hp} {ρ ρ2 : Sto} {σ : L2.St} {b : Bool} {C : Bool → Hp → Prop} (Re : Rel X.K G G ρ σ H) (e : evT A ρ = .ret b ρ2)
    (q : ∀ G2 H1, AftS X.K σ ρ G H σ ρ2 G2 H1 → C b H1) : t σ H C := by
  unfold evT at e
  obtain ⟨x, ρ1, e1, e⟩ := bind_ret e
  obtain ⟨b', e2, e⟩ := lift_ret e
  obtain ⟨ρ3, e3, e⟩ := lift_ret e
  cases e
  refine sa Re e1 e2 fun G1 H1 af => ?_
  obtain ⟨G2, a, _⟩ := settle_ok (af.pre Re) e3
  exact q G2 H1 a
/-! ### targets -/
def mkOf (tmp : Bool) (d : D) : Sl := if tmp = true then .tmp d else .frz d
theorem set_slot {K : PySem.W.Frag} {G0 G H : Hp} {ρ ρ' : Sto} {σ : L2.St} {i : Nat} {s : Sl} {v : V} (Re : Rel K G0 G ρ σ H) (h : SlOk K G0 G H s v) (n : ∀ m k ds, s ≠ .mut m k ds) (e : putS ρ i s = some ρ') :
    Rel K G0 G ρ' (σ.set i (some v)) H ∧ (∀ p, Own ρ' (σ.set i (some v)) p → Own ρ σ p) ∧ (∀ j, mkk ρ' j = some true ↔ mkk ρ j = some true) ∧ (∀ j, (mkk ρ' j).isSome = true → (mkk ρ j).isSome = true ∧ (σ.set i (some v))[j]? = σ[j]?) := by
  unfold putS at e
  split at e
  · next hc =>
    cases e
    obtain ⟨hl, hk⟩ := hc
    have hl' : i < σ.length := by rw [← Re.len]; exact hl
    have g : ∀ j, getS (ρ.set i (some s)) j = if i = j then some s else getS ρ j := fun j => by
      rw [getS_set]
      by_cases q : i = j
      · simp [q, q ▸ hl]
      · simp [q]
    have gs : ∀ j, (σ.set i (some v))[j]? = if i = j then some (some v) else σ[j]? := fun j => by
      by_cases q : i = j
      · subst q; rw [if_pos rfl, List.getElem?_set_self hl']
      · rw [if_neg q, List.getElem?_set_ne q]
    have m : ∀ j, mkk (ρ.set i (some s)) j = if i = j then none else mkk ρ j := fun j => by
      unfold mkk
      rw [g]
      by_cases q : i = j
      · rw [if_pos q, if_pos q]
        split
        · next m k ds e => exact absurd (by simpa using e) (n m k ds)
        · rfl
      · rw [if_neg q, if_neg q]
    have nk : mkk ρ i ≠ some true := fun z => by
      unfold mkk at z
      split at z
      · next e => rw [e] at hk; cases z; cases hk
      · cases z
    have w : ∀ j, (mkk (ρ.set i (some s)) j).isSome = true → i ≠ j ∧ (mkk ρ j).isSome = true := fun j hj => by
      rw [m] at hj
      by_cases q : i = j
      · rw [if_pos q] at hj; cases hj
      · rw [if_neg q] at hj; exact ⟨q, hj⟩
    refine ⟨⟨Re.s0, Re.s1, by simpa using Re.len, fun j t ej => ?_, fun j l p hj hl e1 e2 => ?_⟩, fun p ⟨j, hj, ej⟩ => ?_, fun j => ?_, fun j hj => ?_⟩
    · rw [g] at ej
      by_cases q : i = j
      · rw [if_pos q] at ej; cases ej; exact ⟨v, by rw [gs, if_pos q], h⟩
      · rw [if_neg q] at ej
        obtain ⟨x, h1, h2⟩ := Re.ok j t ej
        exact ⟨x, by rw [gs, if_neg q]; exact h1, h2⟩
    · obtain ⟨q, hj⟩ := w j hj
      obtain ⟨q', hl⟩ := w l hl
      rw [gs, if_neg q] at e1
      rw [gs, if_neg q'] at e2
      exact Re.apart j l p hj hl e1 e2
    · obtain ⟨q, hj⟩ := w j hj
      rw [gs, if_neg q] at ej
      exact ⟨j, hj, ej⟩
    · rw [m]
      by_cases q : i = j
      · subst q; rw [if_pos rfl]; exact ⟨fun z => (nomatch z), fun z => absurd z nk⟩
      · rw [if_neg q]
    · obtain ⟨q, hj⟩ := w j hj
      exact ⟨hj, by rw [gs, if_neg q]⟩
  · cases e
/-- behind a target's store: the heap as it was -/
structure Put (K : PySem.W.Frag) (G0 G H : Hp) (σ : L2.St) (ρ : Sto) (σ' : L2.St) (ρ' : Sto) : Prop where
  rel : Rel K G0 G ρ' σ' H
  own : ∀ p, Own ρ' σ' p → Own ρ σ p
  kp : ∀ j, mkk ρ' j = some true ↔ mkk ρ j = some true
  sl : ∀ j, (mkk ρ' j).isSome = true → (mkk ρ j).isSome = true ∧ σ'[j]? = σ[j]?
  ln : σ'.length = σ.length
theorem Put.trans {K : PySem.W.Frag} {G0 G H : Hp} {ρ ρ1 ρ2 : Sto} {σ σ1 σ2 : L2.St} (a : Put K G0 G H σ ρ σ1 ρ1) (b : Put K G0 G H σ1 ρ1 σ2 ρ2) : Put K G0 G H σ ρ σ2 ρ2 :=
  ⟨b.rel, fun p h => a.own p (b.own p h), fun j => (b.kp j).trans (a.kp j), fun j h => let ⟨x, y⟩ := b.sl j h; let ⟨x', y'⟩ := a.sl j x; ⟨x', y.trans y'⟩, b.ln.trans a.ln⟩
theorem Put.aft {K : PySem.W.Frag} {G H : Hp} {ρ ρ1 : Sto} {σ σ1 : L2.St} (a : Put K G G H σ ρ σ1 ρ1) : AftS K σ ρ G H σ1 ρ1 G H :=
  ⟨a.rel, Stp.refl, fun p h => .inl (a.own p h), a.kp, fun i h => (a.sl i (by rw [(a.kp i).mpr h]; rfl)).2, fun _ h => h, a.ln⟩
/-! the slots of a target -/
mutual
def tgS : Tg → List Nat
  | .nm i => [i]
  | .tup ts => tgsS ts
def tgsS : List Tg → List Nat
  | [] => []
  | t :: ts => tgS t ++ tgsS ts
end
def SemG (X : Cx) (g : TG) (tg : Tg) : Prop := ∀ (tmp : Bool) {G0 G : Hp} {ρ ρ' : Sto} {σ : L2.St} {H : Hp} {Q : L2.St → Hp → Prop} {v : V} {d : D}, Rel X.K G0 G ρ σ H → Dp X.K (if tmp = true then G else G0) v d → setTg (mkOf tmp) tg d ρ = some ρ' →
  (∀ σ', Put X.K G0 G H σ ρ σ' ρ' → (∀ vs : List Nat, (∀ i ∈ tgS tg, i ∈ vs) → wipe σ' vs = wipe σ vs) → Q σ' H) → g v σ H Q
def SemGs (X : Cx) (g : TGs) (tgs : List Tg) : Prop := ∀ (tmp : Bool) {G0 G : Hp} {ρ ρ' : Sto} {σ : L2.St} {H : Hp} {Q : L2.St → Hp → Prop} {vs : List V} {ds : List D}, Rel X.K G0 G ρ σ H → DpAll X.K (if tmp = true then G else G0) vs ds → setTgs (mkOf tmp) tgs ds ρ = some ρ' →
  (∀ σ', Put X.K G0 G H σ ρ σ' ρ' → (∀ vs : List Nat, (∀ i ∈ tgsS tgs, i ∈ vs) → wipe σ' vs = wipe σ vs) → Q σ' H) → g vs σ H Q
def SG (X : Cx) (tg : Expr) (T : Tg) : Prop := ∃ g : TG, PG X tg g ∧ SemG X g T
def SGs (X : Cx) (tgs : List Expr) (Ts : List Tg) : Prop := ∃ g : TGs, PGs X tgs g ∧ SemGs X g Ts
theorem wipe_in {σ : L2.St} {i : Nat} {x : Option V} : ∀ {vs : List Nat}, i ∈ vs → wipe (σ.set i x) vs = wipe σ vs
  | [], h => by cases h
  | v :: vs, h => by
    unfold wipe
    by_cases e : i ∈ vs
    · rw [wipe_in e]
    · have q : i = v := by rcases List.mem_cons.mp h with z | z; exact z; exact absurd z e
      subst q
      have : ∀ us : List Nat, i ∉ us → wipe (σ.set i x) us = (wipe σ us).set i x := fun us => by
        induction us with
        | nil => intro _; rfl
        | cons u us ih =>
          intro hu
          unfold wipe
          rw [ih fun z => hu (List.mem_cons_of_mem _ z), List.set_comm _ _ (fun z => hu (by rw [z]; exact List.mem_cons_self))]
      rw [this vs e, List.set_set]
theorem sg_name {i : Nat} {x : Str} (hN : X.N.Nodup) (hi : X.N[i]? = some x) (hx : Loc X.env.scope x) (hf : X.fn x = true ∨ X.env.scope.names.lookup x = some .local) : SG X (.Name x pos) (.nm i) := by
  refine ⟨_, pg_name hN hi hx hf, fun tmp {G0 G ρ ρ' σ H Q v d} Re r e q => ?_⟩
  unfold setTg at e
  cases tmp with
  | true =>
    obtain ⟨a, b, c, s⟩ := set_slot Re (s := .tmp d) r (fun _ _ _ z => nomatch z) e
    exact q _ ⟨a, b, c, s, by simp⟩ fun vs h => wipe_in (h i (by unfold tgS; simp))
  | false =>
    obtain ⟨a, b, c, s⟩ := set_slot Re (s := .frz d) r (fun _ _ _ z => nomatch z) e
    exact q _ ⟨a, b, c, s, by simp⟩ fun vs h => wipe_in (h i (by unfold tgS; simp))
theorem sgs_nil : SGs X [] [] := ⟨_, pgs_nil, fun tmp {G0 G ρ ρ' σ H Q vs ds} Re r e q => by
  cases ds with
  | nil => unfold setTgs at e; cases e; cases r; exact ⟨rfl, q σ ⟨Re, fun _ h => h, fun _ => Iff.rfl, fun _ h => ⟨h, rfl⟩, rfl⟩ fun _ _ => rfl⟩
  | cons d ds => unfold setTgs at e; cases e⟩
theorem sgs_cons {e : Expr} {es : List Expr} {T : Tg} {Ts : List Tg} (h1 : SG X e T) (h2 : SGs X es Ts) (hs : (assignEach (e :: es) X.env).map (·.2) = assign e X.env :: (assignEach es X.env).map (·.2)) : SGs X (e :: es) (T :: Ts) := by
  obtain ⟨g, pg, sg⟩ := h1
  obtain ⟨u, pu, su⟩ := h2
  refine ⟨_, pgs_cons pg pu hs, fun tmp {G0 G ρ ρ' σ H Q vs ds} Re r e q => ?_⟩
  cases ds with
  | nil => unfold setTgs at e; cases e
  | cons d ds =>
    unfold setTgs at e
    obtain ⟨ρ1, e1, e2⟩ := Option.bind_eq_some_iff.mp e
    cases r with
    | cons r1 r2 =>
      refine ⟨_, _, rfl, sg tmp Re r1 e1 fun σ1 a w => su tmp a.rel r2 e2 fun σ2 b w' => q σ2 (a.trans b) fun vs h => ?_⟩
      have h : ∀ i ∈ tgS T ++ tgsS Ts, i ∈ vs := h
      rw [w' vs fun i hi => h i (List.mem_append_right _ hi), w vs fun i hi => h i (List.mem_append_left _ hi)]
theorem sg_tup {es : List Expr} {k n : Nat} {Ts : List Tg} (hc : X.calm = true) (h : SGs X es Ts) (hn : (assignEach es X.env).length = n) (hn' : Ts.length = n) (hst : (assignEach es X.env).findIdx? (·.1) = none) : SG X (.Tuple es k pos) (.tup Ts) := by
  obtain ⟨g, pg, sg⟩ := h
  refine ⟨_, pg_tup hc pg hn hst, fun tmp {G0 G ρ ρ' σ H Q v d} Re r e q => ?_⟩
  cases d with
  | tuple ds =>
    unfold setTg at e
    cases r with
    | tup a b =>
      have s : Sub (if tmp = true then G else G0) H := by
        cases tmp with
        | true => exact Re.s1
        | false => exact Re.s0.trans Re.s1
      have hl : ∀ (ts : List Tg) (ds : List D) (ρ ρ' : Sto), setTgs (mkOf tmp) ts ds ρ = some ρ' → ds.length = ts.length := fun ts => by
        induction ts with
        | nil =>
          intro ds ρ ρ' e
          cases ds with
          | nil => rfl
          | cons d ds => unfold setTgs at e; cases e
        | cons t ts ih =>
          intro ds ρ ρ' e
          cases ds with
          | nil => unfold setTgs at e; cases e
          | cons d ds =>
            unfold setTgs at e
            obtain ⟨ρ1, e1, e2⟩ := Option.bind_eq_some_iff.mp e
            simp [ih ds ρ1 ρ' e2]
      refine ⟨_, _, rfl, s.sqT a, by rw [dpAll_len b, hl Ts ds ρ ρ' e, hn'], sg tmp Re b e q⟩
  | _ => unfold setTg at e; cases e
end Rx
set_option Elab.async false
set_option linter.all false
set_option maxHeartbeats 1000000
/-! Rx16: the rules of statements -/
namespace Rx
open PySem PySem.Spec L2
variable {X : Cx} {pos : Pos}
section
variable {e : Expr} {A : E} {i : Nat} {x : Str} {p' : Pos}
theorem sem_set {t : TE} (sa : SemE X t (evE A)) : SemS X (tAsg t (gName i)) (evS (.setv i A)) := by
  intro G ρ σ H D f ρ' Re h q
  unfold evS at h
  obtain ⟨r, ρ1, e1, h⟩ := bind_ret h
  obtain ⟨ρ2, e2, h⟩ := lift_ret h
  cases h
  refine sem_val sa Re e1 fun G2 H1 v a no vo => ?_
  exact q _ G2 H1 (put_ok a (slOf_ok vo) (fun m k ds p es => ⟨(slOf_mut (p := p) vo es).1, fun ev => ⟨(slOf_mut vo es).2 ev, no p ((slOf_mut vo es).2 ev)⟩⟩) e2)
theorem ss_set (hN : X.N.Nodup) (hi : X.N[i]? = some x) (hx : Loc X.env.scope x) (hf : X.fn x = true ∨ X.env.scope.names.lookup x = some .local) (hs : swapsWith e (some (.Name x p')) pos.line X.env = pure false) (he : SE X e (evE A)) : SS X (.Assign [.Name x p'] e pos) (evS (.setv i A)) := by
  obtain ⟨t, pe, sa⟩ := he
  exact ⟨_, ps_set hN hi hx pe hs hf, sem_set sa⟩
theorem ss_sett {tg : Expr} {T : Tg} (hg : SG X tg T) (he : SE X e (evE A)) (hs : swapsWithSole [tg] e pos.line X.env = pure false) (hw : swappedStores [tg] e X.env = pure none) (h1 : (assignEach [tg] X.env).map (·.2) = [assign tg X.env]) : SS X (.Assign [tg] e pos) (evS (.sett T A)) := by
  obtain ⟨t, pe, sa⟩ := he
  obtain ⟨g, pg, sg⟩ := hg
  refine ⟨_, ps_asg pe pg hs hw h1, fun {G ρ σ H D f ρ'} Re h q => ?_⟩
  unfold evS at h
  obtain ⟨r, ρ1, e1, h⟩ := bind_ret h
  obtain ⟨ρ2, e2, h⟩ := lift_ret h
  cases h
  refine sem_val sa Re e1 fun G2 H1 v a no vo => ?_
  cases r with
  | frz d =>
    refine sg false (G0 := G2) (G := G2) a.rel vo e2 fun σ' b _ => ?_
    exact q σ' G2 H1 (a.trans b.aft)
  | lst ds =>
    obtain ⟨T', rfl⟩ | ⟨ts, rfl⟩ : (∃ j, T = .nm j) ∨ ∃ ts, T = .tup ts := by cases T with | nm j => exact .inl ⟨j, rfl⟩ | tup ts => exact .inr ⟨ts, rfl⟩
    · obtain ⟨p, vs, rfl, h0, h1, h2, h3⟩ := vo
      have st : Stp G2 H1 (upd G2 p (.lst vs)) H1 fun q => q = p := ⟨Sub.upd h1, fun b u ee f => (by
        by_cases z : b = p
        · exact .inr z
        · rw [upd_ne z, ee] at f; cases f), fun b u ee _ => ee⟩
      have np := no p h0
      have ro := a.rel.step st (a.rel.s1.updL h2) fun q w z => np (by rw [← z]; exact w)
      have a2 : AftS X.K σ ρ G H σ ρ1 (upd G2 p (.lst vs)) H1 := by
        refine ⟨⟨Sub.refl _, ro.s1, ro.len, fun j s ej => ?_, ro.apart⟩, a.stp.trans st fun q z => .inr (by rw [z]; exact h0), a.own, a.kp, a.sl, a.liv, a.ln⟩
        obtain ⟨w, f1, f2⟩ := ro.ok j s ej
        refine ⟨w, f1, ?_⟩
        cases s with
        | frz d => exact dp_sub (Sub.upd h1) f2
        | tmp d => exact f2
        | «mut» m k l =>
          cases m with
          | clean => obtain ⟨y, ys, z1, z2, z3, z4⟩ := f2; exact ⟨y, ys, z1, z2, z3, dpAll_sub (Sub.upd h1) z4⟩
          | lent => obtain ⟨y, ys, z1, z2, z3, z4⟩ := f2; obtain ⟨v', g1, y', ys', w1, w2, w3, _⟩ := a.rel.ok j _ ej; rw [w2] at w3; cases w3
          | dirt => exact f2
      refine sg false (G0 := upd G2 p (.lst vs)) (G := upd G2 p (.lst vs)) a2.rel (.lst (.inl (.inl upd_same)) (dpAll_sub (Sub.upd h1) h3)) e2 fun σ' b _ => ?_
      exact q σ' _ H1 (a2.trans b.aft)
    · unfold setTg at e2; cases e2
theorem ss_expr (he : SE X e (evE A)) (hs : swapsWith e none pos.line X.env = pure false) : SS X (.Expr e pos) (evS (.expr A)) := by
  obtain ⟨t, pe, sa⟩ := he
  refine ⟨_, ps_expr pe hs, fun {G ρ σ H D f ρ'} Re h q => ?_⟩
  unfold evS at h
  obtain ⟨x, ρ1, e1, h⟩ := bind_ret h
  obtain ⟨ρ2, e2, h⟩ := lift_ret h
  cases h
  refine sa Re e1 fun G1 H1 v af o => ?_
  obtain ⟨G2, a, _⟩ := settle_ok (af.pre Re) e2
  exact q σ G2 H1 a
theorem ss_pass : SS X (.Pass pos) (evS .pass) := ⟨_, ps_pass, fun {G ρ σ H D f ρ'} Re h q => by unfold evS at h; cases h; exact q σ G H (AftS.refl Re)⟩
theorem ss_doc {z : Str} {j : Nat} {p2 : Pos} : SS X (.Expr (.Constant (.str z) j pos) p2) (evS .pass) := ⟨_, ps_doc, fun {G ρ σ H D f ρ'} Re h q => by unfold evS at h; cases h; exact q σ G H (AftS.refl Re)⟩
theorem ss_brk : SS X (.Break pos) (evS .brk) := ⟨_, ps_break, fun {G ρ σ H D f ρ'} Re h q => by unfold evS at h; cases h; exact q σ G H (AftS.refl Re)⟩
theorem ss_cont : SS X (.Continue pos) (evS .cont) := ⟨_, ps_continue, fun {G ρ σ H D f ρ'} Re h q => by unfold evS at h; cases h; exact q σ G H (AftS.refl Re)⟩
theorem ss_retN : SS X (.Return none pos) (evS .retN) := ⟨_, ps_retN, fun {G ρ σ H D f ρ'} Re h q => by unfold evS at h; cases h; exact q σ G H (AftS.refl Re) .non .non⟩
theorem ss_never {st : Stmt} : SS X st (evS .never) := ⟨_, ps_never, fun {G ρ σ H D f ρ'} Re h q => by unfold evS at h; cases h⟩
theorem ss_ret (he : SE X e (evE A)) : SS X (.Return (some e) pos) (evS (.ret A)) := by
  obtain ⟨t, pe, sa⟩ := he
  refine ⟨_, ps_ret pe, fun {G ρ σ H D f ρ'} Re h q => ?_⟩
  unfold evS at h
  obtain ⟨x, ρ1, e1, h⟩ := bind_ret h
  refine sa Re e1 fun G1 H1 v af o => ?_
  cases x with
  | val r =>
    obtain ⟨ρ2, e2, h⟩ := lift_ret h
    cases h
    obtain ⟨G2, a, _, _, vo⟩ := settle_ok (af.pre Re) e2
    exact q σ G2 H1 a v (vo r v H (fun z => z) o).ret
  | slot i =>
    simp only at h
    split at h
    · next ds hg =>
      obtain ⟨ρ2, e2, h⟩ := lift_ret h
      cases h
      have mi := mkk_of hg
      obtain ⟨G2, a, _, eg, _⟩ := settle_ok ((af.pre Re).unset (i := i) (by rw [mi]; exact fun z => nomatch z)) e2
      obtain ⟨w, f1, p, vs, z1, z2, z3, z4⟩ := af.rel.ok i _ hg
      have := o.2
      rw [f1] at this
      cases this
      rw [eg rfl] at a
      have := q σ G1 H1 a v
      exact this ⟨p, vs, z1, .inr ⟨i, by rw [← af.pat i]; exact mi, by rw [f1, z1]⟩, z2, z3, dpAll_sub af.rel.s0 z4⟩
    · cases h
/-! ### tests -/
theorem ss_if {c : Expr} {C : E} {a b : List Stmt} {as bs : List S} (hc : ST X c (evE C)) (ha : SB X a (evSs as)) (hb : SB X b (evSs bs)) : SS X (.If c a b pos) (evS (.iff C as bs)) := by
  obtain ⟨tc, pc, sc⟩ := hc
  obtain ⟨t, pa, sa⟩ := ha
  obtain ⟨u, pb, sb⟩ := hb
  refine ⟨_, ps_if pc pa pb, fun {G ρ σ H D f ρ'} Re h q => ?_⟩
  unfold evS at h
  obtain ⟨k, ρ1, e1, h⟩ := bind_ret h
  refine sem_test sc Re e1 fun G2 H1 a => ?_
  cases k with
  | true =>
    rw [if_pos rfl] at h ⊢
    exact sa a.rel h fun σ2 G3 H3 b => (q σ2 G3 H3 (a.trans b)).up a
  | false =>
    rw [if_neg Bool.false_ne_true] at h ⊢
    exact sb a.rel h fun σ2 G3 H3 b => (q σ2 G3 H3 (a.trans b)).up a
theorem ss_whl {c : Expr} {C : E} {b : List Stmt} {bs : List S} (hp : PassesOwn (model X.prog X.w) X.A X.env X.xe) (hc : ST X c (evE C)) (hb : SB X b (evSs bs)) : SS X (.While c b [] pos) (evS (.whl C bs)) := by
  obtain ⟨tc, pc, sc⟩ := hc
  obtain ⟨t, pb, sb⟩ := hb
  refine ⟨_, ps_while hp pc pb, fun {G ρ σ H D f ρ'} Re h q => ?_⟩
  unfold evS at h
  generalize turns = n at h
  refine ⟨fun m σ' H' => ∃ ρ1 G1, AftS X.K σ ρ G H σ' ρ1 G1 H' ∧ whlN (evT C) (evSs bs) m ρ1 = .ret f ρ', ⟨n, ρ, G, AftS.refl Re, h⟩, fun m σ1 H1 ⟨ρ1, G1, a, h⟩ => ?_⟩
  cases m with
  | zero => unfold whlN at h; cases h
  | succ m =>
    unfold whlN at h
    obtain ⟨k, ρ2, e1, h⟩ := bind_ret h
    refine sem_test sc a.rel e1 fun G2 H2 b => ?_
    have ab := a.trans b
    cases k with
    | false =>
      rw [if_neg Bool.false_ne_true] at h ⊢
      cases h
      exact q σ1 G2 H2 ab
    | true =>
      rw [if_pos rfl] at h ⊢
      obtain ⟨f1, ρ3, e2, h⟩ := bind_ret h
      refine ⟨fun σ' H' => ∃ ρ1 G1, AftS X.K σ ρ G H σ' ρ1 G1 H' ∧ whlN (evT C) (evSs bs) m ρ1 = .ret f ρ', fun σ' H' w => ⟨m, Nat.lt_succ_self m, w⟩, ?_⟩
      refine sb b.rel e2 fun σ3 G3 H3 c => ?_
      have abc := ab.trans c
      cases f1 with
      | next => exact ⟨ρ3, G3, abc, h⟩
      | cont => exact ⟨ρ3, G3, abc, h⟩
      | brk => cases h; exact q σ3 G3 H3 abc
      | ret r => cases h; exact fun v hv => q σ3 G3 H3 abc v (hv.up ab)
theorem ss_for {tg it : Expr} {T : Tg} {I : It} {b : List Stmt} {bs : List S} (hp : PassesOwn (model X.prog X.w) X.A X.env X.xe) (hc : X.calm = true) (hi : SI X tg it (evIt I)) (hg : SG X tg T) (hb : SB X b (evSs bs)) (hs : ∀ x, foldedSetIterable it X.env x = pure x) : SS X (.For tg it b [] pos) (evS (.forr T I bs)) := by
  obtain ⟨wi, pi, si⟩ := hi
  obtain ⟨g, pg, sg⟩ := hg
  obtain ⟨t, pb, sb⟩ := hb
  refine ⟨_, ps_for hp hc pi pg pb hs, fun {G ρ σ H D f ρ'} Re h q => ?_⟩
  unfold evS at h
  obtain ⟨ds, ρ1, e1, h⟩ := bind_ret h
  obtain ⟨ρ2, e2, h⟩ := lift_ret h
  refine si Re e1 fun Gi Hi J ai io => ?_
  obtain ⟨Gj, aj, _, eg, _⟩ := settle_ok (ai.pre Re) e2
  have eg := eg rfl
  subst eg
  refine ⟨fun i m σ' H' => m = ds.length - i ∧ i ≤ ds.length ∧ ∃ ρ3 G3, AftS X.K σ ρ G H σ' ρ3 G3 H' ∧ Sub Gj G3 ∧ forL T (evSs bs) (ds.drop i) ρ3 = .ret f ρ', ⟨ds.length, rfl, Nat.zero_le _, ρ2, Gj, aj, Sub.refl _, h⟩, fun i m σ' H' ⟨em, hi, ρ3, G3, a, s, h⟩ => ?_⟩
  by_cases hlt : i < ds.length
  · refine .inr ⟨io.go i H' (s.trans a.rel.s1) hlt, fun σ' H' => i + 1 ≤ ds.length ∧ ∃ ρ3 G3, AftS X.K σ ρ G H σ' ρ3 G3 H' ∧ Sub Gj G3 ∧ forL T (evSs bs) (ds.drop (i + 1)) ρ3 = .ret f ρ', fun σ4 H4 ⟨hi', w⟩ => ⟨ds.length - (i + 1), by omega, rfl, hi', w⟩, fun x H4 y => ?_⟩
    obtain ⟨d, G4, hd, st, s4, r4⟩ := io.yld i G3 H' x H4 hlt s a.rel.s1 y
    obtain ⟨hl, hd'⟩ := List.getElem?_eq_some_iff.mp hd
    rw [List.drop_eq_getElem_cons hlt, hd'] at h
    unfold forL at h
    obtain ⟨ρ4, e3, h⟩ := lift_ret h
    obtain ⟨f1, ρ5, e4, h⟩ := bind_ret h
    have ro := a.rel.step st s4 fun _ _ z => z
    have a4 : AftS X.K σ' ρ3 G3 H' σ' ρ3 G4 H4 := by
      refine ⟨⟨Sub.refl _, ro.s1, ro.len, fun j s ej => ?_, ro.apart⟩, st.mono fun _ z => z.elim, fun _ h => .inl h, fun _ => Iff.rfl, fun _ _ => rfl, fun p hp => ?_, rfl⟩
      · obtain ⟨w, f1, f2⟩ := ro.ok j s ej
        refine ⟨w, f1, ?_⟩
        cases s with
        | frz d => exact dp_sub st.g f2
        | tmp d => exact f2
        | «mut» m k l =>
          cases m with
          | clean => obtain ⟨y, ys, z1, z2, z3, z4⟩ := f2; exact ⟨y, ys, z1, z2, z3, dpAll_sub st.g z4⟩
          | lent => obtain ⟨v', g1, y', ys', w1, w2, w3, _⟩ := a.rel.ok j _ ej; rw [w2] at w3; cases w3
          | dirt => exact f2
      · cases z : H' p with
        | none => exact absurd z hp
        | some o => rw [st.keep p o z fun z => z]; exact fun z => nomatch z
    have aa := a.trans a4
    refine sg false (G0 := G4) (G := G4) aa.rel r4 e3 fun σ5 b _ => ?_
    have ab := aa.trans b.aft
    refine sb b.rel e4 fun σ6 G6 H6 c => ?_
    have abc := ab.trans c
    have s6 : Sub Gj G6 := (s.trans st.g).trans c.stp.g
    cases f1 with
    | next => exact ⟨hlt, ρ5, G6, abc, s6, h⟩
    | cont => exact ⟨hlt, ρ5, G6, abc, s6, h⟩
    | brk => cases h; exact q σ6 G6 H6 abc
    | ret r => cases h; exact fun v hv => q σ6 G6 H6 abc v (hv.up ab)
  · have ei : i = ds.length := by omega
    refine .inl ⟨io.stop i H' (s.trans a.rel.s1) ei, ?_⟩
    subst ei
    rw [List.drop_length] at h
    unfold forL at h
    cases h
    exact q σ' G3 H' a
end
end Rx
set_option Elab.async false
set_option linter.all false
set_option maxHeartbeats 1000000
/-! Rx17: lists of one's own written to; augmented and parallel assignments -/
namespace Rx
open PySem PySem.Spec L2
variable {X : Cx} {pos : Pos}
/-! ### a list of one's own written -/
section
variable {K : PySem.W.Frag} {G G0 G1 H H1 : Hp} {ρ ρ1 : Sto} {σ σ1 : L2.St} {i : Nat}
/-- the list of the clean slot i holds other items -/
theorem mut_ok {k : Bool} {ds es : List D} {v : V} {ys : List V} (a : AftS K σ ρ G H σ1 ρ1 G1 H1) (hg : getS ρ1 i = some (.mut .clean k ds)) (hs : σ1[i]? = some (some v)) (r : DpAll K G1 ys es) :
    ∃ p xs, v = .ref p ∧ H1 p = some (.lst xs) ∧ G1 p = none ∧ DpAll K G1 xs ds ∧ AftS K σ ρ G H σ1 (ρ1.set i (some (.mut .clean k es))) G1 (upd H1 p (.lst ys)) := by
  obtain ⟨w, e1, p, xs, ew, h1, h2, h3⟩ := a.rel.ok i _ hg
  rw [hs] at e1; cases e1
  subst ew
  have mi : (mkk ρ1 i).isSome = true := by rw [mkk_of hg]; rfl
  have m : ∀ j, mkk (ρ1.set i (some (.mut .clean k es))) j = mkk ρ1 j := fun j => by
    rw [mkk_set hg]
    by_cases q : i = j
    · subst q; rw [if_pos rfl, mkk_of hg]
    · rw [if_neg q]
  have own : Own ρ σ p ∨ H p = none := a.own p ⟨i, mi, hs⟩
  refine ⟨p, xs, rfl, h2, h1, h3, ⟨Sub.refl _, a.rel.s1.updR h1, by simpa using a.rel.len, fun j s ej => ?_, fun j l q hj hl => ?_⟩, ⟨a.stp.g, a.stp.fresh, fun b o e n => ?_⟩, fun q ⟨j, hj, ej⟩ => a.own q ⟨j, by rw [← m j]; exact hj, ej⟩, fun j => by rw [m]; exact a.kp j, a.sl, fun q hq => ?_, a.ln⟩
  · rw [getS_set] at ej
    by_cases q : i = j
    · subst q
      rw [if_pos ⟨rfl, getS_lt hg⟩] at ej
      cases ej
      exact ⟨_, hs, p, ys, rfl, h1, upd_same, r⟩
    · rw [if_neg fun z => q z.1] at ej
      obtain ⟨w, f1, f2⟩ := a.rel.ok j s ej
      refine ⟨w, f1, ?_⟩
      have np : ∀ y m' k' l, s = .mut m' k' l → w = .ref y → y ≠ p := fun y m' k' l es ew z => q (a.rel.apart i j p mi (by rw [mkk_of (es ▸ ej)]; rfl) hs (by rw [f1, ew, z]))
      cases s with
      | frz d => exact f2
      | tmp d => exact f2
      | «mut» m' k' l =>
        cases m' with
        | clean => obtain ⟨y, zs, z1, z2, z3, z4⟩ := f2; exact ⟨y, zs, z1, z2, by rw [upd_ne (np y _ _ _ rfl z1)]; exact z3, z4⟩
        | lent => exact f2
        | dirt => obtain ⟨y, zs, z1, z2, z3, z4⟩ := f2; exact ⟨y, zs, z1, z2, by rw [upd_ne (np y _ _ _ rfl z1)]; exact z3, z4⟩
  · rw [m] at hj hl; exact a.rel.apart j l q hj hl
  · have nb : b ≠ p := fun z => by
      subst z
      exact own.elim n fun z => by rw [e] at z; cases z
    rw [upd_ne nb]
    exact a.stp.keep b o e n
  · by_cases z : q = p
    · rw [z, upd_same]; exact fun z => nomatch z
    · rw [upd_ne z]; exact a.liv q hq
end
/-- an operand kept at a statement: it is data from here on -/
theorem keep_settle {G G1 H H1 : Hp} {ρ ρ1 ρ2 ρ3 : Sto} {σ : L2.St} {x : Opd} {v : V} {d : D} (Re : Rel X.K G G ρ σ H) (af : Aft X.K G σ ρ G H ρ1 G1 H1) (o : OpdOk X.K G1 H1 H ρ1 σ x v) (e : hard ρ1 x = some (d, ρ2)) (e2 : settle (isScal d) ρ2 = some ρ3) :
    ∃ G3, AftS X.K σ ρ G H σ ρ3 G3 H1 ∧ Dp X.K G3 v d := by
  obtain ⟨G2, bf, dd, _⟩ := hard_ok Re af o e
  obtain ⟨G3, a, _, _, vo⟩ := settle_ok (bf.pre Re) e2
  exact ⟨G3, a, vo (.frz d) v H (fun z => z) dd⟩
section
variable {i : Nat} {x : Str} {p1 p2 p3 tpos : Pos} {e ie : Expr} {A I : E}
theorem sem_app {t : TE} (sa : SemE X t (evE A)) : SemS X (tDrop (tBM X.K "list" rAppend (tVar i) (tCons t tNil))) (evS (.app i A)) := by
  intro G ρ σ H D f ρ' Re h q
  unfold evS at h
  split at h
  · next k0 ds0 hg0 =>
    obtain ⟨y, ρ0, e1, h⟩ := bind_ret h
    obtain ⟨⟨d, ρ1⟩, e2, h⟩ := lift_ret h
    obtain ⟨ρ2, e3, h⟩ := lift_ret h
    obtain ⟨w, f1, p, xs0, z1, z2, z3, z4⟩ := Re.ok i _ hg0
    subst z1
    refine ⟨_, f1, .inl ⟨rfl, xs0, .inl (.inl z3)⟩, ?_⟩
    refine sa Re e1 fun G1 H1 v af o => ?_
    obtain ⟨G3, a, dd⟩ := keep_settle Re af o e2 e3
    have h : (match getS ρ2 i with
      | some (.mut .clean k xs) => if xs.length < sizeLine then Out.ret Fl.next (ρ2.set i (some (.mut .clean k (xs ++ [d])))) else .stuck
      | _ => .stuck) = .ret f ρ' := h
    split at h
    · next k xs hg =>
      obtain ⟨hl, h⟩ := ite_ret h
      cases h
      obtain ⟨w', g1, p', vs, y1, y2, y3, y4⟩ := a.rel.ok i _ hg
      rw [f1] at g1; cases g1
      cases y1
      obtain ⟨p2, xs2, v1, v2, v3, v4, fin⟩ := mut_ok (ys := vs ++ [v]) (es := xs ++ [d]) a hg f1 (dpAll_app y4 (.cons dd .nil))
      cases v1
      rw [y3] at v2; cases v2
      exact ⟨p, vs, v, rfl, rfl, y3, by rw [dpAll_len y4]; exact hl, q σ G3 _ fin⟩
    · cases h
  · cases h
theorem ss_app (hN : X.N[i]? = some x) (hv : Vis X.env.scope x) (hd : (x == ("__debug__" : Str)) = false) (hcd : (x == ("__classdict__" : Str)) = false) (he : SE X e (evE A)) (hs : NoStar e X)
    (hsw : swapsWith (.Call (.Attribute (.Name x p1) "append" p2) [e] [] p3) none pos.line X.env = pure false) (hbase : attributeBase (.Name x p1) "append" X.env (eval (.Name x p1) X.env) = eval (.Name x p1) X.env)
    (hfew : ((backTo p3 (starEach [e] X.env)).all (fun x => !x.1) && (backToKw p3 (keywordEach [] X.env)).all (fun x => x.1.isSome) && decide (([e] : List Expr).length + ([] : List Keyword).length + (if ([] : List Keyword).isEmpty then 0 else 1) < 30)) = true)
    (hline : (p2.endLine == p3.line) = true) : SS X (.Expr (.Call (.Attribute (.Name x p1) "append" p2) [e] [] p3) pos) (evS (.app i A)) := by
  obtain ⟨t, pe, sa⟩ := he
  exact ⟨_, ps_expr (pe_bm PySem.F.plainAttrs_list PySem.F.slot_list_append PySem.F.type_list_append mt_append (pe_var hN hv hd hcd) (pa_cons pe pa_nil (hs [])) hbase hfew hline (hs []) rfl) hsw, sem_app sa⟩
theorem sem_ext {t : TE} (sa : SemE X t (evE A)) : SemS X (tDrop (tBM X.K "list" rExtend (tVar i) (tCons t tNil))) (evS (.ext i A)) := by
  intro G ρ σ H D f ρ' Re h q
  unfold evS at h
  split at h
  · next k0 ds0 hg0 =>
    obtain ⟨w, f1, p0, xs0, z1, z2, z3, z4⟩ := Re.ok i _ hg0
    subst z1
    obtain ⟨rv, ρ1, e1, h⟩ := bind_ret h
    split at h
    · next ys =>
      split at h
      · next k xs hg1 =>
        obtain ⟨hl, h⟩ := ite_ret h
        cases h
        refine ⟨_, f1, .inl ⟨rfl, xs0, .inl (.inl z3)⟩, ?_⟩
        refine sem_val sa Re e1 fun G2 H1 w a no vo => ?_
        obtain ⟨b, ws, w1, w2, w3, w4, w5⟩ := vo
        subst w1
        obtain ⟨w', g1, p', vs, y1, y2, y3, y4⟩ := a.rel.ok i _ hg1
        rw [f1] at g1; cases g1
        cases y1
        obtain ⟨p2, xs2, v1, v2, v3, v4, fin⟩ := mut_ok (ys := vs ++ ws) (es := xs ++ ys) a hg1 f1 (dpAll_app y4 w5)
        cases v1
        rw [y3] at v2; cases v2
        exact ⟨p0, b, vs, ws, rfl, rfl, y3, w4, by rw [dpAll_len y4, dpAll_len w5]; exact hl, q σ G2 _ fin⟩
      · cases h
    · cases h
  · cases h
theorem ss_ext (hN : X.N[i]? = some x) (hv : Vis X.env.scope x) (hd : (x == ("__debug__" : Str)) = false) (hcd : (x == ("__classdict__" : Str)) = false) (he : SE X e (evE A)) (hs : NoStar e X)
    (hsw : swapsWith (.Call (.Attribute (.Name x p1) "extend" p2) [e] [] p3) none pos.line X.env = pure false) (hbase : attributeBase (.Name x p1) "extend" X.env (eval (.Name x p1) X.env) = eval (.Name x p1) X.env)
    (hfew : ((backTo p3 (starEach [e] X.env)).all (fun x => !x.1) && (backToKw p3 (keywordEach [] X.env)).all (fun x => x.1.isSome) && decide (([e] : List Expr).length + ([] : List Keyword).length + (if ([] : List Keyword).isEmpty then 0 else 1) < 30)) = true)
    (hline : (p2.endLine == p3.line) = true) : SS X (.Expr (.Call (.Attribute (.Name x p1) "extend" p2) [e] [] p3) pos) (evS (.ext i A)) := by
  obtain ⟨t, pe, sa⟩ := he
  exact ⟨_, ps_expr (pe_bm PySem.F.plainAttrs_list PySem.F.slot_list_extend PySem.F.type_list_extend mt_extend (pe_var hN hv hd hcd) (pa_cons pe pa_nil (hs [])) hbase hfew hline (hs []) rfl) hsw, sem_ext sa⟩
theorem sem_rev : SemS X (tDrop (tBM0 X.K "list" rReverse (tVar i))) (evS (.mt0 i .rev)) := by
  intro G ρ σ H D f ρ' Re h q
  unfold evS at h
  split at h
  · next k xs hg0 =>
    cases h
    obtain ⟨w, f1, p0, xs0, z1, z2, z3, z4⟩ := Re.ok i _ hg0
    subst z1
    refine ⟨_, f1, .inl ⟨rfl, xs0, .inl (.inl z3)⟩, ?_⟩
    obtain ⟨p2, xs2, v1, v2, v3, v4, fin⟩ := mut_ok (ys := xs0.reverse) (es := xs.reverse) (AftS.refl Re) hg0 f1 (dpAll_rev z4)
    cases v1
    exact ⟨p0, xs0, rfl, rfl, z3, q σ G _ fin⟩
  · cases h
theorem sem_clr : SemS X (tDrop (tBM0 X.K "list" rClear (tVar i))) (evS (.mt0 i .clr)) := by
  intro G ρ σ H D f ρ' Re h q
  unfold evS at h
  split at h
  · next k xs hg0 =>
    cases h
    obtain ⟨w, f1, p0, xs0, z1, z2, z3, z4⟩ := Re.ok i _ hg0
    subst z1
    refine ⟨_, f1, .inl ⟨rfl, xs0, .inl (.inl z3)⟩, ?_⟩
    obtain ⟨p2, xs2, v1, v2, v3, v4, fin⟩ := mut_ok (ys := []) (es := []) (AftS.refl Re) hg0 f1 .nil
    cases v1
    exact ⟨p0, xs0, rfl, rfl, z3, q σ G _ fin⟩
  · cases h
theorem ss_rev (hN : X.N[i]? = some x) (hv : Vis X.env.scope x) (hd : (x == ("__debug__" : Str)) = false) (hcd : (x == ("__classdict__" : Str)) = false)
    (hsw : swapsWith (.Call (.Attribute (.Name x p1) "reverse" p2) [] [] p3) none pos.line X.env = pure false) (hbase : attributeBase (.Name x p1) "reverse" X.env (eval (.Name x p1) X.env) = eval (.Name x p1) X.env)
    (hline : (p2.endLine == p3.line) = true) : SS X (.Expr (.Call (.Attribute (.Name x p1) "reverse" p2) [] [] p3) pos) (evS (.mt0 i .rev)) :=
  ⟨_, ps_expr (pe_bm0 PySem.F.plainAttrs_list PySem.F.slot_list_reverse PySem.F.type_list_reverse mt_reverse (pe_var hN hv hd hcd) hbase hline) hsw, sem_rev⟩
theorem ss_clr (hN : X.N[i]? = some x) (hv : Vis X.env.scope x) (hd : (x == ("__debug__" : Str)) = false) (hcd : (x == ("__classdict__" : Str)) = false)
    (hsw : swapsWith (.Call (.Attribute (.Name x p1) "clear" p2) [] [] p3) none pos.line X.env = pure false) (hbase : attributeBase (.Name x p1) "clear" X.env (eval (.Name x p1) X.env) = eval (.Name x p1) X.env)
    (hline : (p2.endLine == p3.line) = true) : SS X (.Expr (.Call (.Attribute (.Name x p1) "clear" p2) [] [] p3) pos) (evS (.mt0 i .clr)) :=
  ⟨_, ps_expr (pe_bm0 PySem.F.plainAttrs_list PySem.F.slot_list_clear PySem.F.type_list_clear mt_clear (pe_var hN hv hd hcd) hbase hline) hsw, sem_clr⟩
theorem ss_seti (hN : X.N[i]? = some x) (hv : Vis X.env.scope x) (hd : (x == ("__debug__" : Str)) = false) (hcd : (x == ("__classdict__" : Str)) = false) (he : SE X e (evE A)) (hi : SE X ie (evE I))
    (hsw : swapsWithSole [.Subscript (.Name x p1) ie tpos] e pos.line X.env = pure false) (hw : swappedStores [.Subscript (.Name x p1) ie tpos] e X.env = pure none) (h1 : (assignEach [.Subscript (.Name x p1) ie tpos] X.env).map (·.2) = [assign (.Subscript (.Name x p1) ie tpos) X.env])
    (ha : ∀ v, assign (.Subscript (.Name x p1) ie tpos) X.env v = (do
      let ov ← holding [v] (eval (.Name x p1) X.env)
      let iv ← holding [v, ov] (eval ie X.env)
      standAt tpos
      holding [v, ov, iv] (setItem ov iv v)
      release [v, ov, iv] [])) : SS X (.Assign [.Subscript (.Name x p1) ie tpos] e pos) (evS (.seti i I A)) := by
  obtain ⟨t, pe, sa⟩ := he
  obtain ⟨ti, pi, si⟩ := hi
  refine ⟨_, ps_asg pe (pg_sub (pe_var hN hv hd hcd) pi set_list ha) hsw hw h1, fun {G ρ σ H D f ρ'} Re h q => ?_⟩
  unfold evS at h
  split at h
  · next k0 ds0 hg0 =>
    obtain ⟨z, fz, p0, xs0, z1, z2, z3, z4⟩ := Re.ok i _ hg0
    obtain ⟨y, ρ0, e1, h⟩ := bind_ret h
    obtain ⟨⟨d, ρ1⟩, e2, h⟩ := lift_ret h
    obtain ⟨j, ρ2, e3, h⟩ := bind_ret h
    split at h
    · next n hj =>
      obtain ⟨ρ3, e4, h⟩ := lift_ret h
      have h : (match getS ρ3 i with
        | some (.mut .clean k xs) => lift (ixN xs.length n) fun n => Out.ret Fl.next (ρ3.set i (some (.mut .clean k (xs.set n d))))
        | _ => .stuck) = .ret f ρ' := h
      split at h
      · next k xs hg =>
        obtain ⟨n', e5, h⟩ := lift_ret h
        cases h
        refine sa Re e1 fun G1 H1 v af o => ?_
        obtain ⟨G2, bf, dd, _⟩ := hard_ok Re af o e2
        refine ⟨z, fz, ?_⟩
        refine si bf.rel e3 fun G3 H3 w cf oj => ?_
        have tot := bf.trans cf
        obtain ⟨G4, a, _, _, vo⟩ := settle_ok (tot.pre Re) e4
        have dd4 : Dp X.K G4 v d := vo (.frz d) v H (fun z => z) (dp_sub cf.stp.g dd)
        obtain ⟨w', g1, p', vs, y1, y2, y3, y4⟩ := a.rel.ok i _ hg
        obtain ⟨p2, xs2, v1, v2, v3, v4, fin⟩ := mut_ok (ys := vs.set n' v) (es := xs.set n' d) a hg g1 (dpAll_set dd4 n' y4)
        rw [fz] at g1; cases g1
        rw [y1] at v1; cases v1
        exact ⟨p', vs, n, n', y1, rv_int (rd_ok cf.rel oj hj), y3, by rw [dpAll_len y4]; exact e5, q σ G4 _ fin⟩
      · cases h
    · cases h
  · cases h
/-! ### name op= e -/
def OpA (X : Cx) (op : Operator) (o : Bop) : Prop := ∃ r : R2, OpR X (inplaceOp op) r ∧ (∀ i j k H Q, bopI o i j = some k → Q (.int k) H → r (.int i) (.int j) H Q) ∧ (o = .add → ∀ x y H Q, rExt2 x y H Q → r x y H Q)
theorem opA_add : OpA X .Add .add := ⟨_, OpR.or iop_add iop_ext, fun i j k H Q e q => .inl ⟨i, j, rfl, rfl, by cases e; exact q⟩, fun _ x y H Q h => .inr h⟩
theorem opA_sub : OpA X .Sub .sub := ⟨_, iop_sub, fun i j k H Q e q => ⟨i, j, rfl, rfl, by cases e; exact q⟩, fun z => nomatch z⟩
theorem opA_mul : OpA X .Mult .mul := ⟨_, iop_mul, fun i j k H Q e q => (by
  simp only [bopI] at e
  split at e
  · cases e; exact ⟨i, j, rfl, rfl, by assumption, q⟩
  · cases e), fun z => nomatch z⟩
theorem opA_fdiv : OpA X .FloorDiv .fdiv := ⟨_, iop_fdivW, fun i j k H Q e q => (by
  simp only [bopI] at e
  split at e
  · next c => cases e; exact ⟨i, j, rfl, rfl, wide_div c.1 c.2 (by decide) (by decide), q⟩
  · cases e), fun z => nomatch z⟩
theorem opA_mod : OpA X .Mod .mod := ⟨_, iop_mod, fun i j k H Q e q => (by
  simp only [bopI] at e
  split at e
  · cases e; exact ⟨i, j, rfl, rfl, by assumption, q⟩
  · cases e), fun z => nomatch z⟩
theorem set_self {σ : L2.St} {i : Nat} {x : Option V} (h : σ[i]? = some x) : σ.set i x = σ := by
  apply List.ext_getElem?
  intro j
  by_cases e : i = j
  · subst e
    rw [List.getElem?_set_self (List.getElem?_eq_some_iff.mp h).1, h]
  · rw [List.getElem?_set_ne e]
theorem ss_aug {op : Operator} {o : Bop} (hN : X.N.Nodup) (hi : X.N[i]? = some x) (hx : Loc X.env.scope x) (hf : X.fn x = true ∨ X.env.scope.names.lookup x = some .local) (ho : OpA X op o) (he : SE X e (evE A)) : SS X (.AugAssign (.Name x p1) op e pos) (evS (.aug i o A)) := by
  obtain ⟨t, pe, sa⟩ := he
  obtain ⟨r, rr, r1, r2⟩ := ho
  refine ⟨_, ps_aug hN hi hx pe rr hf, fun {G ρ σ H D f ρ'} Re h q => ?_⟩
  unfold evS at h
  split at h
  · next xi hg =>
    obtain ⟨v, f1, f2⟩ := Re.ok i _ hg
    obtain ⟨y, ρ1, e1, h⟩ := bind_ret h
    split at h
    · next yi hy =>
      obtain ⟨z, e2, h⟩ := lift_ret h
      obtain ⟨ρ2, e3, h⟩ := lift_ret h
      obtain ⟨ρ3, e4, h⟩ := lift_ret h
      cases h
      cases f2
      refine ⟨_, f1, sa Re e1 fun G1 H1 w af o => ?_⟩
      rw [rv_int (rd_ok af.rel o hy)]
      refine r1 _ _ _ _ _ e2 ?_
      obtain ⟨G2, a, _⟩ := settle_ok (af.pre Re) e3
      exact q _ G2 H1 (put_ok a (s := .frz (.int z)) (.int z) (fun _ _ _ _ z => (nomatch z)) e4)
    · cases h
  · next k0 ds0 hg =>
    obtain ⟨v, f1, p0, xs0, z1, z2, z3, z4⟩ := Re.ok i _ hg
    subst z1
    split at h
    · obtain ⟨rv, ρ1, e1, h⟩ := bind_ret h
      split at h
      · next ys =>
        split at h
        · next k xs hg1 =>
          obtain ⟨hl, h⟩ := ite_ret h
          cases h
          refine ⟨_, f1, sem_val sa Re e1 fun G2 H1 w a no vo => ?_⟩
          obtain ⟨b, ws, w1, w2, w3, w4, w5⟩ := vo
          subst w1
          obtain ⟨w', g1, p', vs, y1, y2, y3, y4⟩ := a.rel.ok i _ hg1
          rw [f1] at g1; cases g1
          cases y1
          obtain ⟨p2, xs2, v1, v2, v3, v4, fin⟩ := mut_ok (ys := vs ++ ws) (es := xs ++ ys) a hg1 f1 (dpAll_app y4 w5)
          cases v1
          refine r2 rfl _ _ _ _ ⟨p0, b, vs, ws, rfl, rfl, y3, w4, by rw [dpAll_len y4, dpAll_len w5]; exact hl, ?_⟩
          show D.nx (σ.set i (some (V.ref p0))) _
          rw [set_self f1]
          exact q σ G2 _ fin
        · cases h
      · cases h
    · cases h
  · cases h
/-! ### a, b = x, y -/
theorem put_own {K : PySem.W.Frag} {ρ ρ1 : Sto} {σ : L2.St} {i : Nat} {s : Sl} {v : V} {q : Addr} (e : putS ρ i s = some ρ1) (h : Own ρ1 (σ.set i (some v)) q) : Own ρ σ q ∨ ∃ m k ds, s = .mut m k ds ∧ (i < σ.length → v = .ref q) := by
  unfold putS at e
  split at e
  · next hc =>
    cases e
    obtain ⟨j, hj, ej⟩ := h
    by_cases z : i = j
    · subst z
      obtain ⟨m, k, ds, e0⟩ := mkk_some hj
      rw [getS_set, if_pos ⟨rfl, hc.1⟩] at e0
      cases e0
      refine .inr ⟨m, k, ds, rfl, fun hl => ?_⟩
      rw [List.getElem?_set_self hl] at ej
      simpa using ej
    · refine .inl ⟨j, ?_, by rw [List.getElem?_set_ne z] at ej; exact ej⟩
      unfold mkk at hj ⊢
      rw [getS_set, if_neg fun y => z y.1] at hj
      exact hj
  · cases e
def setAll (σ : L2.St) : List Nat → List V → L2.St
  | i :: is, v :: vs => (setAll σ is vs).set i (some v)
  | _, _ => σ
theorem setAll_len {σ : L2.St} : ∀ (is : List Nat) (vs : List V), (setAll σ is vs).length = σ.length
  | [], _ => rfl
  | _ :: _, [] => rfl
  | i :: is, v :: vs => by simp [setAll, setAll_len is vs]
theorem putAll_ok {G G1 H H1 : Hp} {ρ ρ1 : Sto} {σ : L2.St} (a : AftS X.K σ ρ G H σ ρ1 G1 H1) (no : ∀ p, H p = none → ¬ Own ρ1 σ p) : ∀ {is : List Nat} {rs : List R} {vs : List V} {ρ2 : Sto}, OpdsOk X.K G1 H1 H ρ1 σ (rs.map .val) vs → putAll is rs ρ1 = some ρ2 →
    AftS X.K σ ρ G H (setAll σ is vs) ρ2 G1 H1 ∧ ∀ q, Own ρ2 (setAll σ is vs) q → Own ρ1 σ q ∨ V.ref q ∈ tmps (rs.map .val) vs
  | [], [], _, _, .nil, e => by cases e; exact ⟨a, fun q h => .inl h⟩
  | i :: is, r :: rs, v :: vs, ρ2, .cons o n t, e => by
    unfold putAll at e
    obtain ⟨ρ3, e1, e2⟩ := Option.bind_eq_some_iff.mp e
    obtain ⟨b, ow⟩ := putAll_ok a no t e1
    have o : ValOk X.K G1 H1 H r v := o
    have nn : ∀ m k ds p, slOf r = .mut m k ds → k = false ∧ (v = .ref p → H p = none ∧ ¬ Own ρ3 (setAll σ is vs) p) := fun m k ds p es => by
      refine ⟨(slOf_mut (p := p) o es).1, fun ev => ⟨(slOf_mut o es).2 ev, fun w => ?_⟩⟩
      rcases ow p w with w | w
      · exact no p ((slOf_mut o es).2 ev) w
      · cases r with
        | frz d => cases es
        | lst l => exact n l rfl (by rw [ev]; exact w)
    refine ⟨put_ok b (slOf_ok o) nn e2, fun q w => ?_⟩
    rcases put_own (K := X.K) e2 w with w | ⟨m, k, ds, es, ev⟩
    · rcases ow q w with w | w
      · exact .inl w
      · refine .inr ?_
        cases r with
        | frz d => exact w
        | lst l => exact List.mem_cons_of_mem _ w
    · have hl : i < (setAll σ is vs).length := by
        unfold putS at e2
        split at e2
        · next hc => rw [← b.rel.len]; exact hc.1
        · cases e2
      have ev := ev hl
      refine .inr ?_
      cases r with
      | frz d => cases es
      | lst l => rw [ev]; exact List.mem_cons_self
  | [], _ :: _, _, _, _, e => by cases e
  | _ :: _, [], _, _, _, e => by cases e
theorem parV_ok {G G0 H H1 : Hp} {ρ : Sto} {σ : L2.St} : ∀ {xs : List Opd} {vs : List V} {rs : List R} {ρ1 ρ2 : Sto} {G1 : Hp}, Rel X.K G0 G ρ σ H → Aft X.K G0 σ ρ G H ρ1 G1 H1 → OpdsOk X.K G1 H1 H ρ1 σ xs vs → parV ρ1 xs = some (rs, ρ2) →
    ∃ G2, Aft X.K G0 σ ρ G H ρ2 G2 H1 ∧ OpdsOk X.K G2 H1 H ρ2 σ (rs.map .val) vs ∧ Sub G1 G2 ∧ (∀ q, G1 q = none → G2 q ≠ none → Own ρ σ q) ∧ ∀ v, v ∈ tmps (rs.map .val) vs → v ∈ tmps xs vs
  | [], _, _, _, _, G1, R, a, .nil, e => by cases e; exact ⟨G1, a, .nil, Sub.refl _, fun q e f => absurd e f, fun _ h => h⟩
  | .val r :: xs, v :: vs, rs, ρ1, ρ2, G1, R, a, .cons h n t, e => by
    unfold parV at e
    obtain ⟨⟨rs', ρ3⟩, e1, e2⟩ := Option.map_eq_some_iff.mp e
    cases e2
    obtain ⟨G2, b, os, s, nw, tm⟩ := parV_ok R a t e1
    refine ⟨G2, b, .cons ?_ (fun ds er hv => n ds (by rw [← er]) (tm v hv)) os, s, nw, fun w hw => ?_⟩
    · cases r with
      | frz d => exact dp_sub s h
      | lst ds =>
        obtain ⟨p, ws, ew, h0, h1, h2, h3⟩ := h
        refine ⟨p, ws, ew, h0, ?_, h2, dpAll_sub s h3⟩
        cases z : G2 p with
        | none => rfl
        | some o => exact absurd (nw p h1 (by rw [z]; exact fun y => nomatch y)) (R.notOwn h0)
    · cases r with
      | frz d => exact tm w hw
      | lst ds =>
        rcases List.mem_cons.mp hw with z | z
        · rw [z]; exact List.mem_cons_self
        · exact List.mem_cons_of_mem _ (tm w z)
  | .slot i :: xs, v :: vs, rs, ρ1, ρ2, G1, R, a, .cons h n t, e => by
    unfold parV at e
    obtain ⟨⟨d, ρ3⟩, e1, e2⟩ := Option.bind_eq_some_iff.mp e
    obtain ⟨⟨rs', ρ4⟩, e3, e4⟩ := Option.map_eq_some_iff.mp e2
    cases e4
    obtain ⟨G3, b, c, s⟩ := hard_ok R a h e1
    obtain ⟨G4, b', os, s', nw, tm⟩ := parV_ok R b (OpdsOk.hard R a h b s t n) e3
    refine ⟨G4, b', .cons (dp_sub s' c) (fun ds er => by cases er) os, s.g.trans s', fun q hq hq' => ?_, fun w hw => tm w hw⟩
    cases z : G3 q with
    | none => exact nw q z hq'
    | some o =>
      rcases s.fresh q o hq z with y | y
      · have w := b.rel.s1 q o z
        rw [y] at w; cases w
      · exact a.pat.own.mp ⟨i, h.1, by rw [h.2, y.1]⟩
theorem putAll_len : ∀ {is : List Nat} {rs : List R} {ρ1 ρ2 : Sto}, putAll is rs ρ1 = some ρ2 → is.length = rs.length
  | [], [], _, _, _ => rfl
  | i :: is, r :: rs, _, _, e => by
    unfold putAll at e
    obtain ⟨ρ3, e1, e2⟩ := Option.bind_eq_some_iff.mp e
    simp [putAll_len e1]
  | [], _ :: _, _, _, e => by cases e
  | _ :: _, [], _, _, e => by cases e
theorem sem_par {is : List Nat} {ta : TA} {As : List E} (sa : SemA X ta (evEs As)) {G H : Hp} {ρ ρ' : Sto} {σ : L2.St} {D : Ends} {f : Fl} {C : List V → Hp → Prop} (Re : Rel X.K G G ρ σ H) (h : evS (.par is As) ρ = .ret f ρ')
    (q : ∀ σ' G' H', AftS X.K σ ρ G H σ' ρ' G' H' → FinF X.K D σ ρ H σ' G' H' f) (hC : ∀ vs H1, vs.length = is.length → D.nx (setAll σ is vs) H1 → C vs H1) : ta σ H C := by
  unfold evS at h
  obtain ⟨xs, ρ0, e1, h⟩ := bind_ret h
  obtain ⟨⟨rs, ρ1⟩, e2, h⟩ := lift_ret h
  obtain ⟨ρ2, e3, h⟩ := lift_ret h
  obtain ⟨ρ3, e4, h⟩ := lift_ret h
  cases h
  refine sa Re e1 fun G1 H1 vs af os => ?_
  obtain ⟨G2, bf, rs', _, _, _⟩ := parV_ok Re af os e2
  obtain ⟨G3, a, ow, _, vo⟩ := settle_ok (bf.pre Re) e3
  have no : ∀ p, H p = none → ¬ Own ρ2 σ p := fun p hp ⟨i, hi, si⟩ => Re.notOwn hp ⟨i, ow i hi, si⟩
  have rs3 : OpdsOk X.K G3 H1 H ρ2 σ (rs.map .val) vs := by
    have key : ∀ (rs : List R) (vs : List V), (rs.all isScalR = true ∨ rs.all isScalR = false ∧ ∀ r v, ValOk X.K G2 H1 H r v → ValOk X.K G3 H1 H r v) → OpdsOk X.K G2 H1 H ρ1 σ (rs.map .val) vs → OpdsOk X.K G3 H1 H ρ2 σ (rs.map .val) vs := by
      intro rs
      induction rs with
      | nil => intro vs _ o; cases o; exact .nil
      | cons r rs ih =>
        intro vs hh o
        cases o with
        | cons o1 n t =>
          refine .cons ?_ n (ih _ ?_ t)
          · rcases hh with hh | ⟨_, hh⟩
            · simp only [List.all_cons, Bool.and_eq_true] at hh
              cases r with
              | frz d => exact dp_scal o1 hh.1
              | lst l => exact nomatch hh.1
            · exact hh r _ o1
          · rcases hh with hh | ⟨_, hh⟩
            · simp only [List.all_cons, Bool.and_eq_true] at hh
              exact .inl hh.2
            · cases z : rs.all isScalR with
              | true => exact .inl rfl
              | false => exact .inr ⟨rfl, hh⟩
    refine key rs vs ?_ rs'
    cases z : rs.all isScalR with
    | true => exact .inl rfl
    | false => exact .inr ⟨rfl, fun r v => vo r v H (fun y => by rw [z] at y; cases y)⟩
  obtain ⟨b, _⟩ := putAll_ok a no rs3 e4
  exact hC vs H1 (by rw [rs3.len, List.length_map, putAll_len e4]) (q _ G3 H1 b)
theorem ss_par2 {j : Nat} {y : Str} {a b : Expr} {As : List E} {px py pt pt2 : Pos} {kt k2 : Nat} (hc : X.calm = true) (hN : X.N.Nodup) (hi : X.N[i]? = some x) (hj : X.N[j]? = some y) (hij : i ≠ j) (hx : X.env.scope.names.lookup x = some .local) (hy : X.env.scope.names.lookup y = some .local)
    (ha : SA X [a, b] (evEs As)) (hw : swappedStores [.Tuple [.Name x px, .Name y py] kt pt] (.Tuple [a, b] k2 pt2) X.env = pure (some [x, y])) (hs : swapsWithSole [.Tuple [.Name x px, .Name y py] kt pt] (.Tuple [a, b] k2 pt2) pos.line X.env = pure false) :
    SS X (.Assign [.Tuple [.Name x px, .Name y py] kt pt] (.Tuple [a, b] k2 pt2) pos) (evS (.par [i, j] As)) := by
  obtain ⟨ta, pa, sa⟩ := ha
  refine ⟨_, ps_par hc hN hi hj hij hx hy pa hw hs, fun {G ρ σ H D f ρ'} Re h q => ?_⟩
  refine sem_par sa Re h q fun vs H1 hl hn => ?_
  match vs, hl with
  | [v, w], _ =>
    refine ⟨v, w, rfl, ?_⟩
    rw [List.set_comm _ _ hij]
    exact hn
theorem ss_par3 {j l : Nat} {y z : Str} {a b c : Expr} {As : List E} {px py pz pt pt2 : Pos} {kt k2 : Nat} (hc : X.calm = true) (hN : X.N.Nodup) (hi : X.N[i]? = some x) (hj : X.N[j]? = some y) (hl : X.N[l]? = some z) (hij : i ≠ j) (hil : i ≠ l) (hjl : j ≠ l)
    (hx : X.env.scope.names.lookup x = some .local) (hy : X.env.scope.names.lookup y = some .local) (hz : X.env.scope.names.lookup z = some .local)
    (ha : SA X [a, b, c] (evEs As)) (hw : swappedStores [.Tuple [.Name x px, .Name y py, .Name z pz] kt pt] (.Tuple [a, b, c] k2 pt2) X.env = pure (some [x, y, z])) (hs : swapsWithSole [.Tuple [.Name x px, .Name y py, .Name z pz] kt pt] (.Tuple [a, b, c] k2 pt2) pos.line X.env = pure false) :
    SS X (.Assign [.Tuple [.Name x px, .Name y py, .Name z pz] kt pt] (.Tuple [a, b, c] k2 pt2) pos) (evS (.par [i, j, l] As)) := by
  obtain ⟨ta, pa, sa⟩ := ha
  refine ⟨_, ps_par3 hc hN hi hj hl hij hil hjl hx hy hz pa hw hs, fun {G ρ σ H D f ρ'} Re h q => ?_⟩
  refine sem_par sa Re h q fun vs H1 hlen hn => ?_
  match vs, hlen with
  | [v, w, u], _ =>
    refine ⟨v, w, u, rfl, ?_⟩
    rw [List.set_comm _ _ hij, List.set_comm _ _ hil, List.set_comm _ _ hjl]
    exact hn
end
end Rx
set_option Elab.async false
set_option linter.all false
set_option maxHeartbeats 1000000
/-! Rx18: comprehensions -/
namespace Rx
open PySem PySem.Spec L2
variable {X : Cx} {pos : Pos}
theorem wipeS_len {ρ : Sto} : ∀ {vs : List Nat}, (wipeS ρ vs).length = ρ.length
  | [] => rfl
  | v :: vs => by simp [wipeS, wipeS_len (vs := vs)]
theorem getS_none_of {ρ : Sto} {j : Nat} (h : ρ.length ≤ j) : getS ρ j = none := by
  unfold getS
  rw [List.getElem?_eq_none h]
  rfl
theorem getS_wipe {ρ : Sto} {j : Nat} : ∀ {vs : List Nat}, getS (wipeS ρ vs) j = if j ∈ vs then none else getS ρ j
  | [] => by simp [wipeS]
  | v :: vs => by
    unfold wipeS
    rw [getS_set, getS_wipe (vs := vs)]
    by_cases e : v = j
    · subst e
      by_cases l : v < (wipeS ρ vs).length
      · simp [l]
      · rw [if_neg fun z => l z.2]
        have : getS ρ v = none := getS_none_of (by rw [wipeS_len] at l; omega)
        simp [this]
    · rw [if_neg fun z => e z.1]
      by_cases h : j ∈ vs
      · simp [h]
      · rw [if_neg h, if_neg]
        intro z
        rcases List.mem_cons.mp z with z | z
        · exact e z.symm
        · exact h z
theorem backS_len {ρ0 ρ : Sto} : ∀ {vs : List Nat}, (backS ρ0 ρ vs).length = ρ.length
  | [] => rfl
  | v :: vs => by simp [backS, backS_len (vs := vs)]
theorem getS_back {ρ0 ρ : Sto} {j : Nat} (hl : ρ0.length = ρ.length) : ∀ {vs : List Nat}, getS (backS ρ0 ρ vs) j = if j ∈ vs then getS ρ0 j else getS ρ j
  | [] => by simp [backS]
  | v :: vs => by
    unfold backS
    rw [getS_set, getS_back hl (vs := vs)]
    by_cases e : v = j
    · subst e
      by_cases l : v < (backS ρ0 ρ vs).length
      · simp [l]
      · rw [if_neg fun z => l z.2]
        rw [backS_len] at l
        have h1 : getS ρ v = none := getS_none_of (by omega)
        have h2 : getS ρ0 v = none := getS_none_of (by omega)
        simp [h1, h2]
    · rw [if_neg fun z => e z.1]
      by_cases h : j ∈ vs
      · simp [h]
      · rw [if_neg h, if_neg]
        intro z
        rcases List.mem_cons.mp z with z | z
        · exact e z.symm
        · exact h z
theorem wipe_at {σ : L2.St} {j : Nat} : ∀ {vs : List Nat}, j ∉ vs → (wipe σ vs)[j]? = σ[j]?
  | [], _ => rfl
  | v :: vs, h => by
    unfold wipe
    rw [List.getElem?_set_ne (fun z => h (by rw [z]; exact List.mem_cons_self)), wipe_at fun z => h (List.mem_cons_of_mem _ z)]
theorem wipe_wipe {σ : L2.St} {vs : List Nat} : wipe (wipe σ vs) vs = wipe σ vs := by
  apply List.ext_getElem?
  intro j
  by_cases h : j ∈ vs
  · have key : ∀ (σ : L2.St) (us : List Nat), j ∈ us → (wipe σ us)[j]? = if j < σ.length then some none else none := by
      intro σ us
      induction us with
      | nil => intro h; cases h
      | cons u us ih =>
        intro hj
        unfold wipe
        by_cases e : u = j
        · subst e
          by_cases l : u < σ.length
          · rw [List.getElem?_set_self (by rw [wipe_length]; exact l), if_pos l]
          · rw [if_neg l, List.getElem?_eq_none (by rw [List.length_set, wipe_length]; omega)]
        · rw [List.getElem?_set_ne e]
          exact ih ((List.mem_cons.mp hj).resolve_left fun z => e z.symm)
    rw [key _ vs h, key _ vs h, wipe_length]
  · rw [wipe_at h]
theorem mkk_wipe {ρ : Sto} {vs : List Nat} {j : Nat} : mkk (wipeS ρ vs) j = if j ∈ vs then none else mkk ρ j := by
  unfold mkk
  rw [getS_wipe]
  by_cases h : j ∈ vs
  · simp [h]
  · simp [h]
section
variable {K : PySem.W.Frag} {G0 G G1 H H1 : Hp} {ρ ρ1 : Sto} {σ : L2.St} {vs : List Nat}
theorem wipe_rel (R : Rel K G0 G ρ σ H) : Rel K G0 G (wipeS ρ vs) (wipe σ vs) H := by
  have nj : ∀ j, (mkk (wipeS ρ vs) j).isSome = true → j ∉ vs ∧ (mkk ρ j).isSome = true := fun j h => by
    rw [mkk_wipe] at h
    by_cases z : j ∈ vs
    · rw [if_pos z] at h; cases h
    · rw [if_neg z] at h; exact ⟨z, h⟩
  refine ⟨R.s0, R.s1, by rw [wipeS_len, wipe_length]; exact R.len, fun j s e => ?_, fun i j p hi hj e1 e2 => ?_⟩
  · rw [getS_wipe] at e
    by_cases z : j ∈ vs
    · rw [if_pos z] at e; cases e
    · rw [if_neg z] at e; rw [wipe_at z]; exact R.ok j s e
  · obtain ⟨n1, m1⟩ := nj i hi
    obtain ⟨n2, m2⟩ := nj j hj
    rw [wipe_at n1] at e1
    rw [wipe_at n2] at e2
    exact R.apart i j p m1 m2 e1 e2
theorem wipe_own {p : Addr} (h : Own (wipeS ρ vs) (wipe σ vs) p) : ∃ j, j ∉ vs ∧ (mkk ρ j).isSome = true ∧ σ[j]? = some (some (.ref p)) := by
  obtain ⟨j, hj, ej⟩ := h
  rw [mkk_wipe] at hj
  by_cases z : j ∈ vs
  · rw [if_pos z] at hj; cases hj
  · rw [if_neg z] at hj; rw [wipe_at z] at ej; exact ⟨j, z, hj, ej⟩
/-- a write to what nobody owns and no data holds -/
theorem Rel.updD {D : Addr} {o : HO} (R : Rel K G0 G ρ σ H) (hG : G D = none) (hn : ¬ Own ρ σ D) : Rel K G0 G ρ σ (upd H D o) := by
  have st : Stp G H G (upd H D o) fun q => q = D := ⟨Sub.refl _, fun a u e f => (by rw [e] at f; cases f), fun a u e n => (by rw [upd_ne n]; exact e)⟩
  exact R.step st (R.s1.updR hG) fun p w z => hn (by rw [← z]; exact w)
theorem back_aft {G2 H2 : Hp} {ρ2 : Sto} (R : Rel K G0 G1 ρ1 σ H1) (a : Aft K G0 (wipe σ vs) (wipeS ρ1 vs) G1 H1 ρ2 G2 H2) : Aft K G0 σ ρ1 G1 H1 (backS ρ1 ρ2 vs) G2 H2 := by
  have hl : ρ1.length = ρ2.length := by rw [R.len, a.rel.len, wipe_length]
  have ow : ∀ p, Own (wipeS ρ1 vs) (wipe σ vs) p → Own ρ1 σ p := fun p w => let ⟨j, _, h1, h2⟩ := wipe_own w; ⟨j, h1, h2⟩
  have pat : Pat ρ1 (backS ρ1 ρ2 vs) := fun j => by
    unfold mkk
    rw [getS_back hl]
    by_cases z : j ∈ vs
    · rw [if_pos z]
    · rw [if_neg z]
      have := a.pat j
      rw [mkk_wipe, if_neg z] at this
      exact this
  refine ⟨⟨a.rel.s0, a.rel.s1, by rw [backS_len, a.rel.len, wipe_length], fun j s e => ?_, fun i j p hi hj e1 e2 => ?_⟩, a.stp.mono ow, pat⟩
  · rw [getS_back hl] at e
    by_cases z : j ∈ vs
    · rw [if_pos z] at e
      obtain ⟨v, h1, h2⟩ := R.ok j s e
      refine ⟨v, h1, h2.step a.stp fun p ev ⟨m, k, ds, es⟩ w => ?_⟩
      obtain ⟨l, n, h3, h4⟩ := wipe_own w
      subst es ev
      have := R.apart j l p (by rw [mkk_of e]; rfl) h3 h1 h4
      subst this
      exact n z
    · rw [if_neg z] at e
      obtain ⟨v, h1, h2⟩ := a.rel.ok j s e
      rw [wipe_at z] at h1
      exact ⟨v, h1, h2⟩
  · rw [pat i] at hi
    rw [pat j] at hj
    exact R.apart i j p hi hj e1 e2
end
mutual
theorem setTg_at {mk : D → Sl} : ∀ {T : Tg} {d : D} {ρ ρ' : Sto} {j : Nat}, setTg mk T d ρ = some ρ' → j ∉ tgS T → getS ρ' j = getS ρ j
  | .nm i, d, ρ, ρ', j, e, h => by
    unfold setTg putS at e
    split at e
    · cases e
      rw [getS_set, if_neg fun z => h (by rw [z.1]; unfold tgS; exact List.mem_cons_self)]
    · cases e
  | .tup ts, d, ρ, ρ', j, e, h => by
    cases d with
    | tuple ds => unfold setTg at e; unfold tgS at h; exact setTgs_at e h
    | _ => unfold setTg at e; cases e
theorem setTgs_at {mk : D → Sl} : ∀ {Ts : List Tg} {ds : List D} {ρ ρ' : Sto} {j : Nat}, setTgs mk Ts ds ρ = some ρ' → j ∉ tgsS Ts → getS ρ' j = getS ρ j
  | [], [], _, _, _, e, _ => by unfold setTgs at e; cases e; rfl
  | [], _ :: _, _, _, _, e, _ => by unfold setTgs at e; cases e
  | _ :: _, [], _, _, _, e, _ => by unfold setTgs at e; cases e
  | t :: ts, d :: ds, ρ, ρ', j, e, h => by
    unfold setTgs at e
    obtain ⟨ρ1, e1, e2⟩ := Option.bind_eq_some_iff.mp e
    unfold tgsS at h
    rw [setTgs_at e2 fun z => h (List.mem_append_right _ z), setTg_at e1 fun z => h (List.mem_append_left _ z)]
end
/-- tests of a comprehension -/
def SemTs (X : Cx) (t : TT) (m : Sto → Out Bool) : Prop := ∀ {G0 G : Hp} {ρ : Sto} {σ : L2.St} {H : Hp} {Q : Bool → Hp → Prop} {ρ' : Sto} {b : Bool}, Rel X.K G0 G ρ σ H → m ρ = .ret b ρ' →
  (∀ G' H', Aft X.K G0 σ ρ G H ρ' G' H' → Q b H') → t σ H Q
theorem sem_lc {wi : TI} {g : TG} {tt : TT} {te : TE} {own : List Nat} {A : E} {T : Tg} {I : It} {ifs : List E} (si : SemI X wi (evIt I)) (sg : SemG X g T) (st : SemTs X tt (evTs ifs)) (se : SemE X te (evE A)) (hT : ∀ i ∈ tgS T, i ∈ own) :
    SemE X (tLc wi g tt te own) (evE (.comp A T I ifs own)) := by
  intro G0 G ρ σ H Q x ρ' R h q
  unfold evE at h
  obtain ⟨ds, ρ1, e1, h⟩ := bind_ret h
  obtain ⟨accF, ρF, e2, h⟩ := bind_ret h
  cases h
  refine si R e1 fun G1 H1 J af io D hD => ?_
  have nD : ∀ p, Own (wipeS ρ1 own) (wipe σ own) p → p ≠ D := fun p w z => by
    obtain ⟨vs, e⟩ := (wipe_rel af.rel).tracked w
    rw [z, hD] at e; cases e
  have Rw := wipe_rel (vs := own) af.rel
  -- the state ahead of turn i
  let St : Nat → Hp → Prop := fun i H' => i ≤ ds.length ∧ ∃ ρ2 G2 acc ys, Aft X.K G0 (wipe σ own) (wipeS ρ1 own) G1 H1 ρ2 G2 H' ∧ (∀ j ∈ own, getS ρ2 j = none) ∧ Sub G1 G2 ∧ H' D = some (.lst ys) ∧ G2 D = none ∧ DpAll X.K G2 ys acc ∧
    compLoop (evE A) (evTs ifs) T own (ds.drop i) acc ρ2 = .ret accF ρF
  -- the end of a turn
  have fin : ∀ {i : Nat} {G2 G5 H' H4 : Hp} {ρ2 ρ' ρ5 : Sto} {σ' : L2.St} {Gc Hc : Hp} {acc : List Rx.D} {ys : List V} (o : HO), Aft X.K G0 (wipe σ own) (wipeS ρ1 own) G1 H1 ρ2 G2 H' → Sub G1 G2 → H' D = some (.lst ys) → G2 D = none → Stp G2 H' Gc Hc (fun _ => False) →
      Put X.K G0 Gc Hc (wipe σ own) ρ2 σ' ρ' → (∀ j, j ∉ own → getS ρ' j = getS ρ2 j) → wipe σ' own = wipe σ own → Aft X.K G0 σ' ρ' Gc Hc ρ5 G5 H4 →
      H4 D = some (.lst ys) ∧ G5 D = none ∧ Sub G1 G5 ∧ (∀ j ∈ own, getS (wipeS ρ5 own) j = none) ∧ Aft X.K G0 (wipe σ own) (wipeS ρ1 own) G1 H1 (wipeS ρ5 own) G5 (upd H4 D o) ∧ Aft X.K G0 (wipe σ own) (wipeS ρ1 own) G1 H1 (wipeS ρ5 own) G5 H4 := by
    intro i G2 G5 H' H4 ρ2 ρ' ρ5 σ' Gc Hc acc ys o a s1 hDl hDg stc put at' hw b
    have own' : ∀ p, Own ρ' σ' p → Own (wipeS ρ1 own) (wipe σ own) p := fun p w => a.pat.own.mp (put.own p w)
    have n' : ¬ Own ρ' σ' D := fun w => nD D (own' D w) rfl
    have c1 : Hc D = some (.lst ys) := stc.keep _ _ hDl fun z => z
    have c2 : Gc D = none := stc.gNone hDg hDl fun z => z
    have d1 : H4 D = some (.lst ys) := b.stp.keep _ _ c1 n'
    have d2 : G5 D = none := b.stp.gNone c2 c1 n'
    have rw5 := wipe_rel (vs := own) b.rel
    rw [hw] at rw5
    have stp : Stp G1 H1 G5 H4 (Own (wipeS ρ1 own) (wipe σ own)) := (a.stp.trans stc fun p z => z.elim).trans b.stp fun p w => .inl (own' p w)
    have pat : Pat (wipeS ρ1 own) (wipeS ρ5 own) := fun j => by
      rw [mkk_wipe, mkk_wipe]
      by_cases z : j ∈ own
      · rw [if_pos z, if_pos z]
      · rw [if_neg z, if_neg z]
        have e3 := a.pat j
        rw [mkk_wipe, if_neg z] at e3
        rw [b.pat j, ← e3]
        unfold mkk
        rw [at' j z]
    have n5 : ¬ Own (wipeS ρ5 own) (wipe σ own) D := fun w => nD D (pat.own.mp w) rfl
    refine ⟨d1, d2, (s1.trans stc.g).trans b.stp.g, fun j hj => by rw [getS_wipe, if_pos hj], ⟨rw5.updD d2 n5, ⟨stp.g, stp.fresh, fun p u e n => ?_⟩, pat⟩, ⟨rw5, stp, pat⟩⟩
    rw [upd_ne (ne_of_none e hD)]
    exact stp.keep p u e n
  refine ⟨fun i m H' => m = ds.length - i ∧ St i H', ⟨ds.length, rfl, Nat.zero_le _, wipeS ρ1 own, G1, [], [], ?_, fun j hj => by rw [getS_wipe, if_pos hj], Sub.refl _, upd_same, af.rel.s1.none hD, .nil, e2⟩, ?_⟩
  · obtain ⟨r, s⟩ := Rw.newObj (o := .lst []) hD
    exact ⟨r, s, fun _ => rfl⟩
  · rintro i m H' ⟨rfl, hi, ρ2, G2, acc, ys, a, hn, s1, hDl, hDg, da, hc⟩
    by_cases hlt : i < ds.length
    · refine .inr ⟨io.go i H' (s1.trans a.rel.s1) hlt, St (i + 1), fun H5 w => ⟨ds.length - (i + 1), by omega, rfl, w⟩, fun x Hc y => ?_⟩
      obtain ⟨d, Gc, hd, stc, sc, dx⟩ := io.yld i G2 H' x Hc hlt s1 a.rel.s1 y
      obtain ⟨hl, hd'⟩ := List.getElem?_eq_some_iff.mp hd
      rw [List.drop_eq_getElem_cons hlt, hd'] at hc
      unfold compLoop at hc
      obtain ⟨ρ3, e3, hc⟩ := lift_ret hc
      obtain ⟨b, ρ4, e4, hc⟩ := bind_ret hc
      have Rc := a.rel.step stc sc fun _ _ z => z
      refine sg true (G0 := G0) (G := Gc) Rc dx e3 fun σ' put wq => ?_
      have hw : wipe σ' own = wipe σ own := (wq own hT).trans wipe_wipe
      have at' : ∀ j, j ∉ own → getS ρ3 j = getS ρ2 j := fun j hj => setTg_at e3 fun z => hj (hT j z)
      refine ⟨hw, st put.rel e4 fun Gt Ht at4 => ?_⟩
      cases b with
      | false =>
        rw [if_neg Bool.false_ne_true] at hc ⊢
        obtain ⟨d1, d2, d3, d4, _, d6⟩ := fin (acc := acc) (i := i) (.lst []) a s1 hDl hDg stc put at' hw at4
        exact ⟨hlt, _, Gt, acc, ys, d6, d4, d3, d1, d2, dpAll_sub (stc.g.trans at4.stp.g) da, hc⟩
      | true =>
        rw [if_pos rfl] at hc ⊢
        obtain ⟨xo, ρ5, e5, hc⟩ := bind_ret hc
        obtain ⟨⟨yd, ρ6⟩, e6, hc⟩ := lift_ret hc
        obtain ⟨hz, hc⟩ := ite_ret hc
        refine se at4.rel e5 fun Ge He v ae oe => ?_
        obtain ⟨G6, ah, dv, _⟩ := hard_ok put.rel (at4.trans ae) (oe.wider put.rel at4) e6
        obtain ⟨d1, d2, d3, d4, d5, _⟩ := fin (acc := acc) (i := i) (.lst (ys ++ [v])) a s1 hDl hDg stc put at' hw ah
        exact ⟨ys, d1, by rw [dpAll_len da]; exact hz, hlt, _, G6, acc ++ [yd], ys ++ [v], d5, d4, d3, upd_same, d2, dpAll_app (dpAll_sub (stc.g.trans ah.stp.g) da) (.cons dv .nil), hc⟩
    · have ei : i = ds.length := by omega
      refine .inl ⟨io.stop i H' (s1.trans a.rel.s1) ei, ?_⟩
      subst ei
      rw [List.drop_length] at hc
      unfold compLoop at hc
      cases hc
      have bk := back_aft af.rel a
      have tot := af.trans bk
      exact q G2 H' (.ref D) tot ⟨D, ys, rfl, af.back R hD, hDg, hDl, da⟩
end Rx
set_option Elab.async false
set_option linter.all false
set_option maxHeartbeats 1000000
/-! Rx19: comprehensions as expressions; a def by its meaning -/
namespace Rx
open PySem PySem.Spec PyProof.Rows L2
variable {X : Cx} {pos : Pos}
/-! ### comprehensions -/
def STs (X : Cx) (ifs : List Expr) (m : Sto → Out Bool) : Prop := ∃ t : TT, PTs X ifs t ∧ SemTs X t m
theorem sts_nil : STs X [] (evTs []) := ⟨_, pts_nil, fun {G0 G ρ σ H Q ρ' b} R h q => by unfold evTs at h; cases h; exact q G H (Aft.refl R)⟩
theorem sts_one {c : Expr} {C : E} (hc : ST X c (evE C)) : STs X [c] (evTs [C]) := by
  obtain ⟨t, p, s⟩ := hc
  refine ⟨_, pts_one p, fun {G0 G ρ σ H Q ρ' b} R h q => ?_⟩
  unfold evTs at h
  obtain ⟨x, ρ1, e1, h⟩ := bind_ret h
  obtain ⟨b', e2, h⟩ := lift_ret h
  refine s R e1 e2 fun G1 H1 a => ?_
  cases b' with
  | true =>
    rw [if_pos rfl] at h
    unfold evTs at h
    cases h
    exact q G1 H1 a
  | false =>
    rw [if_neg Bool.false_ne_true] at h
    cases h
    exact q G1 H1 a
abbrev blkX (X : Cx) (scope : Scope) (s : Shared) (H : Hp) (C : Addr) (cl : List (Str × Addr)) (fp : List Addr) : Cx := X.blk s H scope (compEnvC scope cl C X.env) fp
section
variable {elt tg iter : Expr} {ifs : List Expr} {scope : Scope} {own : List (Str × Nat)} {A : E} {T : Tg} {I : It} {cs : List E}
theorem lc_parts (hg : ∀ s H C cl fp, SG (blkX X scope s H C cl fp) tg T) (ht : ∀ s H C cl fp, STs (blkX X scope s H C cl fp) ifs (evTs cs)) (he : ∀ s H C cl fp, SE (blkX X scope s H C cl fp) elt (evE A)) :
    ∃ (g : TG) (tt : TT) (te : TE), (∀ s H C cl fp, PG (blkX X scope s H C cl fp) tg g) ∧ (∀ s H C cl fp, PTs (blkX X scope s H C cl fp) ifs tt) ∧ (∀ s H C cl fp, PE (blkX X scope s H C cl fp) elt te) ∧ SemG X g T ∧ SemTs X tt (evTs cs) ∧ SemE X te (evE A) := by
  refine ⟨fun v σ H Q => ∀ s H' C cl fp, (hg s H' C cl fp).choose v σ H Q, fun σ H Q => ∀ s H' C cl fp, (ht s H' C cl fp).choose σ H Q, fun σ H Q => ∀ s H' C cl fp, (he s H' C cl fp).choose σ H Q, fun s H C cl fp => ⟨fun pins s2 σ H2 v u Q I r h => ?_⟩, fun s H C cl fp => ⟨fun pins s2 σ H2 Q I h => ?_⟩, fun s H C cl fp => ⟨fun pins s2 σ H2 Q I h => ?_⟩,
    fun tmp {G0 G ρ ρ' σ H Q v d} R r e q s H' C cl fp => ?_, fun {G0 G ρ σ H Q ρ' b} R e q s H' C cl fp => ?_, fun {G0 G ρ σ H Q x ρ'} R e q s H' C cl fp => ?_⟩
  · exact (hg s H C cl fp).choose_spec.1.run pins s2 σ H2 v u Q I r (h s H C cl fp)
  · exact (ht s H C cl fp).choose_spec.1.run pins s2 σ H2 Q I (h s H C cl fp)
  · exact (he s H C cl fp).choose_spec.1.run pins s2 σ H2 Q I (h s H C cl fp)
  · exact (hg s H' C cl fp).choose_spec.2 tmp R r e q
  · exact (ht s H' C cl fp).choose_spec.2 R e q
  · exact (he s H' C cl fp).choose_spec.2 R e q
theorem se_lc (hc : X.calm = true) (hN : X.N.Nodup) (hi : SI X tg iter (evIt I)) (ok : BlkOk X.N X.env.scope scope own) (hg : ∀ s H C cl fp, SG (blkX X scope s H C cl fp) tg T) (ht : ∀ s H C cl fp, STs (blkX X scope s H C cl fp) ifs (evTs cs))
    (he : ∀ s H C cl fp, SE (blkX X scope s H C cl fp) elt (evE A)) (hs : ∀ x, foldedSetIterable iter X.env x = pure x) (hT : ∀ i ∈ tgS T, i ∈ own.map (·.2)) : SE X (.ListComp elt [⟨tg, iter, ifs, 0⟩] scope pos) (evE (.comp A T I cs (own.map (·.2)))) := by
  obtain ⟨wi, pi, si⟩ := hi
  obtain ⟨g, tt, te, h1, h2, h3, h4, h5, h6⟩ := lc_parts hg ht he
  exact ⟨_, pe_lc hc hN pi ok h1 h2 h3 hs, sem_lc si h4 h5 h6 hT⟩
theorem ss_setLc {i : Nat} {y : Str} {py spos : Pos} (hc : X.calm = true) (hN : X.N.Nodup) (hy : X.N[i]? = some y) (hyl : X.env.scope.names.lookup y = some .local) (hsw : swapsWith (.ListComp elt [⟨tg, iter, ifs, 0⟩] scope pos) (some (.Name y py)) spos.line X.env = pure true)
    (hi : SI X tg iter (evIt I)) (ok : BlkOk X.N X.env.scope scope own) (hg : ∀ s H C cl fp, SG (blkX X scope s H C cl fp) tg T) (ht : ∀ s H C cl fp, STs (blkX X scope s H C cl fp) ifs (evTs cs))
    (he : ∀ s H C cl fp, SE (blkX X scope s H C cl fp) elt (evE A)) (hs : ∀ x, foldedSetIterable iter X.env x = pure x) (hT : ∀ i ∈ tgS T, i ∈ own.map (·.2)) : SS X (.Assign [.Name y py] (.ListComp elt [⟨tg, iter, ifs, 0⟩] scope pos) spos) (evS (.setv i (.comp A T I cs (own.map (·.2))))) := by
  obtain ⟨wi, pi, si⟩ := hi
  obtain ⟨g, tt, te, h1, h2, h3, h4, h5, h6⟩ := lc_parts hg ht he
  exact ⟨_, ps_setLc hc hN hy hyl hsw pi ok h1 h2 h3 hs, sem_set (sem_lc si h4 h5 h6 hT)⟩
end
/-! ### a def -/
section
variable {K : PySem.W.Frag} {G H : Hp} {ρ : Sto} {σ : L2.St}
theorem getS_pad {n j : Nat} : getS (ρ ++ List.replicate n none) j = getS ρ j := by
  unfold getS
  by_cases h : j < ρ.length
  · rw [List.getElem?_append_left h]
  · rw [List.getElem?_append_right (by omega), List.getElem?_eq_none (l := ρ) (by omega), List.getElem?_replicate]
    split <;> rfl
theorem mkk_pad {n j : Nat} : mkk (ρ ++ List.replicate n none) j = mkk ρ j := by
  unfold mkk
  rw [getS_pad]
theorem lt_of_mkk {j : Nat} (h : (mkk ρ j).isSome = true) : j < ρ.length := by
  obtain ⟨m, k, ds, e⟩ := mkk_some h
  exact getS_lt e
theorem rel_pad {n : Nat} (R : Rel K G G ρ σ H) : Rel K G G (ρ ++ List.replicate n none) (σ ++ List.replicate n none) H := by
  have at' : ∀ j, j < σ.length → (σ ++ List.replicate n none)[j]? = σ[j]? := fun j h => List.getElem?_append_left h
  refine ⟨R.s0, R.s1, by simp [R.len], fun j s e => ?_, fun i j p hi hj e1 e2 => ?_⟩
  · rw [getS_pad] at e
    rw [at' j (by rw [← R.len]; exact getS_lt e)]
    exact R.ok j s e
  · rw [mkk_pad] at hi hj
    rw [at' _ (by rw [← R.len]; exact lt_of_mkk hi)] at e1
    rw [at' _ (by rw [← R.len]; exact lt_of_mkk hj)] at e2
    exact R.apart i j p hi hj e1 e2
theorem getS_out {ρ1 : Sto} {n j : Nat} : getS ((ρ1.take n).map keepOut) j = if j < n then keepOut (getS ρ1 j) else none := by
  rw [getS_map rfl]
  unfold getS
  rw [List.getElem?_take]
  by_cases h : j < n
  · simp [h]
  · simp [h]
    rfl
theorem mkk_out {ρ1 : Sto} {n j : Nat} : mkk ((ρ1.take n).map keepOut) j = if j < n ∧ mkk ρ1 j = some true then some true else none := by
  unfold mkk
  rw [getS_out]
  by_cases h : j < n
  · rw [if_pos h]
    cases e : getS ρ1 j with
    | none => simp [keepOut]
    | some s =>
      cases s with
      | «mut» m k ds =>
        cases k <;> simp [keepOut, h]
      | _ => simp [keepOut]
  · rw [if_neg h]
    simp [h]
/-- a def's promise from its body's meaning -/
theorem sem_def {n : Nat} {bs : List S} {t : TS} {fi : Fi} (st : SemS X t (evSs bs)) (hs : ∀ ρa, fi.sf ρa = evDef n bs ρa) {vs : List V} {H : Hp} {Q : VK} {N : List Str} (hn : N.length = n) (sp : SpecOf X.K fi vs H Q) :
    t { nx := fun _ H' => Q .non H', rt := Q } (L2.start N vs) H := by
  obtain ⟨hl, G, ρa, r, ρo, R, nf, e, q⟩ := sp
  rw [hs] at e
  unfold evDef at e
  obtain ⟨f, ρ1, e1, e⟩ := bind_ret e
  have len : ρa.length = vs.length := by rw [R.len, List.length_map]
  have Rp := rel_pad (n := n - ρa.length) R
  have es : vs.map some ++ List.replicate (n - ρa.length) none = L2.start N vs := by unfold L2.start; rw [hn, len]
  rw [es] at Rp
  have at' : ∀ j, j < vs.length → (L2.start N vs)[j]? = (vs.map some)[j]? := fun j h => by
    rw [← es, List.getElem?_append_left (by simpa using h)]
  -- what is left behind
  have out : ∀ σ' G' H', AftS X.K (L2.start N vs) (ρa ++ List.replicate (n - ρa.length) none) G H σ' ρ1 G' H' → ∀ v, ValOk X.K G' H' H r v → ρo = (ρ1.take ρa.length).map keepOut → Q v H' := by
    intro σ' G' H' a v hv eo
    subst eo
    have mo : ∀ j, mkk ((ρ1.take ρa.length).map keepOut) j = mkk ρa j := fun j => by
      rw [mkk_out]
      have k := a.kp j
      rw [mkk_pad] at k
      by_cases h : mkk ρa j = some true
      · rw [if_pos ⟨lt_of_mkk (by rw [h]; rfl), k.mpr h⟩, h]
      · rw [if_neg fun z => h (k.mp z.2)]
        cases c : mkk ρa j with
        | none => rfl
        | some b =>
          cases b with
          | true => exact absurd c h
          | false => exact absurd c (nf j)
    have sl : ∀ j, (mkk ρa j).isSome = true → σ'[j]? = (vs.map some)[j]? := fun j h => by
      have hj := lt_of_mkk h
      have h2 : mkk ρa j = some true := by
        cases c : mkk ρa j with
        | none => rw [c] at h; cases h
        | some b => cases b with
          | true => rfl
          | false => exact absurd c (nf j)
      rw [a.sl j (by rw [mkk_pad]; exact h2), at' j (by rw [← len]; exact hj)]
    refine q v G' H' ⟨Sub.refl _, a.rel.s1, by (have h1 := Rp.len; have h2 := a.rel.len.trans a.ln; simp only [List.length_append, List.length_map, List.length_take] at h1 h2 ⊢; omega), fun j s ej => ?_, fun i j p hi hj e1 e2 => ?_⟩ ?_ mo hv
    · rw [getS_out] at ej
      by_cases h : j < ρa.length
      · rw [if_pos h] at ej
        cases c : getS ρ1 j with
        | none => rw [c] at ej; cases ej
        | some s' =>
          rw [c] at ej
          cases s' with
          | «mut» m k ds =>
            cases k with
            | true =>
              cases ej
              obtain ⟨w, f1, f2⟩ := a.rel.ok j _ c
              rw [sl j (by rw [← mo, mkk_out, if_pos ⟨h, mkk_of c⟩]; rfl)] at f1
              exact ⟨w, f1, f2⟩
            | false => cases ej
          | _ => cases ej
      · rw [if_neg h] at ej; cases ej
    · rw [mo] at hi hj
      have hi' := hi
      have hj' := hj
      rw [← mo, mkk_out] at hi' hj'
      split at hi'
      · next c =>
        split at hj'
        · next d => exact a.rel.apart i j p (by rw [c.2]; rfl) (by rw [d.2]; rfl) (by rw [sl i hi]; exact e1) (by rw [sl j hj]; exact e2)
        · cases hj'
      · cases hi'
    · refine a.stp.mono fun p ⟨j, hj, ej⟩ => ?_
      rw [mkk_pad] at hj
      exact ⟨j, hj, by rw [← at' j (by rw [← len]; exact lt_of_mkk hj)]; exact ej⟩
  refine st Rp e1 fun σ' G' H' a => ?_
  cases f with
  | next => cases e; exact out σ' G' H' a .non .non rfl
  | ret r' =>
    cases e
    intro v hv
    refine out σ' G' H' a v ?_ rfl
    cases r with
    | frz d => exact hv
    | lst ds =>
      obtain ⟨p, ws, e, h0, h1⟩ := hv
      refine ⟨p, ws, e, ?_, h1⟩
      rcases h0 with h0 | ⟨i, hi, _⟩
      · exact h0
      · rw [mkk_pad] at hi; exact absurd hi (nf i)
  | brk => cases e
  | cont => cases e
theorem fnG_of {P : Program} {w : World} {K : PySem.W.Frag} {mg : Str → Option Value} {base : Heap} {x qual : Str} {st : Stmt} {f : Addr} {fd : FuncData} {N ps : List Str} {k : Nat} {fi : Fi} {bs : List S} (F : Fun K x qual st f fd) (S : FnScope N ps (defScope st))
    (hm : fi.modes.length = ps.length) (hs : ∀ ρa, fi.sf ρa = evDef N.length bs ρa)
    (hbody : ∀ (cdv : Value) (A : Around) (outer : List Env) (s : Shared) (H : Hp), Room k (A.deeper (envOfC qual (defScope st) s.heap.objs.size f cdv)) → A.guards = some [] → SB (cxOf CX0 P w K mg base N qual (defScope st) f cdv A outer s H E0).nox (defBody st) (evSs bs)) :
    FnG P w K mg base (k + 1) f fd ps (SpecOf K fi) := by
  obtain ⟨oc, od, kV, doc, pm, an, cdv, ct, osl, rfl, lk, hcd⟩ := F.ex
  refine ⟨fun vs H Q sp => sp.1.trans hm, fun A outer s H args us vs Q hr hgu e0 hb r hsp => ?_⟩
  have hl : vs.length = ps.length := hsp.1.trans hm
  have KX : K.In s.heap := e0.mod.kin.keeps fun b o e => (e0.bs b o e).1
  have lim : s.heap.NoLimit := e0.mod.nolimit.keeps fun b o e => (e0.bs b o e).1
  have hkind : ∀ y ∈ ps.zip us, (defScope st).names.lookup y.1 = some .local ∨ ((defScope st).names.lookup y.1 = some .cell ∧ ((cellsFrom (s.heap.objs.size + 1) (defScope st).names []).lookup y.1).isSome = true) := fun y hy => by
    rcases S.par y.1 (List.of_mem_zip hy).1 with q | q
    · exact .inl q
    · exact .inr ⟨q, PySem.W.cellsFrom_some _ _ _ (.inl q)⟩
  refine codeAny_call_function hr.depth (KX _ _ lk) rfl S.co S.gen rfl (PySem.W.codeRec_of KX hcd) (hb _ _ _ _ ?_)
  refine wpAny_newFunctionEnv_cells S.kind hkind fun env he s1 xx => ?_
  subst he
  refine ⟨lim.keeps xx.toInCall.keep, codeAny_func ?_⟩
  obtain ⟨t, ht, sem⟩ := hbody cdv A outer s H (hr.deeper _) hgu
  have I : L2.Inv (cxOf CX0 P w K mg base N qual (defScope st) f cdv A outer s H E0) [] (L2.start N vs) H s1 := inv_start S hr.hd e0 hl r xx
  have hq := sem_def sem hs rfl hsp
  refine wpAny_mono (ht.nox.run [] s1 (L2.start N vs) H _ I hq) (fun fl s' hs => ?_) fun e s' hs => hs
  have fin : ∀ {σ' : L2.St} {H' : Hp} {v : V} {u : Value}, L2.Inv (cxOf CX0 P w K mg base N qual (defScope st) f cdv A outer s H E0) [] σ' H' s' → RelV v u → Q v H' → CE outer P w H s Q u s' :=
    fun {σ' H' v u} J rv q => ⟨v, H', J.os, J.bare, J.base, J.hok, rv, q⟩
  cases fl with
  | ret u => obtain ⟨v, σ', H', J, rv, q⟩ := hs; exact fin J rv q
  | next => obtain ⟨σ', H', J, q⟩ := hs; exact fin (v := V.non) (u := Value.none) J rfl q
  | brk => obtain ⟨_, _, _, q⟩ := hs; exact False.elim q
  | cont => obtain ⟨_, _, _, q⟩ := hs; exact False.elim q
end
end Rx
set_option Elab.async false
set_option linter.all false
set_option maxHeartbeats 2000000
/-! Rx20: from the text of an expression to E -/
namespace Rx
open PySem PySem.Spec PyProof.Rows L2
structure FnE where
  fi : Fi
  kws : List (Nat × List Str × List Nat)
structure CC where
  N : List Str
  fns : List (Str × FnE)
  consts : List (Str × D)
  bis : List Str
def ixOf : List Str → Str → Option Nat
  | [], _ => none
  | y :: r, x => if y = x then some 0 else (ixOf r x).map (· + 1)
theorem ixOf_ok : ∀ {N : List Str} {x : Str} {i : Nat}, ixOf N x = some i → N[i]? = some x
  | [], _, _, h => by cases h
  | y :: r, x, i, h => by
    unfold ixOf at h
    split at h
    · next e => cases h; simp [e]
    · obtain ⟨j, hj, rfl⟩ := Option.map_eq_some_iff.mp h
      simpa using ixOf_ok hj
def visB (sc : Scope) (x : Str) : Bool := match sc.names.lookup x with
  | some .local => true
  | some .cell => true
  | some .free => true
  | _ => false
theorem visB_ok {sc : Scope} {x : Str} (h : visB sc x = true) : Vis sc x := by
  unfold visB at h
  split at h
  · exact .inl (by assumption)
  · exact .inr (.inl (by assumption))
  · exact .inr (.inr (by assumption))
  · cases h
def isLoc (sc : Scope) (x : Str) : Bool := match sc.names.lookup x with
  | some .local => true
  | _ => false
theorem isLoc_ok {sc : Scope} {x : Str} (h : isLoc sc x = true) : sc.names.lookup x = some .local := by
  unfold isLoc at h
  split at h
  · assumption
  · cases h
def isCell (sc : Scope) (x : Str) : Bool := match sc.names.lookup x with
  | some .cell => true
  | _ => false
theorem isCell_ok {sc : Scope} {x : Str} (h : isCell sc x = true) : sc.names.lookup x = some .cell := by
  unfold isCell at h
  split at h
  · assumption
  · cases h
def glB (sc : Scope) (x : Str) : Bool := match sc.names.lookup x with
  | some .globalImplicit => true
  | _ => false
theorem glB_ok {sc : Scope} {x : Str} (h : glB sc x = true) : sc.names.lookup x = some .globalImplicit := by
  unfold glB at h
  split at h
  · assumption
  · cases h
def okN (x : Str) : Bool := !(x == ("__debug__" : Str)) && !(x == ("__classdict__" : Str)) && !(decide (x = ("__name__" : Str)))
theorem okN_ok {x : Str} (h : okN x = true) : (x == ("__debug__" : Str)) = false ∧ (x == ("__classdict__" : Str)) = false ∧ x ≠ ("__name__" : Str) := by
  unfold okN at h
  obtain ⟨h, h3⟩ := Bool.and_eq_true_iff.mp h
  obtain ⟨h1, h2⟩ := Bool.and_eq_true_iff.mp h
  exact ⟨(Bool.not_eq_true' _).mp h1, (Bool.not_eq_true' _).mp h2, of_decide_eq_false ((Bool.not_eq_true' _).mp h3)⟩
def KBd (K : PySem.W.Frag) (fd : FuncData) (ps : List Str) (q : Nat × List Str × List Nat) : Prop :=
  ∀ (us ws : List Value), us.length = q.1 → ws.length = q.2.1.length → ∃ zs, permD (us ++ ws) q.2.2 = some zs ∧ bindArgs fd ⟨us, q.2.1.zip ws⟩ = pure (ps.zip zs)
/-- where a text stands: its names, what the module's names hold -/
structure GoodX (C : CC) (sc : Scope) (fnb : Str → Bool) (X : Cx) : Prop where
  scope : X.env.scope = sc
  kind : sc.kind = .function
  N : X.N = C.N
  nd : C.N.Nodup
  calm : X.calm = true
  un : X.A.units + 70 < cLine
  gu : X.A.guards = some []
  xe : X.xe = fun _ _ => False
  fn : ∀ x, fnb x = true → X.fn x = true
  fns : ∀ x e, C.fns.lookup x = some e → ∃ (k : Nat) (f : Addr) (fd : FuncData) (ps : List Str), X.mg x = some (.ref f) ∧ PySem.W.keepIn X.K (.ref f) = true ∧ Binds X.K fd ps [] ∧ Room k X.A ∧ FnG X.prog X.w X.K X.mg X.base k f fd ps (SpecOf X.K e.fi) ∧ ∀ q ∈ e.kws, KBd X.K fd ps q
  consts : ∀ x d, C.consts.lookup x = some d → ∃ v u, X.mg x = some u ∧ RelV v u ∧ ∀ G, Dp X.K G v d
  bis : ∀ x ∈ C.bis, X.mg x = none
theorem GoodX.gl {C : CC} {sc : Scope} {fnb : Str → Bool} {X : Cx} (g : GoodX C sc fnb X) {x : Str} (h : glB sc x = true) : Gl X x := by
  unfold Gl Env.kindOf
  rw [g.scope]
  exact glB_ok h
theorem GoodX.vis {C : CC} {sc : Scope} {fnb : Str → Bool} {X : Cx} (g : GoodX C sc fnb X) {x : Str} (h : visB sc x = true) : Vis X.env.scope x := by
  rw [g.scope]
  exact visB_ok h
theorem GoodX.po {C : CC} {sc : Scope} {fnb : Str → Bool} {X : Cx} (g : GoodX C sc fnb X) : PassesOwn (model X.prog X.w) X.A X.env X.xe := by
  rw [g.xe]
  exact PassesOwn.never
theorem GoodX.blk {C : CC} {sc : Scope} {fnb : Str → Bool} {X : Cx} (g : GoodX C sc fnb X) {scope : Scope} (hk : scope.kind = .function) (s : Shared) (H : Hp) (c : Addr) (cl : List (Str × Addr)) (fp : List Addr) :
    GoodX C (relS scope sc) (fun x => scope.names.lookup x == some .cell) (blkX X scope s H c cl fp) where
  scope := by rw [← g.scope]; rfl
  kind := hk
  N := g.N
  nd := g.nd
  calm := g.calm
  un := g.un
  gu := g.gu
  xe := rfl
  fn := fun x h => h
  fns := g.fns
  consts := g.consts
  bis := g.bis
/-! ### small facts of the text -/
def notStar : Expr → Bool
  | .Starred .. => false
  | _ => true
theorem noStar_ok {e : Expr} {X : Cx} (h : notStar e = true) : NoStar e X := by
  intro es
  cases e <;> first | rfl | cases h
theorem any_plain {X : Cx} {pos : Pos} {es : List Expr} (h : es.all notStar = true) : (backTo pos (starEach es X.env)).any (·.1) = false := by
  induction es with
  | nil => rfl
  | cons e es ih =>
    simp only [List.all_cons, Bool.and_eq_true] at h
    rw [noStar_ok h.1 es]
    show (false || (backTo pos (starEach es X.env)).any (·.1)) = false
    rw [ih h.2]
    rfl
def notSet : Expr → Bool
  | .Set .. => false
  | _ => true
theorem notSet_in {op : CmpOp} {e : Expr} (h : notSet e = true) : behindInMarks op e = false := by
  cases e <;> first | rfl | cases h
theorem notSet_for {e : Expr} {env : Env} (h : notSet e = true) : ∀ x, foldedSetIterable e env x = pure x := by
  intro x
  cases e <;> first | rfl | cases h
def plainIx : Expr → Bool
  | .Slice .. => false
  | _ => true
theorem plainIx_ok {e : Expr} (h : plainIx e = true) : PlainIx e := by
  intro o i
  cases e <;> first | rfl | cases h
/-- an expression whose test is its value's truth -/
def valTest : Expr → Bool
  | .UnaryOp .Not _ _ => false
  | .BoolOp .. => false
  | .IfExp .. => false
  | .Compare .. => false
  | _ => true
theorem valTest_ok {e : Expr} {env : Env} (h : valTest e = true) : ∀ whole, isTrue e env whole = (do let v ← whole; standAt e.pos; holding [v] (truthy v)) := by
  intro whole
  cases e <;> first
    | rfl
    | (next op _ _ => cases op <;> first | rfl | cases h)
    | cases h
/-! ### the tables -/
def bopOf : Operator → Option Bop
  | .Add => some .add
  | .Sub => some .sub
  | .Mult => some .mul
  | .FloorDiv => some .fdiv
  | .Mod => some .mod
  | .Pow => some .pow
  | _ => none
theorem bop_ok {X : Cx} {op : Operator} {o : Bop} (h : bopOf op = some o) : OpS X (binaryOp op) (bopR o) := by
  cases op <;> first
    | (cases h; exact opS_add)
    | (cases h; exact opS_sub)
    | (cases h; exact opS_mul)
    | (cases h; exact opS_fdiv)
    | (cases h; exact opS_mod)
    | (cases h; exact opS_pow)
    | cases h
def copOf : CmpOp → Option Cop
  | .Eq => some .eq
  | .NotEq => some .ne
  | .Lt => some .lt
  | .LtE => some .le
  | .Gt => some .gt
  | .GtE => some .ge
  | .In => some .inn
  | .NotIn => some .nin
  | _ => none
theorem cop_ok {X : Cx} {op : CmpOp} {o : Cop} (hu : X.A.units + 70 < cLine) (h : copOf op = some o) : OpC X (compareOp op) (copR o) := by
  cases op <;> first
    | (cases h; exact opC_eq (by omega))
    | (cases h; exact opC_ne (by omega))
    | (cases h; exact opC_lt)
    | (cases h; exact opC_le)
    | (cases h; exact opC_gt)
    | (cases h; exact opC_ge)
    | (cases h; exact opC_in (by omega))
    | (cases h; exact opC_nin (by omega))
    | cases h
def biOf (x : Str) : Option Bi :=
  if x = "len" then some .len else if x = "max" then some .maxs else if x = "min" then some .mins else if x = "abs" then some .abs else if x = "sum" then some .sum else
  if x = "sorted" then some .sorted else if x = "list" then some .list else if x = "tuple" then some .tuple else if x = "int" then some .int else if x = "str" then some .str else
  if x = "all" then some .all else if x = "any" then some .any else if x = "repr" then some .repr else none
section
variable {X : Cx} {C : CC} {sc : Scope} {fnb : Str → Bool} {pos p : Pos}
theorem bi_ok {x : Str} {b : Bi} {a : Expr} {A : E} (g : GoodX C sc fnb X) (h : biOf x = some b) (hg : Gl X x) (hm : X.mg x = none) (ha : SE X a (evE A)) (hs : NoStar a X) : SE X (.Call (.Name x p) [a] [] pos) (evE (.bi b [A])) := by
  have hu := g.un
  unfold biOf at h
  by_cases e : x = "len"
  · rw [if_pos e] at h; cases h; subst e; exact se_biB callS_len (fun _ => rfl) hg hm (by decide +kernel) ha hs (by decide) (by decide)
  rw [if_neg e] at h; clear e
  by_cases e : x = "max"
  · rw [if_pos e] at h; cases h; subst e; exact se_biB (callS_fold g.calm (by omega) true) (fun _ => rfl) hg hm (by decide +kernel) ha hs (by decide) (by decide)
  rw [if_neg e] at h; clear e
  by_cases e : x = "min"
  · rw [if_pos e] at h; cases h; subst e; exact se_biB (callS_fold g.calm (by omega) false) (fun _ => rfl) hg hm (by decide +kernel) ha hs (by decide) (by decide)
  rw [if_neg e] at h; clear e
  by_cases e : x = "abs"
  · rw [if_pos e] at h; cases h; subst e; exact se_biB callS_abs (fun _ => rfl) hg hm (by decide +kernel) ha hs (by decide) (by decide)
  rw [if_neg e] at h; clear e
  by_cases e : x = "sum"
  · rw [if_pos e] at h; cases h; subst e; exact se_biB (callS_sum g.calm) (fun _ => rfl) hg hm (by decide +kernel) ha hs (by decide) (by decide)
  rw [if_neg e] at h; clear e
  by_cases e : x = "sorted"
  · rw [if_pos e] at h; cases h; subst e; exact se_biB (callS_sorted (by omega)) (fun _ => rfl) hg hm (by decide +kernel) ha hs (by decide) (by decide)
  rw [if_neg e] at h; clear e
  by_cases e : x = "list"
  · rw [if_pos e] at h; cases h; subst e; exact se_biT callS_list (fun _ => rfl) hg hm (by decide +kernel) ha hs (by decide) (by decide)
  rw [if_neg e] at h; clear e
  by_cases e : x = "tuple"
  · rw [if_pos e] at h; cases h; subst e; exact se_biT callS_tuple (fun _ => rfl) hg hm (by decide +kernel) ha hs (by decide) (by decide)
  rw [if_neg e] at h; clear e
  by_cases e : x = "int"
  · rw [if_pos e] at h; cases h; subst e; exact se_biT callS_int (fun _ => rfl) hg hm (by decide +kernel) ha hs (by decide) (by decide)
  rw [if_neg e] at h; clear e
  by_cases e : x = "str"
  · rw [if_pos e] at h; cases h; subst e; exact se_biT callS_str (fun _ => rfl) hg hm (by decide +kernel) ha hs (by decide) (by decide)
  rw [if_neg e] at h; clear e
  by_cases e : x = "all"
  · rw [if_pos e] at h; cases h; subst e; exact se_biB (callS_all g.calm) (fun _ => rfl) hg hm (by decide +kernel) ha hs (by decide) (by decide)
  rw [if_neg e] at h; clear e
  by_cases e : x = "any"
  · rw [if_pos e] at h; cases h; subst e; exact se_biB (callS_any g.calm) (fun _ => rfl) hg hm (by decide +kernel) ha hs (by decide) (by decide)
  rw [if_neg e] at h; clear e
  by_cases e : x = "repr"
  · rw [if_pos e] at h; cases h; subst e; exact se_biB (callS_repr g.gu (by omega)) (fun _ => rfl) hg hm (by decide +kernel) ha hs (by decide) (by decide)
  rw [if_neg e] at h; clear e
  cases h
end
end Rx
set_option Elab.async false
set_option linter.all false
set_option maxHeartbeats 2000000
/-! Rx21: expressions from their text -/
namespace Rx
open PySem PySem.Spec PyProof.Rows L2
def tst : Expr → Bool
  | .IfExp .. => false
  | _ => true
def mapO {α β : Type} (f : α → Option β) : List α → Option (List β)
  | [] => some []
  | a :: r => (f a).bind fun b => (mapO f r).map (b :: ·)
def compB (f : Expr → Option E) (op : BoolOp) : List Expr → Option E
  | [] => none
  | [a] => if tst a then f a else none
  | a :: b :: r => if tst a then (f a).bind fun A => (compB f op (b :: r)).map fun B => match op with
    | .And => .and A B
    | .Or => .or A B else none
def compArgs (f : Expr → Option E) (es : List Expr) : Option (List E) := if es.all notStar then mapO f es else none
def tyIn (x : Str) : Option Ty := if x = "int" then some .int else if x = "bool" then some .bool else if x = "str" then some .str else if x = "list" then some .list else if x = "tuple" then some .tuple else none
def inBis (C : CC) (sc : Scope) (x : Str) : Bool := glB sc x && C.bis.contains x
def compIsi (C : CC) (sc : Scope) (f : Expr → Option E) : List Expr → Option E
  | [a, .Name tn _] => if notStar a && inBis C sc tn then (tyIn tn).bind fun t => (f a).map fun A => .bi (.isi [t]) [A] else none
  | [a, .Tuple [.Name tn _, .Name tn' _] _ _] => if notStar a && inBis C sc tn && inBis C sc tn' then (tyIn tn).bind fun t => (tyIn tn').bind fun t' => (f a).map fun A => .bi (.isi [t, t']) [A] else none
  | _ => none
def compBi (C : CC) (sc : Scope) (f : Expr → Option E) (x : Str) (es : List Expr) : Option E :=
  if x = "isinstance" then compIsi C sc f es else match es with
    | [a] => if notStar a then (biOf x).bind fun b => (f a).map fun A => .bi b [A] else none
    | [a, b] => if notStar a && notStar b then (if x = "max" then some .max2 else if x = "min" then some .min2 else none).bind fun o => (f a).bind fun A => (f b).map fun B => .bi o [A, B] else none
    | _ => none
def kwNames : List Keyword → Option (List Str)
  | [] => some []
  | ⟨some n, _, _⟩ :: r => (kwNames r).map (n :: ·)
  | _ => none
def kwVals : List Keyword → List Expr
  | [] => []
  | ⟨_, v, _⟩ :: r => v :: kwVals r
def compCall (C : CC) (sc : Scope) (f : Expr → Option E) (x : Str) (es : List Expr) (kws : List Keyword) : Option E :=
  if okN x && glB sc x then
    match C.fns.lookup x with
    | some e => match kws with
      | [] => match es with
        | [] => none
        | _ => (compArgs f es).map fun As => .call e.fi As
      | _ => (kwNames kws).bind fun ks => (e.kws.find? fun q => q.1 == es.length && decide (q.2.1 = ks)).bind fun q => (compArgs f es).bind fun As => (mapO f (kwVals kws)).bind fun Ks => if distinct q.2.2 then some (.callk e.fi (As ++ Ks) q.2.2) else none
    | none => if C.bis.contains x then match kws with
      | [] => compBi C sc f x es
      | _ => none else none
  else none
def compO (f : Expr → Option E) : Option Expr → Option E
  | none => some (.const .none)
  | some e => (f e).map .asI
def isOne : Expr → Bool
  | .UnaryOp .USub (.Constant (.int 1) _ _) _ => true
  | _ => false
def compSub (f : Expr → Option E) (a : Expr) : Expr → Option E
  | .Slice lo hi none _ => (f a).bind fun A => (compO f lo).bind fun L => (compO f hi).map fun H => .slc A L H
  | .Slice none none (some s) _ => if isOne s then (f a).map .rev else none
  | .Slice .. => none
  | b => (f a).bind fun A => (f b).map fun B => .idx A B
def isNone : Expr → Bool
  | .Constant .none _ _ => true
  | _ => false
def compCmp (f : Expr → Option E) (a : Expr) : List CmpOp → List Expr → Option E
  | [.Is], [b] => if isNone b then (f a).map .isN else none
  | [.IsNot], [b] => if isNone b then (f a).map .notN else none
  | [op], [b] => if notSet b then (copOf op).bind fun o => (f a).bind fun A => (f b).map fun B => .cop o A B else none
  | [op, op'], [b, c] => if notSet c then (copOf op).bind fun o => (copOf op').bind fun o' => (f a).bind fun A => (f b).bind fun B => (f c).map fun D => .ch2 o o' A B D else none
  | _, _ => none
/-- targets -/
def compTg (C : CC) (sc : Scope) (fnb : Str → Bool) : Nat → Expr → Option Tg
  | 0, _ => none
  | n + 1, .Name x _ => if isLoc sc x || (isCell sc x && fnb x) then (ixOf C.N x).map .nm else none
  | n + 1, .Tuple es _ _ => (mapO (compTg C sc fnb n) es).map .tup
  | _, _ => none
def isTup : Expr → Bool
  | .Tuple .. => true
  | _ => false
def isTru : Expr → Bool
  | .Constant (.bool true) _ _ => true
  | _ => false
def compIt (C : CC) (sc : Scope) (f : Expr → Option E) (tg : Expr) (e : Expr) : Option It := match e with
  | .Call (.Name x _) es kws _ => if inBis C sc x && es.all notStar && (C.fns.lookup x).isNone then
      match es, kws with
      | [a], [] => if x = "range" then (f a).map .range1 else if x = "enumerate" ∧ isTup tg = true then (f a).map .enum else (f e).map .seq
      | [a, b], [] => if x = "range" then (f a).bind fun A => (f b).map fun B => .range2 A B else if x = "zip" ∧ isTup tg = true then (f a).bind fun A => (f b).map fun B => .zip false A B else (f e).map .seq
      | [a, b], [⟨some k, v, _⟩] => if x = "zip" ∧ k = "strict" ∧ isTru v = true ∧ isTup tg = true then (f a).bind fun A => (f b).map fun B => .zip true A B else none
      | _, _ => (f e).map .seq
    else (f e).map .seq
  | .Set .. => none
  | e => (f e).map .seq
def ownOf (N : List Str) : List (Str × NameKind) → List (Str × Nat)
  | [] => []
  | (x, .local) :: r => match ixOf N x with
    | some i => (x, i) :: ownOf N r
    | none => ownOf N r
  | (x, .cell) :: r => match ixOf N x with
    | some i => (x, i) :: ownOf N r
    | none => ownOf N r
  | _ :: r => ownOf N r
def slots (own : List (Str × Nat)) : List Nat := own.map (·.2)
def subN (a b : List Nat) : Bool := a.all fun i => b.contains i
def isFnK (sc : Scope) : Bool := match sc.kind with
  | .function => true
  | _ => false
def compE (C : CC) : Nat → Scope → (Str → Bool) → Expr → Option E
  | 0, _, _, _ => none
  | n + 1, sc, fnb, e => match e with
    | .Constant (.int i) _ _ => some (.const (.int i))
    | .Constant (.bool b) _ _ => some (.const (.bool b))
    | .Constant .none _ _ => some (.const .none)
    | .Constant (.str z) _ _ => some (.const (.str z))
    | .Name x _ => if okN x then if visB sc x then (ixOf C.N x).map .var else if glB sc x then (C.consts.lookup x).map .const else none else none
    | .BinOp a op b _ => (bopOf op).bind fun o => (compE C n sc fnb a).bind fun A => (compE C n sc fnb b).map fun B => .bop o A B
    | .UnaryOp .USub a _ => (compE C n sc fnb a).map .neg
    | .UnaryOp .Not a _ => if tst a then (compE C n sc fnb a).map .not else none
    | .Compare a ops es _ => compCmp (compE C n sc fnb) a ops es
    | .BoolOp op es _ => compB (compE C n sc fnb) op es
    | .IfExp c a b _ => if tst c then (compE C n sc fnb c).bind fun D => (compE C n sc fnb a).bind fun A => (compE C n sc fnb b).map fun B => .ife D A B else none
    | .Subscript a b _ => compSub (compE C n sc fnb) a b
    | .Tuple es _ _ => (compArgs (compE C n sc fnb) es).map .tup
    | .List es _ => (compArgs (compE C n sc fnb) es).map .lst
    | .Call (.Name x _) es kws _ => compCall C sc (compE C n sc fnb) x es kws
    | .ListComp elt [⟨tg, iter, ifs, 0⟩] scope _ =>
      if isFnK scope && blkC C.N sc scope (ownOf C.N scope.names) then
        (compTg C (relS scope sc) (fun x => scope.names.lookup x == some NameKind.cell) n tg).bind fun T => if subN (tgS T) (slots (ownOf C.N scope.names)) then
          (compIt C sc (compE C n sc fnb) tg iter).bind fun I =>
          (match ifs with
            | [] => some []
            | [c] => if tst c then (compE C n (relS scope sc) (fun x => scope.names.lookup x == some NameKind.cell) c).map fun A => [A] else none
            | _ => none).bind fun cs =>
          (compE C n (relS scope sc) (fun x => scope.names.lookup x == some NameKind.cell) elt).map fun A => .comp A T I cs (slots (ownOf C.N scope.names)) else none
      else none
    | _ => none
/-! ### soundness -/
section
variable {C : CC} {sc : Scope} {fnb : Str → Bool} {X : Cx} {pos : Pos} {f : Expr → Option E}
/-- what a compiled expression is -/
def Snd (X : Cx) (f : Expr → Option E) : Prop := ∀ e A, f e = some A → SE X e (evE A) ∧ (tst e = true → ST X e (evE A))
theorem ite_some' {α : Type} {c : Bool} {a : Option α} {x : α} (h : (if c = true then a else none) = some x) : c = true ∧ a = some x := by
  split at h
  · exact ⟨by assumption, h⟩
  · cases h
theorem args_ok (S : Snd X f) : ∀ {es : List Expr} {As : List E}, es.all notStar = true → mapO f es = some As → SA X es (evEs As)
  | [], _, _, h => by cases h; exact sa_nil
  | e :: es, As, hs, h => by
    unfold mapO at h
    obtain ⟨A, e1, h⟩ := Option.bind_eq_some_iff.mp h
    obtain ⟨Bs, e2, rfl⟩ := Option.map_eq_some_iff.mp h
    simp only [List.all_cons, Bool.and_eq_true] at hs
    exact sa_cons (S e A e1).1 (noStar_ok hs.1) (args_ok S hs.2 e2)
theorem compArgs_ok (S : Snd X f) {es : List Expr} {As : List E} (h : compArgs f es = some As) : es.all notStar = true ∧ SA X es (evEs As) := by
  obtain ⟨hs, h⟩ := ite_some' h
  exact ⟨hs, args_ok S hs h⟩
theorem compB_ok (S : Snd X f) {op : BoolOp} : ∀ {es : List Expr} {A : E}, compB f op es = some A → SE X (.BoolOp op es pos) (evE A) ∧ SW X (.BoolOp op es pos) (evE A)
  | [], _, h => by cases h
  | [a], A, h => by
    unfold compB at h
    obtain ⟨t, h⟩ := ite_some' h
    obtain ⟨h1, h2⟩ := S a A h
    refine ⟨se_one h1, ?_⟩
    cases op with
    | And => exact sw_and1 (h2 t)
    | Or => exact sw_or1 (h2 t)
  | a :: b :: r, A, h => by
    unfold compB at h
    obtain ⟨t, h⟩ := ite_some' h
    obtain ⟨A', e1, h⟩ := Option.bind_eq_some_iff.mp h
    obtain ⟨B', e2, h⟩ := Option.map_eq_some_iff.mp h
    obtain ⟨h1, h2⟩ := S a A' e1
    obtain ⟨k1, k2⟩ := compB_ok S e2
    cases op with
    | And => cases h; exact ⟨se_and h1 k1, sw_and (h2 t) k2⟩
    | Or => cases h; exact ⟨se_or h1 k1, sw_or (h2 t) k2⟩
theorem inBis_ok (g : GoodX C sc fnb X) {x : Str} (h : inBis C sc x = true) : Gl X x ∧ X.mg x = none := by
  simp only [inBis, Bool.and_eq_true] at h
  exact ⟨g.gl h.1, g.bis x (List.contains_iff_mem.mp h.2)⟩
theorem tyIn_ok {x : Str} {t : Ty} (h : tyIn x = some t) : bootBuiltins x = some (.type (tyS t)) ∧ x ≠ "__name__" ∧ (x == ("__debug__" : Str)) = false := by
  unfold tyIn at h
  by_cases e : x = "int"
  · rw [if_pos e] at h; cases h; subst e; exact ⟨by decide +kernel, by decide, by decide⟩
  rw [if_neg e] at h; clear e
  by_cases e : x = "bool"
  · rw [if_pos e] at h; cases h; subst e; exact ⟨by decide +kernel, by decide, by decide⟩
  rw [if_neg e] at h; clear e
  by_cases e : x = "str"
  · rw [if_pos e] at h; cases h; subst e; exact ⟨by decide +kernel, by decide, by decide⟩
  rw [if_neg e] at h; clear e
  by_cases e : x = "list"
  · rw [if_pos e] at h; cases h; subst e; exact ⟨by decide +kernel, by decide, by decide⟩
  rw [if_neg e] at h; clear e
  by_cases e : x = "tuple"
  · rw [if_pos e] at h; cases h; subst e; exact ⟨by decide +kernel, by decide, by decide⟩
  rw [if_neg e] at h; clear e
  cases h
theorem compIsi_ok (g : GoodX C sc fnb X) (S : Snd X f) {p : Pos} {es : List Expr} {A : E} (hg : Gl X "isinstance") (hm : X.mg "isinstance" = none) (h : compIsi C sc f es = some A) : SE X (.Call (.Name "isinstance" p) es [] pos) (evE A) := by
  unfold compIsi at h
  split at h
  · obtain ⟨hc, h⟩ := ite_some' h
    simp only [Bool.and_eq_true] at hc
    obtain ⟨t, e1, h⟩ := Option.bind_eq_some_iff.mp h
    obtain ⟨A', e2, rfl⟩ := Option.map_eq_some_iff.mp h
    obtain ⟨g1, m1⟩ := inBis_ok g hc.2
    obtain ⟨b1, n1, d1⟩ := tyIn_ok e1
    exact se_isi1 hg hm g1 m1 b1 (S _ _ e2).1 (noStar_ok hc.1) n1 d1
  · obtain ⟨hc, h⟩ := ite_some' h
    simp only [Bool.and_eq_true] at hc
    obtain ⟨t, e1, h⟩ := Option.bind_eq_some_iff.mp h
    obtain ⟨t', e1', h⟩ := Option.bind_eq_some_iff.mp h
    obtain ⟨A', e2, rfl⟩ := Option.map_eq_some_iff.mp h
    obtain ⟨g1, m1⟩ := inBis_ok g hc.1.2
    obtain ⟨g2, m2⟩ := inBis_ok g hc.2
    obtain ⟨b1, n1, d1⟩ := tyIn_ok e1
    obtain ⟨b2, n2, d2⟩ := tyIn_ok e1'
    exact se_isi2 hg hm g1 m1 b1 n1 d1 g2 m2 b2 n2 d2 (S _ _ e2).1 (noStar_ok hc.1.1)
  · cases h
theorem compBi_ok (g : GoodX C sc fnb X) (S : Snd X f) {p : Pos} {x : Str} {es : List Expr} {A : E} (hg : Gl X x) (hm : X.mg x = none) (h : compBi C sc f x es = some A) : SE X (.Call (.Name x p) es [] pos) (evE A) := by
  unfold compBi at h
  by_cases e : x = "isinstance"
  · rw [if_pos e] at h; subst e; exact compIsi_ok g S hg hm h
  · rw [if_neg e] at h
    split at h
    · obtain ⟨hs, h⟩ := ite_some' h
      obtain ⟨b, e1, h⟩ := Option.bind_eq_some_iff.mp h
      obtain ⟨A', e2, rfl⟩ := Option.map_eq_some_iff.mp h
      exact bi_ok g e1 hg hm (S _ _ e2).1 (noStar_ok hs)
    · next a b =>
      obtain ⟨hs, h⟩ := ite_some' h
      simp only [Bool.and_eq_true] at hs
      obtain ⟨o, e1, h⟩ := Option.bind_eq_some_iff.mp h
      obtain ⟨A', e2, h⟩ := Option.bind_eq_some_iff.mp h
      obtain ⟨B', e3, rfl⟩ := Option.map_eq_some_iff.mp h
      have pl : (backTo pos (starEach [b] X.env)).any (·.1) = false := any_plain (by simp [hs.2])
      by_cases e : x = "max"
      · rw [if_pos e] at e1; cases e1; subst e; exact se_bi2 (call_max2 g.calm) (fun _ _ => rfl) hg hm (by decide +kernel) (S _ _ e2).1 (S _ _ e3).1 (noStar_ok hs.1) (noStar_ok hs.2) pl (by decide) (by decide)
      · rw [if_neg e] at e1
        by_cases e' : x = "min"
        · rw [if_pos e'] at e1; cases e1; subst e'; exact se_bi2 (call_min2 g.calm) (fun _ _ => rfl) hg hm (by decide +kernel) (S _ _ e2).1 (S _ _ e3).1 (noStar_ok hs.1) (noStar_ok hs.2) pl (by decide) (by decide)
        · rw [if_neg e'] at e1; cases e1
    · cases h
theorem compO_ok (S : Snd X f) {o : Option Expr} {A : E} (h : compO f o = some A) : SO X o (evE A) := by
  cases o with
  | none => cases h; exact so_none
  | some e => obtain ⟨A', e2, rfl⟩ := Option.map_eq_some_iff.mp h; exact so_some (S _ _ e2).1
theorem isOne_ok {e : Expr} (h : isOne e = true) : ∃ j p p', e = .UnaryOp .USub (.Constant (.int 1) j p) p' := by
  unfold isOne at h
  split at h
  · exact ⟨_, _, _, rfl⟩
  · cases h
theorem isNone_ok {e : Expr} (h : isNone e = true) : ∃ j p, e = .Constant .none j p := by
  unfold isNone at h
  split at h
  · exact ⟨_, _, rfl⟩
  · cases h
theorem compSub_ok (S : Snd X f) {a b : Expr} {A : E} (h : compSub f a b = some A) : SE X (.Subscript a b pos) (evE A) := by
  unfold compSub at h
  split at h
  · obtain ⟨A', e1, h⟩ := Option.bind_eq_some_iff.mp h
    obtain ⟨L, e2, h⟩ := Option.bind_eq_some_iff.mp h
    obtain ⟨H, e3, rfl⟩ := Option.map_eq_some_iff.mp h
    exact se_slc (S _ _ e1).1 (compO_ok S e2) (compO_ok S e3)
  · obtain ⟨hc, h⟩ := ite_some' h
    obtain ⟨j, p, p', rfl⟩ := isOne_ok hc
    obtain ⟨A', e1, rfl⟩ := Option.map_eq_some_iff.mp h
    exact se_rev (S _ _ e1).1
  · cases h
  · next n1 n2 n3 =>
    obtain ⟨A', e1, h⟩ := Option.bind_eq_some_iff.mp h
    obtain ⟨B', e2, rfl⟩ := Option.map_eq_some_iff.mp h
    refine se_idx (plainIx_ok ?_) (S _ _ e1).1 (S _ _ e2).1
    cases b <;> first | rfl | exact absurd rfl (n3 _ _ _ _)
theorem compCmp_ok (g : GoodX C sc fnb X) (S : Snd X f) {a : Expr} {ops : List CmpOp} {es : List Expr} {A : E} (h : compCmp f a ops es = some A) : SE X (.Compare a ops es pos) (evE A) ∧ ST X (.Compare a ops es pos) (evE A) := by
  unfold compCmp at h
  split at h
  · obtain ⟨hc, h⟩ := ite_some' h
    obtain ⟨j, p, rfl⟩ := isNone_ok hc
    obtain ⟨A', e1, rfl⟩ := Option.map_eq_some_iff.mp h
    exact ⟨se_isN (S _ _ e1).1, st_isN (S _ _ e1).1⟩
  · obtain ⟨hc, h⟩ := ite_some' h
    obtain ⟨j, p, rfl⟩ := isNone_ok hc
    obtain ⟨A', e1, rfl⟩ := Option.map_eq_some_iff.mp h
    exact ⟨se_notN (S _ _ e1).1, st_notN (S _ _ e1).1⟩
  · obtain ⟨hc, h⟩ := ite_some' h
    obtain ⟨o, e1, h⟩ := Option.bind_eq_some_iff.mp h
    obtain ⟨A', e2, h⟩ := Option.bind_eq_some_iff.mp h
    obtain ⟨B', e3, rfl⟩ := Option.map_eq_some_iff.mp h
    exact ⟨se_cop (cop_ok g.un e1) (notSet_in hc) (S _ _ e2).1 (S _ _ e3).1, st_cop (cop_ok g.un e1) (notSet_in hc) (S _ _ e2).1 (S _ _ e3).1⟩
  · obtain ⟨hc, h⟩ := ite_some' h
    obtain ⟨o, e1, h⟩ := Option.bind_eq_some_iff.mp h
    obtain ⟨o', e1', h⟩ := Option.bind_eq_some_iff.mp h
    obtain ⟨A', e2, h⟩ := Option.bind_eq_some_iff.mp h
    obtain ⟨B', e3, h⟩ := Option.bind_eq_some_iff.mp h
    obtain ⟨D', e4, rfl⟩ := Option.map_eq_some_iff.mp h
    have lm : ∀ (o o' : CmpOp) (x y : Expr), notSet y = true → lastMarks [o, o'] [x, y] = false := fun o o' x y hy => notSet_in hy
    exact ⟨se_chain (cop_ok g.un e1) (cop_ok g.un e1') (lm _ _ _ _ hc) (S _ _ e2).1 (S _ _ e3).1 (S _ _ e4).1, st_chain (cop_ok g.un e1) (cop_ok g.un e1') (lm _ _ _ _ hc) (S _ _ e2).1 (S _ _ e3).1 (S _ _ e4).1⟩
  · cases h
end
end Rx
set_option Elab.async false
set_option linter.all false
set_option maxHeartbeats 2000000
/-! Rx22: calls by names; targets; the whole of expressions -/
namespace Rx
open PySem PySem.Spec PyProof.Rows L2
/-! ### calls by names -/
section
variable {K : PySem.W.Frag} {G0 G G1 G2 H Hs H1 H2 : Hp} {ρ ρ1 ρ2 : Sto} {σ : L2.St}
theorem OpdsOk.app (R : Rel K G0 G ρ σ H) (a : Aft K G0 σ ρ G H ρ1 G1 H1) (b : Aft K G0 σ ρ1 G1 H1 ρ2 G2 H2) {ys : List Opd} {ws : List V} (t : OpdsOk K G2 H2 H1 ρ2 σ ys ws) : ∀ {xs : List Opd} {vs : List V}, OpdsOk K G1 H1 H ρ1 σ xs vs → OpdsOk K G2 H2 H ρ2 σ (xs ++ ys) (vs ++ ws)
  | [], _, .nil => t.wider R a
  | x :: xs, v :: vs, .cons h n r => by
    refine .cons (h.later R a b) (fun ds e hv => ?_) (OpdsOk.app R a b t r)
    have key : ∀ (xs : List Opd) (vs : List V), xs.length = vs.length → tmps (xs ++ ys) (vs ++ ws) = tmps xs vs ++ tmps ys ws := by
      intro xs
      induction xs with
      | nil => intro vs hl; cases vs with | nil => rfl | cons _ _ => cases hl
      | cons x xs ih =>
        intro vs hl
        cases vs with
        | nil => cases hl
        | cons v vs =>
          have ih := ih vs (by simpa using hl)
          cases x with
          | val r =>
            cases r with
            | frz d => exact ih
            | lst l => show v :: tmps (xs ++ ys) (vs ++ ws) = _; rw [ih]; rfl
          | slot i => exact ih
    have hv : v ∈ tmps (xs ++ ys) (vs ++ ws) := hv
    rw [key xs vs (by rw [r.len])] at hv
    rcases List.mem_append.mp hv with hv | hv
    · exact n ds e hv
    · subst e
      obtain ⟨p, us, e1, _, _, h2, _⟩ := h
      obtain ⟨q, _, e2, h3, _⟩ := t.tmp hv
      rw [e1] at e2; cases e2
      rw [h2] at h3; cases h3
theorem OpdsOk.at : ∀ {xs : List Opd} {vs : List V} {i : Nat} {x : Opd}, OpdsOk K G H Hs ρ σ xs vs → xs[i]? = some x → ∃ v, vs[i]? = some v ∧ OpdOk K G H Hs ρ σ x v
  | _, _, 0, _, .cons h _ _, e => by simp at e; subst e; exact ⟨_, rfl, h⟩
  | _, _, i + 1, _, .cons _ _ t, e => by
    obtain ⟨v, h1, h2⟩ := OpdsOk.at (i := i) t (by simpa using e)
    exact ⟨v, by simpa using h1, h2⟩
  | _, _, _, _, .nil, e => by simp at e
theorem tmps_at : ∀ {xs : List Opd} {vs : List V} {v : V}, v ∈ tmps xs vs → ∃ (j : Nat) (ds : List D), xs[j]? = some (Opd.val (.lst ds)) ∧ vs[j]? = some v
  | .val (.lst ds) :: xs, w :: vs, v, h => by
    rcases List.mem_cons.mp h with e | h
    · exact ⟨0, ds, rfl, by rw [e]; rfl⟩
    · obtain ⟨j, l, h1, h2⟩ := tmps_at h
      exact ⟨j + 1, l, by simpa using h1, by simpa using h2⟩
  | .val (.frz d) :: xs, w :: vs, v, h => by
    obtain ⟨j, l, h1, h2⟩ := tmps_at (xs := xs) (vs := vs) h
    exact ⟨j + 1, l, by simpa using h1, by simpa using h2⟩
  | .slot i :: xs, w :: vs, v, h => by
    obtain ⟨j, l, h1, h2⟩ := tmps_at (xs := xs) (vs := vs) h
    exact ⟨j + 1, l, by simpa using h1, by simpa using h2⟩
  | [], _, _, h => by cases h
  | .val (.lst _) :: _, [], _, h => by cases h
  | .val (.frz _) :: _, [], _, h => by cases h
  | .slot _ :: _, [], _, h => by cases h
theorem mem_tmps : ∀ {xs : List Opd} {vs : List V} {j : Nat} {ds : List D} {v : V}, xs[j]? = some (.val (.lst ds)) → vs[j]? = some v → v ∈ tmps xs vs
  | x :: xs, w :: vs, 0, ds, v, h1, h2 => by
    simp at h1 h2; subst h1 h2; exact List.mem_cons_self
  | x :: xs, w :: vs, j + 1, ds, v, h1, h2 => by
    have := mem_tmps (xs := xs) (vs := vs) (j := j) (by simpa using h1) (by simpa using h2)
    cases x with
    | val r => cases r with
      | frz d => exact this
      | lst l => exact List.mem_cons_of_mem _ this
    | slot i => exact this
  | [], _, _, _, _, h1, _ => by simp at h1
  | _ :: _, [], _, _, _, _, h2 => by simp at h2
theorem OpdsOk.diff : ∀ {xs : List Opd} {vs : List V} {i j : Nat} {ds es : List D} {v : V}, OpdsOk K G H Hs ρ σ xs vs → xs[i]? = some (.val (.lst ds)) → xs[j]? = some (.val (.lst es)) → vs[i]? = some v → vs[j]? = some v → i = j
  | _, _, 0, 0, _, _, _, _, _, _, _, _ => rfl
  | _, _, 0, j + 1, _, _, _, .cons _ n _, h1, h2, h3, h4 => by
    simp at h1 h3; subst h3
    exact absurd (mem_tmps (by simpa using h2) (by simpa using h4)) (n _ h1)
  | _, _, i + 1, 0, _, _, _, .cons _ n _, h1, h2, h3, h4 => by
    simp at h2 h4; subst h4
    exact absurd (mem_tmps (by simpa using h1) (by simpa using h3)) (n _ h2)
  | _, _, i + 1, j + 1, _, _, _, .cons _ _ t, h1, h2, h3, h4 => by
    exact congrArg (· + 1) (OpdsOk.diff t (by simpa using h1) (by simpa using h2) (by simpa using h3) (by simpa using h4))
  | _, _, 0, _ + 1, _, _, _, .nil, h, _, _, _ => by simp at h
  | _, _, _ + 1, 0, _, _, _, .nil, h, _, _, _ => by simp at h
  | _, _, _ + 1, _ + 1, _, _, _, .nil, h, _, _, _ => by simp at h
theorem permD_mem {α : Type} {xs : List α} : ∀ {p : List Nat} {ys : List α} {j : Nat} {y : α}, permD xs p = some ys → ys[j]? = some y → ∃ i, p[j]? = some i ∧ xs[i]? = some y
  | [], ys, j, y, h, e => by cases h; simp at e
  | i :: p, ys, j, y, h, e => by
    unfold permD at h
    obtain ⟨x, h1, h⟩ := Option.bind_eq_some_iff.mp h
    obtain ⟨zs, h2, rfl⟩ := Option.map_eq_some_iff.mp h
    cases j with
    | zero => simp at e; subst e; exact ⟨i, rfl, h1⟩
    | succ j =>
      obtain ⟨i', e1, e2⟩ := permD_mem h2 (by simpa using e)
      exact ⟨i', by simpa using e1, e2⟩
theorem OpdsOk.perm {xs : List Opd} {vs : List V} (o : OpdsOk K G H Hs ρ σ xs vs) : ∀ {p : List Nat} {ys : List Opd}, permD xs p = some ys → p.Nodup → ∃ ws, permD vs p = some ws ∧ OpdsOk K G H Hs ρ σ ys ws
  | [], _, h, _ => by cases h; exact ⟨[], rfl, .nil⟩
  | i :: p, ys, h, nd => by
    unfold permD at h
    obtain ⟨x, h1, h⟩ := Option.bind_eq_some_iff.mp h
    obtain ⟨zs, h2, rfl⟩ := Option.map_eq_some_iff.mp h
    obtain ⟨v, e1, ov⟩ := o.at h1
    have nd' := List.nodup_cons.mp nd
    obtain ⟨ws, e2, os⟩ := o.perm h2 nd'.2
    refine ⟨v :: ws, by unfold permD; rw [e1, e2]; rfl, .cons ov (fun ds e hv => ?_) os⟩
    obtain ⟨j, es, f1, f2⟩ := tmps_at hv
    obtain ⟨i', g1, g2⟩ := permD_mem h2 f1
    obtain ⟨i'', g1', g3⟩ := permD_mem e2 f2
    rw [g1] at g1'; cases g1'
    subst e
    have := o.diff h1 g2 e1 g3
    subst this
    exact nd'.1 (List.mem_of_getElem? g1)
theorem vals_perm {vs : List V} {us : List Value} (r : Vals vs us) : ∀ {p : List Nat} {ws : List V} {zs : List Value}, permD vs p = some ws → permD us p = some zs → Vals ws zs
  | [], _, _, h, h' => by cases h; cases h'; exact .nil
  | i :: p, ws, zs, h, h' => by
    unfold permD at h h'
    obtain ⟨x, h1, h⟩ := Option.bind_eq_some_iff.mp h
    obtain ⟨xs, h2, rfl⟩ := Option.map_eq_some_iff.mp h
    obtain ⟨y, k1, h'⟩ := Option.bind_eq_some_iff.mp h'
    obtain ⟨ys, k2, rfl⟩ := Option.map_eq_some_iff.mp h'
    obtain ⟨u, e, ru⟩ := r.get h1
    rw [k1] at e; cases e
    exact .cons ru (vals_perm r h2 k2)
end
theorem evEs_cons {e : E} {es : List E} {ρ : Sto} : evEs (e :: es) ρ = (evE e ρ).bind fun x ρ1 => (evEs es ρ1).bind fun xs ρ2 => .ret (x :: xs) ρ2 := by rw [evEs]
theorem evEs_app {As Bs : List E} : ∀ {ρ : Sto}, evEs (As ++ Bs) ρ = (evEs As ρ).bind fun xs ρ1 => (evEs Bs ρ1).bind fun ys ρ2 => .ret (xs ++ ys) ρ2 := by
  induction As with
  | nil => intro ρ; simp only [List.nil_append, evEs, Out.bind]; cases evEs Bs ρ <;> rfl
  | cons A As ih =>
    intro ρ
    rw [List.cons_append, evEs_cons, evEs_cons]
    cases evE A ρ with
    | stuck => rfl
    | ret x ρ1 =>
      simp only [Out.bind]
      rw [ih]
      cases evEs As ρ1 with
      | stuck => rfl
      | ret xs ρ2 =>
        simp only [Out.bind]
        cases evEs Bs ρ2 <;> rfl
section
variable {X : Cx} {pos : Pos}
def SK (X : Cx) (kws : List Keyword) (m : Sto → Out (List Opd)) : Prop := ∃ t : TA, PK X kws t ∧ SemA X t m
theorem sk_nil : SK X [] (evEs []) := ⟨_, pk_nil, fun {G0 G ρ σ H Q xs ρ'} R h q => by unfold evEs at h; cases h; exact q G H [] (Aft.refl R) .nil⟩
theorem sk_cons {nm : Option Str} {e : Expr} {kp : Pos} {kws : List Keyword} {A : E} {As : List E} (he : SE X e (evE A)) (hk : SK X kws (evEs As)) : SK X (⟨nm, e, kp⟩ :: kws) (evEs (A :: As)) := by
  obtain ⟨ta, pa, sa⟩ := he
  obtain ⟨tb, pb, sb⟩ := hk
  refine ⟨_, pk_cons pa pb, fun {G0 G ρ σ H Q xs ρ'} R h q => ?_⟩
  unfold evEs at h
  obtain ⟨x, ρ1, e1, h⟩ := bind_ret h
  obtain ⟨ys, ρ2, e2, h⟩ := bind_ret h
  cases h
  refine sa R e1 fun G1 H1 v af o => sb af.rel e2 fun G2 H2 vs bf os => ?_
  exact q G2 H2 _ (af.trans bf) (OpdsOk.cons' R af bf o os)
theorem kwn : ∀ {kws : List Keyword} {ks : List Str}, kwNames kws = some ks → (backToKw pos (keywordEach kws X.env)).filterMap (·.1) = ks ∧ (backToKw pos (keywordEach kws X.env)).all (·.1.isSome) = true ∧ (backToKw pos (keywordEach kws X.env)).any (·.1.isNone) = false ∧ ks.length = kws.length
  | [], _, h => by cases h; exact ⟨rfl, rfl, rfl, rfl⟩
  | ⟨some n, v, p⟩ :: r, ks, h => by
    unfold kwNames at h
    obtain ⟨ks', e, rfl⟩ := Option.map_eq_some_iff.mp h
    obtain ⟨h1, h2, h3, h4⟩ := kwn e
    refine ⟨?_, ?_, ?_, by simp [h4]⟩
    · show n :: (backToKw pos (keywordEach r X.env)).filterMap (·.1) = _
      rw [h1]
    · show (true && (backToKw pos (keywordEach r X.env)).all (·.1.isSome)) = true
      rw [h2] <;> rfl
    · show (false || (backToKw pos (keywordEach r X.env)).any (·.1.isNone)) = false
      rw [h3] <;> rfl
  | ⟨none, _, _⟩ :: _, _, h => by cases h
theorem evl : ∀ (As : List E) (ρ ρ' : Sto) (xs : List Opd), evEs As ρ = .ret xs ρ' → xs.length = As.length := fun As => by
  induction As with
  | nil => intro ρ ρ' xs h; unfold evEs at h; cases h; rfl
  | cons A As ih =>
    intro ρ ρ' xs h
    unfold evEs at h
    obtain ⟨x, ρ1, e1, h⟩ := bind_ret h
    obtain ⟨ys, ρ2, e2, h⟩ := bind_ret h
    cases h
    simp [ih _ _ _ e2]
theorem se_callk0 {x : Str} {p : Pos} {kws : List Keyword} {Ks : List E} {ks : List Str} {perm : List Nat} {fi : Fi} {k : Nat} {f : Addr} {fd : FuncData} {ps : List Str} (F : FnG X.prog X.w X.K X.mg X.base k f fd ps (SpecOf X.K fi)) (hr : Room k X.A) (hgu : X.A.guards = some [])
    (hg : Gl X x) (hm : X.mg x = some (.ref f)) (hk : PySem.W.keepIn X.K (.ref f) = true) (hb : KBd X.K fd ps (0, ks, perm)) (nd : perm.Nodup) (hn : kwNames kws = some ks) (hkw : SK X kws (evEs Ks)) (hl' : Ks.length = kws.length) (hdb : (x == ("__debug__" : Str)) = false) :
    SE X (.Call (.Name x p) [] kws pos) (evE (.callk fi Ks perm)) := by
  obtain ⟨tk, pk, sk⟩ := hkw
  obtain ⟨n1, n2, n3, n4⟩ := kwn (X := X) (pos := pos) hn
  refine ⟨fun σ H Q => tk σ H fun zs H2 => zs.length = ks.length ∧ ∃ ws, permD zs perm = some ws ∧ SpecOf X.K fi ws H2 Q, ⟨fun pins s σ H Q I h => ?_⟩, fun {G0 G ρ σ H Q y ρ'} R h q => ?_⟩
  · refine wpAny_Call_Name_kw (ld_glob I hg hm ?_ hdb)
    have pl : ((backTo pos (starEach [] X.env)).any (·.1) || (backToKw pos (keywordEach kws X.env)).any (·.1.isNone)) = false := by rw [n3] <;> rfl
    refine PySem.W.callWith_KW0 (h₀ := X.base) I.ok.mod.kin hk n2 (thn (pk.run pos pins s σ H _ I h) fun ws s2 ⟨zs, H2, I2, r2, l2, vv, hp, sp⟩ => ⟨I2.kIn, ?_⟩) pl
    rw [n1]
    obtain ⟨zz, e1, e2⟩ := hb [] ws rfl (by rw [← r2.length, l2])
    exact run_g F hr hgu I2 (BindsTo.of_eq e2) (vals_perm r2 hp (by simpa using e1)) sp
  · unfold evE at h
    obtain ⟨xs, ρ1, e1, h⟩ := bind_ret h
    obtain ⟨ys, e4, h⟩ := lift_ret h
    refine sk R e1 fun G1 H1 vs af os => ?_
    obtain ⟨ws, e5, ow⟩ := os.perm e4 nd
    exact ⟨by rw [os.len, evl _ _ _ _ e1, hl', n4], ws, e5, callF_ok R af ow h q⟩
theorem se_callk {x : Str} {p : Pos} {es : List Expr} {kws : List Keyword} {As Ks : List E} {ks : List Str} {perm : List Nat} {fi : Fi} {k : Nat} {f : Addr} {fd : FuncData} {ps : List Str} (F : FnG X.prog X.w X.K X.mg X.base k f fd ps (SpecOf X.K fi)) (hr : Room k X.A) (hgu : X.A.guards = some [])
    (hg : Gl X x) (hm : X.mg x = some (.ref f)) (hk : PySem.W.keepIn X.K (.ref f) = true) (hb : KBd X.K fd ps (es.length, ks, perm)) (hne : es ≠ []) (nd : perm.Nodup) (hn : kwNames kws = some ks) (hs : es.all notStar = true) (ha : SA X es (evEs As)) (hkw : SK X kws (evEs Ks)) (hl : As.length = es.length) (hl' : Ks.length = kws.length) (hdb : (x == ("__debug__" : Str)) = false) :
    SE X (.Call (.Name x p) es kws pos) (evE (.callk fi (As ++ Ks) perm)) := by
  obtain ⟨ta, pa, sa⟩ := ha
  obtain ⟨tk, pk, sk⟩ := hkw
  obtain ⟨n1, n2, n3, n4⟩ := kwn (X := X) (pos := pos) hn
  refine ⟨fun σ H Q => ta σ H fun vs H1 => tk σ H1 fun zs H2 => vs.length = es.length ∧ zs.length = ks.length ∧ ∃ ws, permD (vs ++ zs) perm = some ws ∧ SpecOf X.K fi ws H2 Q, ⟨fun pins s σ H Q I h => ?_⟩, fun {G0 G ρ σ H Q y ρ'} R h q => ?_⟩
  · refine wpAny_Call_Name_kw (ld_glob I hg hm ?_ hdb)
    have fin : ∀ {s2 : Shared} {H2 : Hp} {vs zs : List V} {us ws : List Value}, L2.Inv X pins σ H2 s2 → Vals vs us → Vals zs ws → (vs.length = es.length ∧ zs.length = ks.length ∧ ∃ ws, permD (vs ++ zs) perm = some ws ∧ SpecOf X.K fi ws H2 Q) → wpAny (model X.prog X.w) X.A (call (.ref f) us (ks.zip ws)) (EP X pins σ Q) X.xe s2 := by
      intro s2 H2 vs zs us ws I2 r1 r2 ⟨l1, l2, vv, hp, sp⟩
      obtain ⟨zz, e1, e2⟩ := hb us ws (by rw [← r1.length, l1]) (by rw [← r2.length, l2])
      exact run_g F hr hgu I2 (BindsTo.of_eq e2) (vals_perm (r1.append r2) hp e1) sp
    have pl : ((backTo pos (starEach es X.env)).any (·.1) || (backToKw pos (keywordEach kws X.env)).any (·.1.isNone)) = false := by rw [any_plain hs, n3] <;> rfl
    cases es with
    | nil => exact absurd rfl hne
    | cons e es =>
      simp only [List.all_cons, Bool.and_eq_true] at hs
      refine PySem.W.callWith_KW (h₀ := X.base) I.ok.mod.kin hk n2 (thn (pa.run pos pins s σ H _ I h) fun us s1 ⟨vs, H1, I1, r1, q1⟩ => thn (pk.run pos pins s1 σ H1 _ I1 q1) fun ws s2 ⟨zs, H2, I2, r2, q2⟩ => ⟨I2.kIn, ?_⟩) pl (noStar_ok hs.1 es)
      rw [n1]
      exact fin I2 r1 r2 q2
  · unfold evE at h
    rw [evEs_app] at h
    obtain ⟨xs, ρ1, e1, h⟩ := bind_ret h
    obtain ⟨as', ρ2, e2, e1⟩ := bind_ret e1
    obtain ⟨bs', ρ3, e3, e1⟩ := bind_ret e1
    cases e1
    obtain ⟨ys, e4, h⟩ := lift_ret h
    refine sa R e2 fun G1 H1 vs af os => sk af.rel e3 fun G2 H2 zs bf os' => ?_
    have oo := OpdsOk.app R af bf os' os
    obtain ⟨ws, e5, ow⟩ := oo.perm e4 nd
    exact ⟨by rw [os.len, evl _ _ _ _ e2, hl], by rw [os'.len, evl _ _ _ _ e3, hl', n4], ws, e5, callF_ok R (af.trans bf) ow h q⟩
end
/-! ### compiled calls, targets, iterables, expressions -/
theorem distinct_nd : ∀ {p : List Nat}, distinct p = true → p.Nodup
  | [], _ => .nil
  | i :: r, h => by
    unfold distinct at h
    simp only [Bool.and_eq_true, Bool.not_eq_true'] at h
    refine List.nodup_cons.mpr ⟨fun z => ?_, distinct_nd h.2⟩
    have := List.contains_iff_mem.mpr z
    rw [h.1] at this; cases this
section
variable {C : CC} {sc : Scope} {fnb : Str → Bool} {X : Cx} {pos : Pos} {f : Expr → Option E}
theorem mapO_len {α β : Type} {f : α → Option β} : ∀ {xs : List α} {ys : List β}, mapO f xs = some ys → ys.length = xs.length
  | [], _, h => by cases h; rfl
  | x :: xs, ys, h => by
    unfold mapO at h
    obtain ⟨y, e1, h⟩ := Option.bind_eq_some_iff.mp h
    obtain ⟨zs, e2, rfl⟩ := Option.map_eq_some_iff.mp h
    simp [mapO_len e2]
theorem kws_ok (S : Snd X f) : ∀ {kws : List Keyword} {Ks : List E}, mapO f (kwVals kws) = some Ks → SK X kws (evEs Ks) ∧ Ks.length = kws.length
  | [], _, h => by cases h; exact ⟨sk_nil, rfl⟩
  | ⟨n, v, p⟩ :: r, Ks, h => by
    unfold kwVals mapO at h
    obtain ⟨A, e1, h⟩ := Option.bind_eq_some_iff.mp h
    obtain ⟨Bs, e2, rfl⟩ := Option.map_eq_some_iff.mp h
    obtain ⟨h1, h2⟩ := kws_ok S e2
    exact ⟨sk_cons (S _ _ e1).1 h1, by simp [h2]⟩
theorem compCall_ok (g : GoodX C sc fnb X) (S : Snd X f) {p : Pos} {x : Str} {es : List Expr} {kws : List Keyword} {A : E} (h : compCall C sc f x es kws = some A) : SE X (.Call (.Name x p) es kws pos) (evE A) := by
  unfold compCall at h
  obtain ⟨hc, h⟩ := ite_some' h
  simp only [Bool.and_eq_true] at hc
  obtain ⟨h1, h2, h3⟩ := okN_ok hc.1
  have hg := g.gl hc.2
  split at h
  · next e he =>
    obtain ⟨k, fa, fd, ps, m1, m2, m3, m4, m5, m6⟩ := g.fns x e he
    split at h
    · split at h
      · cases h
      · next es0 hne =>
        obtain ⟨As, e1, rfl⟩ := Option.map_eq_some_iff.mp h
        obtain ⟨hs, sa⟩ := compArgs_ok S e1
        cases es with
        | nil => exact absurd rfl (by first | exact hne | exact fun z => hne z)
        | cons a r =>
          simp only [List.all_cons, Bool.and_eq_true] at hs
          exact se_call m5 m4 g.gu hg m1 m2 m3 sa h1 (noStar_ok hs.1) (any_plain hs.2)
    · obtain ⟨ks, e1, h⟩ := Option.bind_eq_some_iff.mp h
      obtain ⟨q, e2, h⟩ := Option.bind_eq_some_iff.mp h
      obtain ⟨As, e3, h⟩ := Option.bind_eq_some_iff.mp h
      obtain ⟨Ks, e4, h⟩ := Option.bind_eq_some_iff.mp h
      obtain ⟨nd, h⟩ := ite_some' h
      cases h
      have mq := List.mem_of_find?_eq_some e2
      have pq := List.find?_some e2
      simp only [Bool.and_eq_true, beq_iff_eq, decide_eq_true_eq] at pq
      obtain ⟨hs, sa⟩ := compArgs_ok S e3
      obtain ⟨sk, lk⟩ := kws_ok S e4
      have la : As.length = es.length := by
        unfold compArgs at e3
        exact mapO_len (ite_some' e3).2
      have kb := m6 q mq
      obtain ⟨q1, q2, q3⟩ := q
      simp only at pq nd kb ⊢
      obtain ⟨rfl, rfl⟩ := pq
      cases es with
      | nil =>
        cases As with
        | nil => exact se_callk0 m5 m4 g.gu hg m1 m2 kb (distinct_nd nd) e1 sk lk h1
        | cons _ _ => cases la
      | cons a r => exact se_callk m5 m4 g.gu hg m1 m2 kb (fun z => nomatch z) (distinct_nd nd) e1 hs sa sk la lk h1
  · obtain ⟨hb, h⟩ := ite_some' h
    split at h
    · exact compBi_ok g S hg (g.bis x (List.contains_iff_mem.mp hb)) h
    · cases h
end
end Rx
set_option Elab.async false
set_option linter.all false
set_option maxHeartbeats 2000000
/-! Rx23: targets, iterables, expressions: the compiled ones are sound -/
namespace Rx
open PySem PySem.Spec PyProof.Rows L2
section
variable {C : CC} {sc : Scope} {fnb : Str → Bool} {X : Cx} {pos : Pos} {f : Expr → Option E}
theorem assignEach_cons {e : Expr} {es : List Expr} {env : Env} (h : notStar e = true) : (assignEach (e :: es) env).map (·.2) = assign e env :: (assignEach es env).map (·.2) := by
  cases e <;> first | rfl | cases h
theorem assignEach_len {env : Env} : ∀ {es : List Expr}, (assignEach es env).length = es.length
  | [] => rfl
  | e :: es => by
    have := assignEach_len (env := env) (es := es)
    cases e <;> (show (assignEach es env).length + 1 = _; rw [this]; rfl)
theorem assignEach_star {env : Env} : ∀ {es : List Expr}, es.all notStar = true → (assignEach es env).findIdx? (·.1) = none
  | [], _ => rfl
  | e :: es, h => by
    simp only [List.all_cons, Bool.and_eq_true] at h
    have ih := assignEach_star (env := env) h.2
    have e1 : assignEach (e :: es) env = (false, assign e env) :: assignEach es env := by
      have h1 := h.1
      cases e <;> first | rfl | cases h1
    rw [e1, List.findIdx?_cons, if_neg Bool.false_ne_true, ih]
    rfl
theorem compTg_star {n : Nat} {e : Expr} {T : Tg} (h : compTg C sc fnb n e = some T) : notStar e = true := by
  cases n with
  | zero => cases h
  | succ n => cases e <;> first | rfl | cases h
theorem sgs_of {n : Nat} (ih : ∀ e T, compTg C sc fnb n e = some T → SG X e T) : ∀ {es : List Expr} {Ts : List Tg}, mapO (compTg C sc fnb n) es = some Ts → SGs X es Ts ∧ es.all notStar = true
  | [], _, h => by cases h; exact ⟨sgs_nil, rfl⟩
  | e :: es, Ts, h => by
    unfold mapO at h
    obtain ⟨T, e1, h⟩ := Option.bind_eq_some_iff.mp h
    obtain ⟨Us, e2, rfl⟩ := Option.map_eq_some_iff.mp h
    obtain ⟨h1, h2⟩ := sgs_of ih e2
    have hs := compTg_star e1
    exact ⟨sgs_cons (ih e T e1) h1 (assignEach_cons hs), by simp [hs, h2]⟩
theorem compTg_ok (g : GoodX C sc fnb X) : ∀ {n : Nat} {e : Expr} {T : Tg}, compTg C sc fnb n e = some T → SG X e T
  | 0, _, _, h => by cases h
  | n + 1, e, T, h => by
    cases e with
    | Name x p =>
      have h : (if (isLoc sc x || (isCell sc x && fnb x)) = true then (ixOf C.N x).map Tg.nm else none) = some T := h
      obtain ⟨hc, h⟩ := ite_some' h
      obtain ⟨i, e1, rfl⟩ := Option.map_eq_some_iff.mp h
      have hi : X.N[i]? = some x := by rw [g.N]; exact ixOf_ok e1
      simp only [Bool.or_eq_true, Bool.and_eq_true] at hc
      rcases hc with hc | ⟨hc, hf⟩
      · have := isLoc_ok hc
        rw [← g.scope] at this
        exact sg_name (by rw [g.N]; exact g.nd) hi (.inl this) (.inr this)
      · have := isCell_ok hc
        rw [← g.scope] at this
        exact sg_name (by rw [g.N]; exact g.nd) hi (.inr this) (.inl (g.fn x hf))
    | Tuple es k p =>
      have h : (mapO (compTg C sc fnb n) es).map Tg.tup = some T := h
      obtain ⟨Ts, e1, rfl⟩ := Option.map_eq_some_iff.mp h
      obtain ⟨h1, h2⟩ := sgs_of (fun e T h => compTg_ok g h) e1
      exact sg_tup g.calm h1 assignEach_len (mapO_len e1) (assignEach_star h2)
    | _ => cases h
theorem isTup_ok {e : Expr} (h : isTup e = true) : ∃ es k p, e = .Tuple es k p := by
  unfold isTup at h
  split at h
  · exact ⟨_, _, _, rfl⟩
  · cases h
theorem isTru_ok {e : Expr} (h : isTru e = true) : ∃ j p, e = .Constant (.bool true) j p := by
  unfold isTru at h
  split at h
  · exact ⟨_, _, rfl⟩
  · cases h
theorem compIt_ok (g : GoodX C sc fnb X) (S : Snd X f) {tg e : Expr} {I : It} (h : compIt C sc f tg e = some I) : SI X tg e (evIt I) ∧ notSet e = true := by
  have seq : ∀ {I : It}, (f e).map .seq = some I → SI X tg e (evIt I) := fun {I} h => by
    obtain ⟨A, e1, rfl⟩ := Option.map_eq_some_iff.mp h
    exact si_seq (S _ _ e1).1
  unfold compIt at h
  split at h
  · next x p es kws q =>
    refine ⟨?_, rfl⟩
    by_cases hc : (inBis C sc x && es.all notStar && (C.fns.lookup x).isNone) = true
    · rw [if_pos hc] at h
      simp only [Bool.and_eq_true] at hc
      obtain ⟨hg, hm⟩ := inBis_ok g hc.1.1
      have hs := hc.1.2
      split at h
      · next a =>
        have na : NoStar a X := noStar_ok (by simpa using hs)
        by_cases e1 : x = "range"
        · rw [if_pos e1] at h
          obtain ⟨A, e2, rfl⟩ := Option.map_eq_some_iff.mp h
          subst e1
          exact si_range1 hg hm (S _ _ e2).1 na
        · rw [if_neg e1] at h
          by_cases e3 : x = "enumerate" ∧ isTup tg = true
          · rw [if_pos e3] at h
            obtain ⟨A, e2, rfl⟩ := Option.map_eq_some_iff.mp h
            obtain ⟨e3, e4⟩ := e3
            obtain ⟨_, _, _, rfl⟩ := isTup_ok e4
            subst e3
            exact si_enum hg hm (S _ _ e2).1 na
          · rw [if_neg e3] at h; exact seq h
      · next a b =>
        simp only [List.all_cons, List.all_nil, Bool.and_true, Bool.and_eq_true] at hs
        have na : NoStar a X := noStar_ok hs.1
        have nb : NoStar b X := noStar_ok hs.2
        have pl : (backTo q (starEach [b] X.env)).any (·.1) = false := any_plain (by simp [hs.2])
        by_cases e1 : x = "range"
        · rw [if_pos e1] at h
          obtain ⟨A, e2, h⟩ := Option.bind_eq_some_iff.mp h
          obtain ⟨B, e3, rfl⟩ := Option.map_eq_some_iff.mp h
          subst e1
          exact si_range2 hg hm (S _ _ e2).1 (S _ _ e3).1 na nb
        · rw [if_neg e1] at h
          by_cases e3 : x = "zip" ∧ isTup tg = true
          · rw [if_pos e3] at h
            obtain ⟨A, e2, h⟩ := Option.bind_eq_some_iff.mp h
            obtain ⟨B, e5, rfl⟩ := Option.map_eq_some_iff.mp h
            obtain ⟨e3, e4⟩ := e3
            obtain ⟨_, _, _, rfl⟩ := isTup_ok e4
            subst e3
            exact si_zip hg hm (S _ _ e2).1 (S _ _ e5).1 na nb pl
          · rw [if_neg e3] at h; exact seq h
      · next a b k v kp =>
        simp only [List.all_cons, List.all_nil, Bool.and_true, Bool.and_eq_true] at hs
        have na : NoStar a X := noStar_ok hs.1
        have nb : NoStar b X := noStar_ok hs.2
        have pl : (backTo q (starEach [b] X.env)).any (·.1) = false := any_plain (by simp [hs.2])
        by_cases e3 : x = "zip" ∧ k = "strict" ∧ isTru v = true ∧ isTup tg = true
        · rw [if_pos e3] at h
          obtain ⟨A, e2, h⟩ := Option.bind_eq_some_iff.mp h
          obtain ⟨B, e5, rfl⟩ := Option.map_eq_some_iff.mp h
          obtain ⟨e3, e6, e7, e4⟩ := e3
          obtain ⟨_, _, _, rfl⟩ := isTup_ok e4
          obtain ⟨_, _, rfl⟩ := isTru_ok e7
          subst e3 e6
          exact si_zips hg hm (S _ _ e2).1 (S _ _ e5).1 na nb pl
        · rw [if_neg e3] at h; cases h
      · exact seq h
    · rw [if_neg hc] at h; exact seq h
  · cases h
  · next h1 h2 =>
    refine ⟨seq h, ?_⟩
    cases e <;> first | rfl | exact absurd rfl (h2 _ _ _)
theorem isFnK_ok {scope : Scope} (h : isFnK scope = true) : scope.kind = .function := by
  unfold isFnK at h
  split at h
  · assumption
  · cases h
theorem subN_ok {a b : List Nat} (h : subN a b = true) : ∀ i ∈ a, i ∈ b := fun i hi => List.contains_iff_mem.mp (List.all_eq_true.mp h i hi)
/-- THE THEOREM of expressions -/
theorem compE_ok : ∀ (n : Nat) {sc : Scope} {fnb : Str → Bool} {X : Cx}, GoodX C sc fnb X → Snd X (compE C n sc fnb)
  | 0, _, _, _, _ => fun e A h => by cases h
  | n + 1, sc, fnb, X, g => fun e A h => by
    have S := compE_ok n g
    have val : valTest e = true → SE X e (evE A) → SE X e (evE A) ∧ (tst e = true → ST X e (evE A)) := fun v s => ⟨s, fun _ => st_val s (valTest_ok v)⟩
    unfold compE at h
    split at h
    · cases h; exact val rfl se_int
    · cases h; exact val rfl se_bool
    · cases h; exact val rfl se_none
    · cases h; exact val rfl se_str
    · next x p =>
      obtain ⟨ho, h⟩ := ite_some' h
      obtain ⟨h1, h2, h3⟩ := okN_ok ho
      refine val rfl ?_
      by_cases hv : visB sc x = true
      · rw [if_pos hv] at h
        obtain ⟨i, e1, rfl⟩ := Option.map_eq_some_iff.mp h
        exact se_var (by rw [g.N]; exact ixOf_ok e1) (g.vis hv) h1 h2
      · rw [if_neg hv] at h
        obtain ⟨hg, h⟩ := ite_some' h
        obtain ⟨d, e1, rfl⟩ := Option.map_eq_some_iff.mp h
        obtain ⟨v, u, m1, m2, m3⟩ := g.consts x d e1
        exact se_glob (g.gl hg) m1 m2 h1 m3
    · obtain ⟨o, e1, h⟩ := Option.bind_eq_some_iff.mp h
      obtain ⟨A', e2, h⟩ := Option.bind_eq_some_iff.mp h
      obtain ⟨B', e3, rfl⟩ := Option.map_eq_some_iff.mp h
      exact val rfl (se_bop (bop_ok e1) (S _ _ e2).1 (S _ _ e3).1)
    · obtain ⟨A', e2, rfl⟩ := Option.map_eq_some_iff.mp h
      exact val rfl (se_neg (S _ _ e2).1)
    · obtain ⟨ht, h⟩ := ite_some' h
      obtain ⟨A', e2, rfl⟩ := Option.map_eq_some_iff.mp h
      exact ⟨se_not (S _ _ e2).1, fun _ => st_not ((S _ _ e2).2 ht)⟩
    · obtain ⟨h1, h2⟩ := compCmp_ok (pos := _) g S h
      exact ⟨h1, fun _ => h2⟩
    · obtain ⟨h1, h2⟩ := compB_ok (pos := _) S h
      exact ⟨h1, fun _ => h2.st⟩
    · obtain ⟨ht, h⟩ := ite_some' h
      obtain ⟨D', e1, h⟩ := Option.bind_eq_some_iff.mp h
      obtain ⟨A', e2, h⟩ := Option.bind_eq_some_iff.mp h
      obtain ⟨B', e3, rfl⟩ := Option.map_eq_some_iff.mp h
      exact ⟨se_ife ((S _ _ e1).2 ht) (S _ _ e2).1 (S _ _ e3).1, fun z => nomatch z⟩
    · exact val rfl (compSub_ok S h)
    · obtain ⟨As, e1, rfl⟩ := Option.map_eq_some_iff.mp h
      exact val rfl (se_tup (compArgs_ok S e1).2)
    · obtain ⟨As, e1, rfl⟩ := Option.map_eq_some_iff.mp h
      exact val rfl (se_lst (compArgs_ok S e1).2)
    · exact val rfl (compCall_ok g S h)
    · next elt tg iter ifs scope p =>
      obtain ⟨hc, h⟩ := ite_some' h
      simp only [Bool.and_eq_true] at hc
      obtain ⟨T, e1, h⟩ := Option.bind_eq_some_iff.mp h
      obtain ⟨hT, h⟩ := ite_some' h
      obtain ⟨I, e2, h⟩ := Option.bind_eq_some_iff.mp h
      obtain ⟨cs, e3, h⟩ := Option.bind_eq_some_iff.mp h
      obtain ⟨A', e4, rfl⟩ := Option.map_eq_some_iff.mp h
      have gb := fun s H c cl fp => g.blk (isFnK_ok hc.1) s H c cl fp
      obtain ⟨si, ns⟩ := compIt_ok g S e2
      refine val rfl (se_lc g.calm (by rw [g.N]; exact g.nd) si (by rw [g.N, g.scope]; exact blkOk_by hc.2) (fun s H c cl fp => compTg_ok (gb s H c cl fp) e1) (fun s H c cl fp => ?_) (fun s H c cl fp => (compE_ok n (gb s H c cl fp) _ _ e4).1) (notSet_for ns) (subN_ok hT))
      split at e3
      · cases e3; exact sts_nil
      · obtain ⟨ht, e3⟩ := ite_some' e3
        obtain ⟨A'', e5, rfl⟩ := Option.map_eq_some_iff.mp e3
        exact sts_one ((compE_ok n (gb s H c cl fp) _ _ e5).2 ht)
      · cases e3
    · cases h
end
end Rx
set_option Elab.async false
set_option linter.all false
set_option maxHeartbeats 2000000
/-! Rx24: statements from their text -/
namespace Rx
open PySem PySem.Spec PyProof.Rows L2
theorem star_any : ∀ {es : List Expr}, es.all notStar = true → (es.any fun | .Starred .. => true | _ => false) = false
  | [], _ => rfl
  | e :: es, h => by
    simp only [List.all_cons, Bool.and_eq_true] at h
    obtain ⟨h1, h2⟩ := h
    rw [List.any_cons, star_any h2, Bool.or_false]
    cases e <;> first | rfl | cases h1
def locAt (sc : Scope) (ts : List Expr) (e : Expr) : Option Str := match e with
  | .Name y q => if (sc.names.lookup y == some .local && q.line == (ts.head?.map (·.pos.line)).getD 0) = true then some y else none
  | _ => none
def pairNames (sc : Scope) (ts : List Expr) : List Str := ts.filterMap (locAt sc ts)
/-- which names a tuple's values are stored to from the right -/
def swS (sc : Scope) (ts vs : List Expr) : Option (Option (List Str)) :=
  if (!(ts.length == 2 || ts.length == 3) || vs.length != ts.length) = true then some none
  else if ((pairNames sc ts).length != ts.length || (pairNames sc ts).eraseDups.length != (pairNames sc ts).length) = true then some none
  else if vs.all (foldedForSure 8) = true then some none
  else if vs.all (constantsAlone 8) = true then none
  else some (some (pairNames sc ts))
theorem swS_ok {sc : Scope} {ts vs : List Expr} {r : Option (List Str)} {env : Env} {kt k2 : Nat} {pt pt2 : Pos} (hs : env.scope = sc) (hk : sc.kind = .function) (ha : vs.all notStar = true) (h : swS sc ts vs = some r) :
    swappedStores [.Tuple ts kt pt] (.Tuple vs k2 pt2) env = pure r := by
  subst hs
  have bk : env.blockKind = .function := by unfold Env.blockKind; rw [hk]; rfl
  have st : ¬ (vs.any fun | .Starred .. => true | _ => false) = true := by rw [star_any ha]; exact Bool.false_ne_true
  have nm : (ts.filterMap fun e => match e with
      | .Name id pos => if env.kindOf id == some .local && pos.line == (ts.head?.map (·.pos.line)).getD 0 then some id else none
      | _ => none) = pairNames env.scope ts := by
    unfold pairNames
    congr 1
  have ff : (ScopeKind.function != ScopeKind.function) = false := rfl
  unfold swS at h
  unfold swappedStores
  simp only [bk, nm, ff, Bool.or_false]
  split at h
  · next c => cases h; exact if_pos c
  · next c =>
    refine (if_neg c).trans ?_
    refine (if_neg st).trans ?_
    split at h
    · next c => cases h; exact if_pos c
    · next c =>
      refine (if_neg c).trans ?_
      split at h
      · next c => cases h; exact if_pos c
      · next c =>
        refine (if_neg c).trans ?_
        split at h
        · cases h
        · next c => cases h; exact if_neg c
def notComp : Expr → Bool
  | .ListComp .. => false
  | .SetComp .. => false
  | .DictComp .. => false
  | _ => true
theorem notComp_sw {e : Expr} {t : Option Expr} {l : Nat} {env : Env} (h : notComp e = true) : swapsWith e t l env = pure false := by
  cases e <;> first | rfl | cases h
theorem sole_sw {e t : Expr} {l : Nat} {env : Env} (h : notComp e = true) : swapsWithSole [t] e l env = pure false := notComp_sw h
theorem noTup_sw {e t : Expr} {env : Env} (h : isTup e = false) : swappedStores [t] e env = pure none := by
  cases e <;> first | (cases t <;> rfl) | cases h
theorem sub_sw {e o i : Expr} {p : Pos} {env : Env} : swappedStores [.Subscript o i p] e env = pure none := by
  cases e <;> rfl
/-- name = [..]: is the name stored while the comprehension's own stand? -/
def swC (sc scope : Scope) (x : Str) (p cp : Pos) : Bool := isLoc sc x && p.line == cp.line && !(scope.names.any fun (n, k) => n == x && (k == .local || k == .cell))
theorem swC_ok {sc scope : Scope} {x : Str} {p cp : Pos} {l : Nat} {elt : Expr} {gens : List Comprehension} {env : Env} (hs : env.scope = sc) (hk : sc.kind = .function) : swapsWith (.ListComp elt gens scope cp) (some (.Name x p)) l env = pure (swC sc scope x p cp) := by
  subst hs
  have bk : (env.blockKind == .function) = true := by unfold Env.blockKind; rw [hk]; rfl
  have kk : (env.kindOf x == some .local) = isLoc env.scope x := by
    unfold isLoc Env.kindOf
    cases List.lookup x env.scope.names with
    | none => rfl
    | some k => cases k <;> rfl
  show pure (env.blockKind == .function && env.kindOf x == some .local && p.line == cp.line && !(scope.names.any fun (n, k) => n == x && (k == .local || k == .cell))) = _
  rw [bk, kk]
  rfl
def stB (C : CC) (sc : Scope) (fnb : Str → Bool) (x : Str) : Option Nat := if isLoc sc x || (isCell sc x && fnb x) then ixOf C.N x else none
def fuelE : Nat := 60
def compPar (C : CC) (sc : Scope) (f : Expr → Option E) (names : List Str) : List Expr → List Expr → Option S
  | [.Name x _, .Name y _], [a, b] => if decide (names = [x, y]) && isLoc sc x && isLoc sc y then (ixOf C.N x).bind fun i => (ixOf C.N y).bind fun j => if i = j then none else (f a).bind fun A => (f b).map fun B => .par [i, j] [A, B] else none
  | [.Name x _, .Name y _, .Name z _], [a, b, c] => if decide (names = [x, y, z]) && isLoc sc x && isLoc sc y && isLoc sc z then (ixOf C.N x).bind fun i => (ixOf C.N y).bind fun j => (ixOf C.N z).bind fun l => if i = j ∨ i = l ∨ j = l then none else
      (f a).bind fun A => (f b).bind fun B => (f c).map fun D => .par [i, j, l] [A, B, D] else none
  | _, _ => none
def compAsg (C : CC) (sc : Scope) (fnb : Str → Bool) (t e : Expr) : Option S := match t with
  | .Name x p => (stB C sc fnb x).bind fun i => match e with
    | .ListComp elt gens scope cp => (compE C fuelE sc fnb (.ListComp elt gens scope cp)).map (.setv i)
    | e => if notComp e then (compE C fuelE sc fnb e).map (.setv i) else none
  | .Tuple ts kt pt => match e with
    | .Tuple vs k2 p2 => if vs.all notStar then (swS sc ts vs).bind fun r => match r with
      | some names => compPar C sc (compE C fuelE sc fnb) names ts vs
      | none => (compTg C sc fnb fuelE (.Tuple ts kt pt)).bind fun T => (compE C fuelE sc fnb (.Tuple vs k2 p2)).map fun A => .sett T A else none
    | e => if notComp e && !isTup e then (compTg C sc fnb fuelE (.Tuple ts kt pt)).bind fun T => (compE C fuelE sc fnb e).map fun A => .sett T A else none
  | .Subscript (.Name x _) ie _ => if notComp e && plainIx ie && okN x && visB sc x then (ixOf C.N x).bind fun i => (compE C fuelE sc fnb ie).bind fun I => (compE C fuelE sc fnb e).map fun A => .seti i I A else none
  | _ => none
def compX (C : CC) (sc : Scope) (fnb : Str → Bool) (e : Expr) : Option S := match e with
  | .Constant (.str _) _ _ => some .pass
  | .Call (.Attribute (.Name x _) at' p2) [a] [] p3 => if notStar a && okN x && visB sc x && p2.endLine == p3.line then (ixOf C.N x).bind fun i => (compE C fuelE sc fnb a).bind fun A => if at' = "append" then some (.app i A) else if at' = "extend" then some (.ext i A) else none else none
  | .Call (.Attribute (.Name x _) at' p2) [] [] p3 => if okN x && visB sc x && p2.endLine == p3.line then (ixOf C.N x).bind fun i => if at' = "reverse" then some (.mt0 i .rev) else if at' = "clear" then some (.mt0 i .clr) else none else none
  | e => if notComp e then (compE C fuelE sc fnb e).map .expr else none
def augOf : Operator → Option Bop
  | .Add => some .add
  | .Sub => some .sub
  | .Mult => some .mul
  | .FloorDiv => some .fdiv
  | .Mod => some .mod
  | _ => none
def compS (C : CC) : Nat → Scope → (Str → Bool) → Stmt → Option S
  | 0, _, _, _ => none
  | n + 1, sc, fnb, st => match st with
    | .Expr e _ => compX C sc fnb e
    | .Assign [t] e _ => compAsg C sc fnb t e
    | .AugAssign (.Name x _) op e _ => (stB C sc fnb x).bind fun i => (augOf op).bind fun o => (compE C fuelE sc fnb e).map fun A => .aug i o A
    | .If c a b _ => if tst c then (compE C fuelE sc fnb c).bind fun D => (mapO (compS C n sc fnb) a).bind fun as => (mapO (compS C n sc fnb) b).map fun bs => .iff D as bs else none
    | .While c b [] _ => if tst c then (compE C fuelE sc fnb c).bind fun D => (mapO (compS C n sc fnb) b).map fun bs => .whl D bs else none
    | .For tg it b [] _ => (compTg C sc fnb fuelE tg).bind fun T => (compIt C sc (compE C fuelE sc fnb) tg it).bind fun I => (mapO (compS C n sc fnb) b).map fun bs => .forr T I bs
    | .Return (some e) _ => (compE C fuelE sc fnb e).map .ret
    | .Return none _ => some .retN
    | .Pass _ => some .pass
    | .Break _ => some .brk
    | .Continue _ => some .cont
    | .Raise _ _ _ => some .never
    | _ => none
section
variable {C : CC} {sc : Scope} {fnb : Str → Bool} {X : Cx} {pos : Pos}
theorem stB_ok (g : GoodX C sc fnb X) {x : Str} {i : Nat} (h : stB C sc fnb x = some i) : X.N[i]? = some x ∧ Loc X.env.scope x ∧ (X.fn x = true ∨ X.env.scope.names.lookup x = some .local) := by
  obtain ⟨hc, h⟩ := ite_some' h
  refine ⟨by rw [g.N]; exact ixOf_ok h, ?_⟩
  simp only [Bool.or_eq_true, Bool.and_eq_true] at hc
  rw [g.scope]
  rcases hc with hc | ⟨hc, hf⟩
  · exact ⟨.inl (isLoc_ok hc), .inr (isLoc_ok hc)⟩
  · exact ⟨.inr (isCell_ok hc), .inl (g.fn x hf)⟩
theorem nd_ok (g : GoodX C sc fnb X) : X.N.Nodup := by rw [g.N]; exact g.nd
theorem loc_ok (g : GoodX C sc fnb X) {x : Str} (h : isLoc sc x = true) : X.env.scope.names.lookup x = some .local := by rw [g.scope]; exact isLoc_ok h
theorem ix_ok (g : GoodX C sc fnb X) {x : Str} {i : Nat} (h : ixOf C.N x = some i) : X.N[i]? = some x := by rw [g.N]; exact ixOf_ok h
theorem compPar_ok (g : GoodX C sc fnb X) {f : Expr → Option E} (S : Snd X f) {names : List Str} {ts vs : List Expr} {kt k2 : Nat} {pt p2 : Pos} {s : Rx.S} (hv : vs.all notStar = true) (hw : swappedStores [.Tuple ts kt pt] (.Tuple vs k2 p2) X.env = pure (some names)) (h : compPar C sc f names ts vs = some s) :
    SS X (.Assign [.Tuple ts kt pt] (.Tuple vs k2 p2) pos) (evS s) := by
  unfold compPar at h
  split at h
  · next x px y py a b =>
    obtain ⟨hc, h⟩ := ite_some' h
    simp only [Bool.and_eq_true, decide_eq_true_eq] at hc
    obtain ⟨i, e1, h⟩ := Option.bind_eq_some_iff.mp h
    obtain ⟨j, e2, h⟩ := Option.bind_eq_some_iff.mp h
    by_cases ij : i = j
    · rw [if_pos ij] at h; cases h
    rw [if_neg ij] at h
    obtain ⟨A, e3, h⟩ := Option.bind_eq_some_iff.mp h
    obtain ⟨B, e4, rfl⟩ := Option.map_eq_some_iff.mp h
    rw [hc.1.1] at hw
    simp only [List.all_cons, List.all_nil, Bool.and_true, Bool.and_eq_true] at hv
    exact ss_par2 g.calm (nd_ok g) (ix_ok g e1) (ix_ok g e2) ij (loc_ok g hc.1.2) (loc_ok g hc.2) (sa_cons (S _ _ e3).1 (noStar_ok hv.1) (sa_cons (S _ _ e4).1 (noStar_ok hv.2) sa_nil)) hw (sole_sw rfl)
  · next x px y py z pz a b c =>
    obtain ⟨hc, h⟩ := ite_some' h
    simp only [Bool.and_eq_true, decide_eq_true_eq] at hc
    obtain ⟨i, e1, h⟩ := Option.bind_eq_some_iff.mp h
    obtain ⟨j, e2, h⟩ := Option.bind_eq_some_iff.mp h
    obtain ⟨l, e2', h⟩ := Option.bind_eq_some_iff.mp h
    by_cases ij : i = j ∨ i = l ∨ j = l
    · rw [if_pos ij] at h; cases h
    rw [if_neg ij] at h
    obtain ⟨A, e3, h⟩ := Option.bind_eq_some_iff.mp h
    obtain ⟨B, e4, h⟩ := Option.bind_eq_some_iff.mp h
    obtain ⟨D, e5, rfl⟩ := Option.map_eq_some_iff.mp h
    rw [hc.1.1.1] at hw
    simp only [List.all_cons, List.all_nil, Bool.and_true, Bool.and_eq_true] at hv
    exact ss_par3 g.calm (nd_ok g) (ix_ok g e1) (ix_ok g e2) (ix_ok g e2') (fun z => ij (.inl z)) (fun z => ij (.inr (.inl z))) (fun z => ij (.inr (.inr z))) (loc_ok g hc.1.1.2) (loc_ok g hc.1.2) (loc_ok g hc.2)
      (sa_cons (S _ _ e3).1 (noStar_ok hv.1) (sa_cons (S _ _ e4).1 (noStar_ok hv.2.1) (sa_cons (S _ _ e5).1 (noStar_ok hv.2.2) sa_nil))) hw (sole_sw rfl)
  · cases h
theorem lc_set (n : Nat) (g : GoodX C sc fnb X) {elt : Expr} {gens : List Comprehension} {scope : Scope} {cp py spos : Pos} {A : E} {i : Nat} {y : Str} (h : compE C (n + 1) sc fnb (.ListComp elt gens scope cp) = some A) (hy : X.N[i]? = some y) (hyl : X.env.scope.names.lookup y = some .local)
    (hsw : swapsWith (.ListComp elt gens scope cp) (some (.Name y py)) spos.line X.env = pure true) : SS X (.Assign [.Name y py] (.ListComp elt gens scope cp) spos) (evS (.setv i A)) := by
  have S := compE_ok n g
  unfold compE at h
  split at h <;> first
    | next elt' tg iter ifs scope' p e0 =>
      cases e0
      obtain ⟨hc, h⟩ := ite_some' h
      simp only [Bool.and_eq_true] at hc
      obtain ⟨T, e1, h⟩ := Option.bind_eq_some_iff.mp h
      obtain ⟨hT, h⟩ := ite_some' h
      obtain ⟨I, e2, h⟩ := Option.bind_eq_some_iff.mp h
      obtain ⟨cs, e3, h⟩ := Option.bind_eq_some_iff.mp h
      obtain ⟨A', e4, rfl⟩ := Option.map_eq_some_iff.mp h
      have gb := fun s H c cl fp => g.blk (isFnK_ok hc.1) s H c cl fp
      obtain ⟨si, ns⟩ := compIt_ok g S e2
      refine ss_setLc g.calm (by rw [g.N]; exact g.nd) hy hyl hsw si (by rw [g.N, g.scope]; exact blkOk_by hc.2) (fun s H c cl fp => compTg_ok (gb s H c cl fp) e1) (fun s H c cl fp => ?_) (fun s H c cl fp => (compE_ok n (gb s H c cl fp) _ _ e4).1) (notSet_for ns) (subN_ok hT)
      split at e3
      · cases e3; exact sts_nil
      · obtain ⟨ht, e3⟩ := ite_some' e3
        obtain ⟨A'', e5, rfl⟩ := Option.map_eq_some_iff.mp e3
        exact sts_one ((compE_ok n (gb s H c cl fp) _ _ e5).2 ht)
      · cases e3
    | next e0 => cases e0
    | cases h
end
end Rx
set_option Elab.async false
set_option linter.all false
set_option maxHeartbeats 2000000
/-! Rx25: compiled statements are sound; a def -/
namespace Rx
open PySem PySem.Spec PyProof.Rows L2
section
variable {C : CC} {sc : Scope} {fnb : Str → Bool} {X : Cx} {pos : Pos}
theorem compAsg_ok (g : GoodX C sc fnb X) {t e : Expr} {s : Rx.S} (h : compAsg C sc fnb t e = some s) : SS X (.Assign [t] e pos) (evS s) := by
  have S : Snd X (compE C fuelE sc fnb) := compE_ok fuelE g
  unfold compAsg at h
  split at h
  · next x p =>
    obtain ⟨i, e1, h⟩ := Option.bind_eq_some_iff.mp h
    obtain ⟨hi, hx, hf⟩ := stB_ok g e1
    split at h
    · next elt gens scope cp _ =>
      obtain ⟨A, e2, rfl⟩ := Option.map_eq_some_iff.mp h
      have sw := swC_ok (x := x) (p := p) (cp := cp) (scope := scope) (l := pos.line) (elt := elt) (gens := gens) (env := X.env) g.scope g.kind
      cases b : swC sc scope x p cp with
      | true =>
        rw [b] at sw
        have hl : isLoc sc x = true := by
          unfold swC at b
          simp only [Bool.and_eq_true] at b
          exact b.1.1
        exact lc_set 59 g e2 hi (loc_ok g hl) sw
      | false =>
        rw [b] at sw
        exact ss_set (nd_ok g) hi hx hf sw (S _ _ e2).1
    · obtain ⟨hn, h⟩ := ite_some' h
      obtain ⟨A, e2, rfl⟩ := Option.map_eq_some_iff.mp h
      exact ss_set (nd_ok g) hi hx hf (notComp_sw hn) (S _ _ e2).1
  · next ts kt pt =>
    split at h
    · next vs k2 p2 =>
      obtain ⟨hv, h⟩ := ite_some' h
      obtain ⟨r, e1, h⟩ := Option.bind_eq_some_iff.mp h
      have sw := swS_ok (kt := kt) (k2 := k2) (pt := pt) (pt2 := p2) g.scope g.kind hv e1
      split at h
      · exact compPar_ok g S hv sw h
      · obtain ⟨T, e2, h⟩ := Option.bind_eq_some_iff.mp h
        obtain ⟨A, e3, rfl⟩ := Option.map_eq_some_iff.mp h
        exact ss_sett (compTg_ok g e2) (S _ _ e3).1 (sole_sw rfl) sw rfl
    · obtain ⟨hn, h⟩ := ite_some' h
      simp only [Bool.and_eq_true, Bool.not_eq_true'] at hn
      obtain ⟨T, e2, h⟩ := Option.bind_eq_some_iff.mp h
      obtain ⟨A, e3, rfl⟩ := Option.map_eq_some_iff.mp h
      exact ss_sett (compTg_ok g e2) (S _ _ e3).1 (sole_sw hn.1) (noTup_sw hn.2) rfl
  · next x p1 ie tp =>
    obtain ⟨hn, h⟩ := ite_some' h
    simp only [Bool.and_eq_true] at hn
    obtain ⟨i, e1, h⟩ := Option.bind_eq_some_iff.mp h
    obtain ⟨I, e2, h⟩ := Option.bind_eq_some_iff.mp h
    obtain ⟨A, e3, rfl⟩ := Option.map_eq_some_iff.mp h
    obtain ⟨n1, n2, n3⟩ := okN_ok hn.1.2
    refine ss_seti (ix_ok g e1) (g.vis hn.2) n1 n2 (S _ _ e3).1 (S _ _ e2).1 (sole_sw hn.1.1.1) sub_sw rfl fun v => ?_
    have hp := hn.1.1.2
    cases ie <;> first | rfl | cases hp
  · cases h
theorem compX_ok (g : GoodX C sc fnb X) {e : Expr} {s : Rx.S} (h : compX C sc fnb e = some s) : SS X (.Expr e pos) (evS s) := by
  have S : Snd X (compE C fuelE sc fnb) := compE_ok fuelE g
  unfold compX at h
  split at h
  · cases h; exact ss_doc
  · next x p1 at' p2 a p3 =>
    obtain ⟨hn, h⟩ := ite_some' h
    simp only [Bool.and_eq_true] at hn
    obtain ⟨i, e1, h⟩ := Option.bind_eq_some_iff.mp h
    obtain ⟨A, e2, h⟩ := Option.bind_eq_some_iff.mp h
    obtain ⟨n1, n2, n3⟩ := okN_ok hn.1.1.2
    have hs : NoStar a X := noStar_ok hn.1.1.1
    by_cases ea : at' = "append"
    · rw [if_pos ea] at h
      cases h
      subst ea
      refine ss_app (ix_ok g e1) (g.vis hn.1.2) n1 n2 (S _ _ e2).1 hs rfl rfl ?_ hn.2
      rw [hs []]
      rfl
    · rw [if_neg ea] at h
      by_cases eb : at' = "extend"
      · rw [if_pos eb] at h
        cases h
        subst eb
        refine ss_ext (ix_ok g e1) (g.vis hn.1.2) n1 n2 (S _ _ e2).1 hs rfl rfl ?_ hn.2
        rw [hs []]
        rfl
      · rw [if_neg eb] at h; cases h
  · next x p1 at' p2 p3 =>
    obtain ⟨hn, h⟩ := ite_some' h
    simp only [Bool.and_eq_true] at hn
    obtain ⟨i, e1, h⟩ := Option.bind_eq_some_iff.mp h
    obtain ⟨n1, n2, n3⟩ := okN_ok hn.1.1
    by_cases ea : at' = "reverse"
    · rw [if_pos ea] at h
      cases h
      subst ea
      exact ss_rev (ix_ok g e1) (g.vis hn.1.2) n1 n2 rfl rfl hn.2
    · rw [if_neg ea] at h
      by_cases eb : at' = "clear"
      · rw [if_pos eb] at h
        cases h
        subst eb
        exact ss_clr (ix_ok g e1) (g.vis hn.1.2) n1 n2 rfl rfl hn.2
      · rw [if_neg eb] at h; cases h
  · obtain ⟨hn, h⟩ := ite_some' h
    obtain ⟨A, e2, rfl⟩ := Option.map_eq_some_iff.mp h
    exact ss_expr (S _ _ e2).1 (notComp_sw hn)
theorem aug_ok {op : Operator} {o : Bop} (h : augOf op = some o) : OpA X op o := by
  cases op <;> first
    | (cases h; exact opA_add)
    | (cases h; exact opA_sub)
    | (cases h; exact opA_mul)
    | (cases h; exact opA_fdiv)
    | (cases h; exact opA_mod)
    | cases h
theorem sb_of {f : Stmt → Option Rx.S} (ih : ∀ st s, f st = some s → SS X st (evS s)) : ∀ {sts : List Stmt} {ss : List Rx.S}, mapO f sts = some ss → SB X sts (evSs ss)
  | [], _, h => by cases h; exact sb_nil
  | st :: sts, ss, h => by
    unfold mapO at h
    obtain ⟨s, e1, h⟩ := Option.bind_eq_some_iff.mp h
    obtain ⟨rs, e2, rfl⟩ := Option.map_eq_some_iff.mp h
    exact sb_cons (ih st s e1) (sb_of ih e2)
theorem compS_ok (g : GoodX C sc fnb X) : ∀ (n : Nat) (st : Stmt) (s : Rx.S), compS C n sc fnb st = some s → SS X st (evS s)
  | 0, _, _, h => by cases h
  | n + 1, st, s, h => by
    have S : Snd X (compE C fuelE sc fnb) := compE_ok fuelE g
    have B : ∀ {sts : List Stmt} {ss : List Rx.S}, mapO (compS C n sc fnb) sts = some ss → SB X sts (evSs ss) := fun h => sb_of (compS_ok g n) h
    unfold compS at h
    split at h
    · exact compX_ok g h
    · exact compAsg_ok g h
    · obtain ⟨i, e1, h⟩ := Option.bind_eq_some_iff.mp h
      obtain ⟨o, e2, h⟩ := Option.bind_eq_some_iff.mp h
      obtain ⟨A, e3, rfl⟩ := Option.map_eq_some_iff.mp h
      obtain ⟨hi, hx, hf⟩ := stB_ok g e1
      exact ss_aug (nd_ok g) hi hx hf (aug_ok e2) (S _ _ e3).1
    · obtain ⟨ht, h⟩ := ite_some' h
      obtain ⟨D, e1, h⟩ := Option.bind_eq_some_iff.mp h
      obtain ⟨as, e2, h⟩ := Option.bind_eq_some_iff.mp h
      obtain ⟨bs, e3, rfl⟩ := Option.map_eq_some_iff.mp h
      exact ss_if ((S _ _ e1).2 ht) (B e2) (B e3)
    · obtain ⟨ht, h⟩ := ite_some' h
      obtain ⟨D, e1, h⟩ := Option.bind_eq_some_iff.mp h
      obtain ⟨bs, e3, rfl⟩ := Option.map_eq_some_iff.mp h
      exact ss_whl g.po ((S _ _ e1).2 ht) (B e3)
    · obtain ⟨T, e1, h⟩ := Option.bind_eq_some_iff.mp h
      obtain ⟨I, e2, h⟩ := Option.bind_eq_some_iff.mp h
      obtain ⟨bs, e3, rfl⟩ := Option.map_eq_some_iff.mp h
      obtain ⟨si, ns⟩ := compIt_ok g S e2
      exact ss_for g.po g.calm si (compTg_ok g e1) (B e3) (notSet_for ns)
    · obtain ⟨A, e1, rfl⟩ := Option.map_eq_some_iff.mp h
      exact ss_ret (S _ _ e1).1
    · cases h; exact ss_retN
    · cases h; exact ss_pass
    · cases h; exact ss_brk
    · cases h; exact ss_cont
    · cases h; exact ss_never
    · cases h
end
/-! ### a def of the text -/
/-- what the module holds where a def of level k runs -/
structure Tops (C : CC) (P : Program) (w : World) (K : PySem.W.Frag) (mg : Str → Option Value) (base : Heap) (k : Nat) : Prop where
  fns : ∀ x e, C.fns.lookup x = some e → ∃ (j : Nat) (f : Addr) (fd : FuncData) (ps : List Str), mg x = some (.ref f) ∧ PySem.W.keepIn K (.ref f) = true ∧ Binds K fd ps [] ∧ j ≤ k ∧ FnG P w K mg base j f fd ps (SpecOf K e.fi) ∧ ∀ q ∈ e.kws, KBd K fd ps q
  consts : ∀ x d, C.consts.lookup x = some d → ∃ v u, mg x = some u ∧ RelV v u ∧ ∀ G, Dp K G v d
  bis : ∀ x ∈ C.bis, mg x = none
def fuelS : Nat := 20
def compDef (C : CC) (st : Stmt) : Option (List Rx.S) := if isFnK (defScope st) then mapO (compS C fuelS (defScope st) (fun _ => true)) (defBody st) else none
theorem def_ok {P : Program} {w : World} {K : PySem.W.Frag} {mg : Str → Option Value} {base : Heap} {C : CC} {x qual : Str} {st : Stmt} {f : Addr} {fd : FuncData} {ps : List Str} {k : Nat} {ms : List Bool} {bs : List Rx.S} (F : Fun K x qual st f fd) (S : FnScope C.N ps (defScope st))
    (T : Tops C P w K mg base k) (hm : ms.length = ps.length) (hc : compDef C st = some bs) : FnG P w K mg base (k + 1) f fd ps (SpecOf K ⟨ms, evDef C.N.length bs⟩) := by
  obtain ⟨hk, hc⟩ := ite_some' hc
  refine fnG_of F S hm (fun _ => rfl) fun cdv A outer s H hr hgu => ?_
  have g : GoodX C (defScope st) (fun _ => true) (cxOf CX0 P w K mg base C.N qual (defScope st) f cdv A outer s H E0).nox := by
    refine ⟨rfl, isFnK_ok hk, rfl, S.nd, rfl, ?_, ?_, rfl, fun _ _ => rfl, fun y e he => ?_, T.consts, T.bis⟩
    · have := hr.un
      show (A.deeper _).units + 70 < cLine
      omega
    · exact hgu
    · obtain ⟨j, f', fd', ps', m1, m2, m3, m4, m5, m6⟩ := T.fns y e he
      exact ⟨j, f', fd', ps', m1, m2, m3, hr.mono m4, m5, m6⟩
  exact sb_of (compS_ok g fuelS) hc
end Rx
set_option Elab.async false
set_option linter.all false
set_option maxHeartbeats 2000000
/-! Rx26: the law's own end -/
namespace Rx
open PySem PySem.Spec PyProof.Rows L2
/-- the one argument of a law: its numbers -/
def lawArg (ns : List Int) : Sto := [some (.frz (.list (ns.map .int)))]
/-- what a law is to tell -/
def LawSays (fi : Fi) (n : Nat) : Prop := ∀ ns : List Int, ns.length ≤ n → ∃ ρo, fi.sf (lawArg ns) = .ret (.frz (.bool true)) ρo
theorem dpAll_ints {K : PySem.W.Frag} {H : Hp} : ∀ ns : List Int, DpAll K H (ns.map V.int) (ns.map .int)
  | [] => .nil
  | n :: ns => .cons (.int n) (dpAll_ints ns)
theorem law_spec {K : PySem.W.Frag} {fi : Fi} {n : Nat} (hm : fi.modes.length = 1) (h : LawSays fi n) {ns : List Int} {a : Addr} {H : Hp} (hl : ns.length ≤ n) (hS : SqL K H a (ns.map V.int)) : SpecOf K fi [.ref a] H fun v _ => v = .bl true := by
  obtain ⟨ρo, e⟩ := h ns hl
  refine ⟨hm.symm, H, lawArg ns, _, ρo, ⟨Sub.refl _, Sub.refl _, rfl, fun i s ei => ?_, fun i j p hi => ?_⟩, fun i => ?_, e, fun v G' H' _ _ _ hv => ?_⟩
  · cases i with
    | zero => cases ei; exact ⟨_, rfl, .lst hS (dpAll_ints ns)⟩
    | succ i => simp [getS, lawArg] at ei
  · cases i with
    | zero => simp [mkk, getS, lawArg] at hi
    | succ i => simp [mkk, getS, lawArg] at hi
  · cases i with
    | zero => simp [mkk, getS, lawArg]
    | succ i => simp [mkk, getS, lawArg]
  · have hv : Dp K G' v (.bool true) := hv
    cases hv
    rfl
section
variable {P : Program} {w : World} {K : PySem.W.Frag} {mg mb : Str → Option Value} {k n : Nat} {fa a : Addr} {fd : FuncData} {x : Str} {fi : Fi} {s1 : Shared} {vs : List Value} {ns : List Int}
theorem law_end (kx : K.In s1.heap) (gn : s1.heap.Ns mainGlobals mg) (bn : s1.heap.Ns builtinsNs mb) (bb : ∀ y : Str, y ≠ "__name__" → mb y = bootBuiltins y) (nl : s1.heap.NoLimit) (g0 : s1.gens = #[]) (sc : s1.heap.get? a = some { cls := .type "list", data := .seq vs.toArray })
    (vi : IntsAre vs ns) (l1 : ns.length ≤ sizeLine) (l2 : ns.length ≤ n) (ro : Room k callerA) (F : ∀ base : Heap, K.In base → base.Ns mainGlobals mg → FnG P w K mg base k fa fd [x] (SpecOf K fi)) (bi : ∀ (s : Shared) (u : Value), BindsTo s fd ⟨[u], []⟩ [(x, u)]) (hm : fi.modes.length = 1) (says : LawSays fi n) :
    codeAny (model P w) callerA (.call (.ref fa) ⟨[.ref a], []⟩) (fun r s' => r = .ok (.ret (.bool true)) ∧ OldK s1.heap s'.heap ∧ s'.os = s1.os ∧ AllBare s'.gens) s1 := by
  have vv := vals_ints vi
  have vl := vi.length
  have main : ∀ H : Hp, (∀ b, H b = none ∨ b = a ∧ ∃ o ys, H b = some (.frz o (.lst ys))) → SqL K H a (ns.map V.int) → L2.HOk P w H s1.heap → (H a ≠ none → K.lookup a = none) →
      codeAny (model P w) callerA (.call (.ref fa) ⟨[.ref a], []⟩) (fun r s' => r = .ok (.ret (.bool true)) ∧ OldK s1.heap s'.heap ∧ s'.os = s1.os ∧ AllBare s'.gens) s1 := by
    intro H only sq ok ka
    have un : ∀ {b}, b ≠ a → H b = none := fun {b} ne => (only b).elim id fun z => absurd z.1 ne
    have dict_un : ∀ {b o es ep}, s1.heap.get? b = some o → o.data = .dict es ep → H b = none := fun {b o es ep} e d => un fun z => by
      rw [z, sc] at e
      cases e
      exact nomatch (show Data.seq vs.toArray _ = Data.dict es ep from d)
    have ns_up : ∀ {b m}, s1.heap.Ns b m → (hidT s1.heap H).Ns b m := fun {b m} h => by
      obtain ⟨o, es, ep, e, d, r⟩ := h
      exact ⟨o, es, ep, hidT_get e (dict_un e d), d, r⟩
    have kin : K.In (hidT s1.heap H) := fun b o e => hidT_get (kx b o e) (by
      by_cases z : b = a
      · cases q : H b with
        | none => rfl
        | some u => rw [z] at q e; rw [ka (by rw [q]; exact fun y => nomatch y)] at e; cases e
      · exact un z)
    obtain ⟨mc, c1, c2⟩ := nl
    have env : Env0 P w K mg (hidT s1.heap H) callerA [] s1 H :=
      ⟨rfl, ⟨kin, ns_up gn, ⟨mb, ns_up bn, bb⟩, ⟨mc, ns_up c1, c2⟩⟩, fun b o e => of_hidT e, Nat.le_of_eq (hidT_size _ _), trivial, fun b z => (nomatch (show b ∈ ([] : List Addr) from z)), ok, .of_eq g0⟩
    have run := (F _ kin (ns_up gn)).run callerA [] s1 H ⟨[.ref a], []⟩ [.ref a] [.ref a] _ ro rfl env (bi s1 (.ref a)) (.cons rfl .nil) (law_spec hm says l2 sq)
    refine codeAny_mono run fun r s' h => ?_
    match r, h with
    | .ok (.ret u), h =>
      obtain ⟨v, H', os, bare, uu, ok', r', rfl⟩ := h
      obtain rfl : u = Value.bool true := r'
      refine ⟨rfl, OldK.of_keep fun b o e => ?_, os, bare⟩
      rcases only b with q | ⟨_, ob, ys, q⟩
      · exact uu.keep b o e q (fun z => (nomatch (show b ∈ ([] : List Addr) from z))) (by simp)
      · have e1 := (ok b _ q).1
        have e2 := (ok' b _ (uu.frzs b ob _ q)).1
        rw [e] at e1
        cases e1
        exact e2
    | .ok .next, h => exact False.elim h
    | .ok .brk, h => exact False.elim h
    | .ok .cont, h => exact False.elim h
    | .error e, h => exact False.elim h
  cases q : K.lookup a with
  | some o =>
    have e := kx a o q
    rw [sc] at e
    cases e
    refine main (fun _ => none) (fun _ => .inl rfl) (.inr ⟨_, vs.toArray, _, q, rfl, rfl, rfl, by rw [List.size_toArray, vl]; exact l1, by simpa using vv⟩) (fun b u z => nomatch (show (none : Option HO) = some u from z)) fun z => absurd rfl z
  | none =>
    let H : Hp := fun b => if b = a then some (.frz { cls := .type "list", data := .seq vs.toArray } (.lst (ns.map V.int))) else none
    have Ha : H a = _ := if_pos rfl
    have Hn : ∀ {b}, b ≠ a → H b = none := fun ne => if_neg ne
    refine main H (fun b => ?_) (.inl (.inr ⟨_, Ha⟩)) (fun b u z => ?_) fun _ => q
    · by_cases z : b = a
      · exact .inr ⟨z, _, _, by rw [z]; exact Ha⟩
      · exact .inl (Hn z)
    · by_cases y : b = a
      · subst y
        rw [Ha] at z
        cases z
        exact ⟨sc, by rw [List.length_map]; exact l1, vs, _, vv, sc⟩
      · rw [Hn y] at z; cases z
end
theorem walk_end {l : PySem.W.OpenLaw} {n k : Nat} {q : Program} {loose : List Str} {XP : (Str → Option Value) → Heap → Prop} {YP : World → Heap → Prop} {d : DefRec} {K : Params → PySem.W.Frag} {fi : Fi} {x : Str} (hn : l.most = some n) (hn2 : n ≤ sizeLine) (hdf : d.params.defaults = []) (hr : Room k callerA)
    (hY : ∀ (w : World) (h : Heap), YP w h → (K w.params).In h)
    (F : ∀ (w : World) (mg : Str → Option Value) (fa : Addr) (h : Heap), (K w.params).In h → h.Ns mainGlobals mg → mg d.name = some (.ref fa) → ∃ fd : FuncData, (∀ (s : Shared) (u : Value), BindsTo s fd ⟨[u], []⟩ [(x, u)]) ∧
        ∀ base : Heap, (K w.params).In base → base.Ns mainGlobals mg → FnG l.prog w (K w.params) mg base k fa fd [x] (SpecOf (K w.params) fi)) (hm : fi.modes.length = 1) (says : LawSays fi n) :
    PySem.W.WalkO q loose XP YP l.row.toRowW d [] (fun f vs => PySem.call f vs) := by
  refine Att.attach_call hn hdf fun w s₀ s₁ mg mb fa o pm cd doc a vs ns G Y ho hd hcd hmg hobj hints hlen hg => ?_
  have kx := hY w _ Y
  obtain ⟨fd, hb, hF⟩ := F w mg fa _ kx G.T.g hmg
  exact law_end kx G.T.g G.T.b G.T.builtins G.T.nolimit hg hobj hints (Nat.le_trans hlen hn2) hlen hr hF hb hm says
end Rx
namespace Rx
open PySem PySem.Spec PyProof.Rows L2
/-! ### tables of defs -/
theorem all_nil {α : Type} {Q : α → Prop} : ∀ p ∈ ([] : List α), Q p := fun p hp => nomatch hp
theorem all_cons {α : Type} {Q : α → Prop} {a : α} {l : List α} (h : Q a) (t : ∀ p ∈ l, Q p) : ∀ p ∈ a :: l, Q p := fun p hp => (List.mem_cons.mp hp).elim (fun e => e ▸ h) (t p)
def Ent (P : Program) (w : World) (K : PySem.W.Frag) (mg : Str → Option Value) (base : Heap) (k : Nat) (x : Str) (e : FnE) : Prop :=
  ∃ (j : Nat) (f : Addr) (fd : FuncData) (ps : List Str), mg x = some (.ref f) ∧ PySem.W.keepIn K (.ref f) = true ∧ Binds K fd ps [] ∧ j ≤ k ∧ FnG P w K mg base j f fd ps (SpecOf K e.fi) ∧ ∀ q ∈ e.kws, KBd K fd ps q
theorem Ent.mono {P : Program} {w : World} {K : PySem.W.Frag} {mg : Str → Option Value} {base : Heap} {k k' : Nat} {x : Str} {e : FnE} (h : Ent P w K mg base k x e) (l : k ≤ k') : Ent P w K mg base k' x e := by
  obtain ⟨j, f, fd, ps, h1, h2, h3, h4, h5⟩ := h
  exact ⟨j, f, fd, ps, h1, h2, h3, Nat.le_trans h4 l, h5⟩
theorem lookup_all {α : Type} {Q : Str → α → Prop} : ∀ {l : List (Str × α)}, (∀ p ∈ l, Q p.1 p.2) → ∀ x e, l.lookup x = some e → Q x e
  | [], _, _, _, h => nomatch h
  | (y, a) :: l, t, x, e, h => by
    rw [List.lookup_cons] at h
    split at h
    · next c =>
      cases h
      rw [eq_of_beq c]
      exact t _ List.mem_cons_self
    · exact lookup_all (fun p hp => t p (List.mem_cons_of_mem _ hp)) x e h
theorem tops_of {P : Program} {w : World} {K : PySem.W.Frag} {mg : Str → Option Value} {base : Heap} {k : Nat} {C : CC} (h1 : ∀ p ∈ C.fns, Ent P w K mg base k p.1 p.2) (h2 : ∀ p ∈ C.consts, ∃ v u, mg p.1 = some u ∧ RelV v u ∧ ∀ G, Dp K G v p.2) (h3 : ∀ x ∈ C.bis, mg x = none) : Tops C P w K mg base k :=
  ⟨lookup_all h1, lookup_all h2, h3⟩
end Rx
set_option Elab.async false
set_option linter.all false
/-! Rx27: slots by place (printed by mk_ix.py) -/
namespace Rx
open PySem PySem.Spec L2
theorem getS_s (x : Option Sl) (ρ : Sto) (k : Nat) : getS (x :: ρ) (k + 1) = getS ρ k := by simp [getS]
theorem getS_z (x : Option Sl) (ρ : Sto) : getS (x :: ρ) 0 = x := by simp [getS]
theorem set_s (x : Option Sl) (ρ : Sto) (k : Nat) (y : Option Sl) : List.set (x :: ρ) (k + 1) y = x :: List.set ρ k y := rfl
/-- a step ends well, and Q holds behind it -/
def wp {α : Type} (o : Out α) (Q : α → Sto → Prop) : Prop := match o with
  | .stuck => False
  | .ret a ρ => Q a ρ
theorem wp_ret {α : Type} (a : α) (ρ : Sto) (Q : α → Sto → Prop) : wp (.ret a ρ) Q = Q a ρ := rfl
theorem wp_bind {α β : Type} (o : Out α) (f : α → Sto → Out β) (Q : β → Sto → Prop) : wp (o.bind f) Q = wp o fun a ρ => wp (f a ρ) Q := by cases o <;> rfl
theorem wp_mono {α : Type} {o : Out α} {Q Q' : α → Sto → Prop} (h : wp o Q) (m : ∀ a ρ, Q a ρ → Q' a ρ) : wp o Q' := by cases o with
  | stuck => exact h
  | ret a ρ => exact m a ρ h
theorem wp_eq {α : Type} {o : Out α} {a : α} {ρ : Sto} (h : o = .ret a ρ) (Q : α → Sto → Prop) : wp o Q = Q a ρ := by rw [h]; rfl
theorem wp_out {α : Type} {o : Out α} {Q : α → Sto → Prop} (h : wp o Q) : ∃ a ρ, o = .ret a ρ ∧ Q a ρ := by cases o with
  | stuck => exact h.elim
  | ret a ρ => exact ⟨a, ρ, rfl, h⟩
theorem wp_in {α : Type} {o : Out α} {a : α} {ρ : Sto} {Q : α → Sto → Prop} (h : o = .ret a ρ) (q : Q a ρ) : wp o Q := by rw [h]; exact q
/-- a pure partial step -/
def wl {α : Type} (o : Option α) (K : α → Prop) : Prop := match o with
  | none => False
  | some a => K a
theorem wl_some {α : Type} (a : α) (K : α → Prop) : wl (some a) K = K a := rfl
theorem wp_lift {α β : Type} (o : Option α) (f : α → Out β) (Q : β → Sto → Prop) : wp (lift o f) Q = wl o fun a => wp (f a) Q := by cases o <;> rfl
theorem wl_bind {α β : Type} (o : Option α) (f : α → Option β) (K : β → Prop) : wl (o.bind f) K = wl o fun a => wl (f a) K := by cases o <;> rfl
theorem wl_map {α β : Type} (o : Option α) (f : α → β) (K : β → Prop) : wl (o.map f) K = wl o fun a => K (f a) := by cases o <;> rfl
def wE (e : E) (ρ : Sto) (Q : Opd → Sto → Prop) : Prop := wp (evE e ρ) Q
/-- what a variable gives -/
def wV (s : Option Sl) (i : Nat) (ρ : Sto) (Q : Opd → Sto → Prop) : Prop := match s with
  | some (.frz d) => Q (.val (.frz d)) ρ
  | some (.tmp d) => Q (.val (.frz d)) ρ
  | some (.mut _ _ _) => Q (.slot i) ρ
  | none => False
theorem wE_var (i : Nat) (ρ : Sto) (Q : Opd → Sto → Prop) : wE (.var i) ρ Q = wV (getS ρ i) i ρ Q := by
  unfold wE wV
  simp only [evE]
  cases getS ρ i with
  | none => rfl
  | some s => cases s <;> rfl
theorem G_0 (a0 : Option Sl) (ρ : Sto) : getS (a0 :: ρ) 0 = a0 := getS_z _ _
theorem L_0 {α : Type} (a0 y : α) (ρ : List α) : List.set (a0 :: ρ) 0 y = y :: ρ := Eq.trans rfl rfl
theorem Vf_0 (d : D) (ρ : Sto) (Q : Opd → Sto → Prop) : wE (.var 0) (some (.frz d) :: ρ) Q = Q (.val (.frz d)) (some (.frz d) :: ρ) := by rw [wE_var, G_0]; rfl
theorem Vt_0 (d : D) (ρ : Sto) (Q : Opd → Sto → Prop) : wE (.var 0) (some (.tmp d) :: ρ) Q = Q (.val (.frz d)) (some (.tmp d) :: ρ) := by rw [wE_var, G_0]; rfl
theorem Vm_0 (m : Md) (b : Bool) (l : List D) (ρ : Sto) (Q : Opd → Sto → Prop) : wE (.var 0) (some (.mut m b l) :: ρ) Q = Q (.slot 0) (some (.mut m b l) :: ρ) := by rw [wE_var, G_0]; rfl
theorem G_1 (a0 a1 : Option Sl) (ρ : Sto) : getS (a0 :: a1 :: ρ) 1 = a1 := (getS_s _ _ _).trans (G_0 a1 ρ)
theorem L_1 {α : Type} (a0 a1 y : α) (ρ : List α) : List.set (a0 :: a1 :: ρ) 1 y = a0 :: y :: ρ := Eq.trans rfl rfl
theorem Vf_1 (a0 : Option Sl) (d : D) (ρ : Sto) (Q : Opd → Sto → Prop) : wE (.var 1) (a0 :: some (.frz d) :: ρ) Q = Q (.val (.frz d)) (a0 :: some (.frz d) :: ρ) := by rw [wE_var, G_1]; rfl
theorem Vt_1 (a0 : Option Sl) (d : D) (ρ : Sto) (Q : Opd → Sto → Prop) : wE (.var 1) (a0 :: some (.tmp d) :: ρ) Q = Q (.val (.frz d)) (a0 :: some (.tmp d) :: ρ) := by rw [wE_var, G_1]; rfl
theorem Vm_1 (a0 : Option Sl) (m : Md) (b : Bool) (l : List D) (ρ : Sto) (Q : Opd → Sto → Prop) : wE (.var 1) (a0 :: some (.mut m b l) :: ρ) Q = Q (.slot 1) (a0 :: some (.mut m b l) :: ρ) := by rw [wE_var, G_1]; rfl
theorem G_2 (a0 a1 a2 : Option Sl) (ρ : Sto) : getS (a0 :: a1 :: a2 :: ρ) 2 = a2 := (getS_s _ _ _).trans (G_1 a1 a2 ρ)
theorem L_2 {α : Type} (a0 a1 a2 y : α) (ρ : List α) : List.set (a0 :: a1 :: a2 :: ρ) 2 y = a0 :: a1 :: y :: ρ := Eq.trans rfl rfl
theorem Vf_2 (a0 a1 : Option Sl) (d : D) (ρ : Sto) (Q : Opd → Sto → Prop) : wE (.var 2) (a0 :: a1 :: some (.frz d) :: ρ) Q = Q (.val (.frz d)) (a0 :: a1 :: some (.frz d) :: ρ) := by rw [wE_var, G_2]; rfl
theorem Vt_2 (a0 a1 : Option Sl) (d : D) (ρ : Sto) (Q : Opd → Sto → Prop) : wE (.var 2) (a0 :: a1 :: some (.tmp d) :: ρ) Q = Q (.val (.frz d)) (a0 :: a1 :: some (.tmp d) :: ρ) := by rw [wE_var, G_2]; rfl
theorem Vm_2 (a0 a1 : Option Sl) (m : Md) (b : Bool) (l : List D) (ρ : Sto) (Q : Opd → Sto → Prop) : wE (.var 2) (a0 :: a1 :: some (.mut m b l) :: ρ) Q = Q (.slot 2) (a0 :: a1 :: some (.mut m b l) :: ρ) := by rw [wE_var, G_2]; rfl
theorem G_3 (a0 a1 a2 a3 : Option Sl) (ρ : Sto) : getS (a0 :: a1 :: a2 :: a3 :: ρ) 3 = a3 := (getS_s _ _ _).trans (G_2 a1 a2 a3 ρ)
theorem L_3 {α : Type} (a0 a1 a2 a3 y : α) (ρ : List α) : List.set (a0 :: a1 :: a2 :: a3 :: ρ) 3 y = a0 :: a1 :: a2 :: y :: ρ := Eq.trans rfl rfl
theorem Vf_3 (a0 a1 a2 : Option Sl) (d : D) (ρ : Sto) (Q : Opd → Sto → Prop) : wE (.var 3) (a0 :: a1 :: a2 :: some (.frz d) :: ρ) Q = Q (.val (.frz d)) (a0 :: a1 :: a2 :: some (.frz d) :: ρ) := by rw [wE_var, G_3]; rfl
theorem Vt_3 (a0 a1 a2 : Option Sl) (d : D) (ρ : Sto) (Q : Opd → Sto → Prop) : wE (.var 3) (a0 :: a1 :: a2 :: some (.tmp d) :: ρ) Q = Q (.val (.frz d)) (a0 :: a1 :: a2 :: some (.tmp d) :: ρ) := by rw [wE_var, G_3]; rfl
theorem Vm_3 (a0 a1 a2 : Option Sl) (m : Md) (b : Bool) (l : List D) (ρ : Sto) (Q : Opd → Sto → Prop) : wE (.var 3) (a0 :: a1 :: a2 :: some (.mut m b l) :: ρ) Q = Q (.slot 3) (a0 :: a1 :: a2 :: some (.mut m b l) :: ρ) := by rw [wE_var, G_3]; rfl
theorem G_4 (a0 a1 a2 a3 a4 : Option Sl) (ρ : Sto) : getS (a0 :: a1 :: a2 :: a3 :: a4 :: ρ) 4 = a4 := (getS_s _ _ _).trans (G_3 a1 a2 a3 a4 ρ)
theorem L_4 {α : Type} (a0 a1 a2 a3 a4 y : α) (ρ : List α) : List.set (a0 :: a1 :: a2 :: a3 :: a4 :: ρ) 4 y = a0 :: a1 :: a2 :: a3 :: y :: ρ := Eq.trans rfl rfl
theorem Vf_4 (a0 a1 a2 a3 : Option Sl) (d : D) (ρ : Sto) (Q : Opd → Sto → Prop) : wE (.var 4) (a0 :: a1 :: a2 :: a3 :: some (.frz d) :: ρ) Q = Q (.val (.frz d)) (a0 :: a1 :: a2 :: a3 :: some (.frz d) :: ρ) := by rw [wE_var, G_4]; rfl
theorem Vt_4 (a0 a1 a2 a3 : Option Sl) (d : D) (ρ : Sto) (Q : Opd → Sto → Prop) : wE (.var 4) (a0 :: a1 :: a2 :: a3 :: some (.tmp d) :: ρ) Q = Q (.val (.frz d)) (a0 :: a1 :: a2 :: a3 :: some (.tmp d) :: ρ) := by rw [wE_var, G_4]; rfl
theorem Vm_4 (a0 a1 a2 a3 : Option Sl) (m : Md) (b : Bool) (l : List D) (ρ : Sto) (Q : Opd → Sto → Prop) : wE (.var 4) (a0 :: a1 :: a2 :: a3 :: some (.mut m b l) :: ρ) Q = Q (.slot 4) (a0 :: a1 :: a2 :: a3 :: some (.mut m b l) :: ρ) := by rw [wE_var, G_4]; rfl
theorem G_5 (a0 a1 a2 a3 a4 a5 : Option Sl) (ρ : Sto) : getS (a0 :: a1 :: a2 :: a3 :: a4 :: a5 :: ρ) 5 = a5 := (getS_s _ _ _).trans (G_4 a1 a2 a3 a4 a5 ρ)
theorem L_5 {α : Type} (a0 a1 a2 a3 a4 a5 y : α) (ρ : List α) : List.set (a0 :: a1 :: a2 :: a3 :: a4 :: a5 :: ρ) 5 y = a0 :: a1 :: a2 :: a3 :: a4 :: y :: ρ := Eq.trans rfl rfl
theorem Vf_5 (a0 a1 a2 a3 a4 : Option Sl) (d : D) (ρ : Sto) (Q : Opd → Sto → Prop) : wE (.var 5) (a0 :: a1 :: a2 :: a3 :: a4 :: some (.frz d) :: ρ) Q = Q (.val (.frz d)) (a0 :: a1 :: a2 :: a3 :: a4 :: some (.frz d) :: ρ) := by rw [wE_var, G_5]; rfl
theorem Vt_5 (a0 a1 a2 a3 a4 : Option Sl) (d : D) (ρ : Sto) (Q : Opd → Sto → Prop) : wE (.var 5) (a0 :: a1 :: a2 :: a3 :: a4 :: some (.tmp d) :: ρ) Q = Q (.val (.frz d)) (a0 :: a1 :: a2 :: a3 :: a4 :: some (.tmp d) :: ρ) := by rw [wE_var, G_5]; rfl
theorem Vm_5 (a0 a1 a2 a3 a4 : Option Sl) (m : Md) (b : Bool) (l : List D) (ρ : Sto) (Q : Opd → Sto → Prop) : wE (.var 5) (a0 :: a1 :: a2 :: a3 :: a4 :: some (.mut m b l) :: ρ) Q = Q (.slot 5) (a0 :: a1 :: a2 :: a3 :: a4 :: some (.mut m b l) :: ρ) := by rw [wE_var, G_5]; rfl
theorem G_6 (a0 a1 a2 a3 a4 a5 a6 : Option Sl) (ρ : Sto) : getS (a0 :: a1 :: a2 :: a3 :: a4 :: a5 :: a6 :: ρ) 6 = a6 := (getS_s _ _ _).trans (G_5 a1 a2 a3 a4 a5 a6 ρ)
theorem L_6 {α : Type} (a0 a1 a2 a3 a4 a5 a6 y : α) (ρ : List α) : List.set (a0 :: a1 :: a2 :: a3 :: a4 :: a5 :: a6 :: ρ) 6 y = a0 :: a1 :: a2 :: a3 :: a4 :: a5 :: y :: ρ := Eq.trans rfl rfl
theorem Vf_6 (a0 a1 a2 a3 a4 a5 : Option Sl) (d : D) (ρ : Sto) (Q : Opd → Sto → Prop) : wE (.var 6) (a0 :: a1 :: a2 :: a3 :: a4 :: a5 :: some (.frz d) :: ρ) Q = Q (.val (.frz d)) (a0 :: a1 :: a2 :: a3 :: a4 :: a5 :: some (.frz d) :: ρ) := by rw [wE_var, G_6]; rfl
theorem Vt_6 (a0 a1 a2 a3 a4 a5 : Option Sl) (d : D) (ρ : Sto) (Q : Opd → Sto → Prop) : wE (.var 6) (a0 :: a1 :: a2 :: a3 :: a4 :: a5 :: some (.tmp d) :: ρ) Q = Q (.val (.frz d)) (a0 :: a1 :: a2 :: a3 :: a4 :: a5 :: some (.tmp d) :: ρ) := by rw [wE_var, G_6]; rfl
theorem Vm_6 (a0 a1 a2 a3 a4 a5 : Option Sl) (m : Md) (b : Bool) (l : List D) (ρ : Sto) (Q : Opd → Sto → Prop) : wE (.var 6) (a0 :: a1 :: a2 :: a3 :: a4 :: a5 :: some (.mut m b l) :: ρ) Q = Q (.slot 6) (a0 :: a1 :: a2 :: a3 :: a4 :: a5 :: some (.mut m b l) :: ρ) := by rw [wE_var, G_6]; rfl
theorem G_7 (a0 a1 a2 a3 a4 a5 a6 a7 : Option Sl) (ρ : Sto) : getS (a0 :: a1 :: a2 :: a3 :: a4 :: a5 :: a6 :: a7 :: ρ) 7 = a7 := (getS_s _ _ _).trans (G_6 a1 a2 a3 a4 a5 a6 a7 ρ)
theorem L_7 {α : Type} (a0 a1 a2 a3 a4 a5 a6 a7 y : α) (ρ : List α) : List.set (a0 :: a1 :: a2 :: a3 :: a4 :: a5 :: a6 :: a7 :: ρ) 7 y = a0 :: a1 :: a2 :: a3 :: a4 :: a5 :: a6 :: y :: ρ := Eq.trans rfl rfl
theorem Vf_7 (a0 a1 a2 a3 a4 a5 a6 : Option Sl) (d : D) (ρ : Sto) (Q : Opd → Sto → Prop) : wE (.var 7) (a0 :: a1 :: a2 :: a3 :: a4 :: a5 :: a6 :: some (.frz d) :: ρ) Q = Q (.val (.frz d)) (a0 :: a1 :: a2 :: a3 :: a4 :: a5 :: a6 :: some (.frz d) :: ρ) := by rw [wE_var, G_7]; rfl
theorem Vt_7 (a0 a1 a2 a3 a4 a5 a6 : Option Sl) (d : D) (ρ : Sto) (Q : Opd → Sto → Prop) : wE (.var 7) (a0 :: a1 :: a2 :: a3 :: a4 :: a5 :: a6 :: some (.tmp d) :: ρ) Q = Q (.val (.frz d)) (a0 :: a1 :: a2 :: a3 :: a4 :: a5 :: a6 :: some (.tmp d) :: ρ) := by rw [wE_var, G_7]; rfl
theorem Vm_7 (a0 a1 a2 a3 a4 a5 a6 : Option Sl) (m : Md) (b : Bool) (l : List D) (ρ : Sto) (Q : Opd → Sto → Prop) : wE (.var 7) (a0 :: a1 :: a2 :: a3 :: a4 :: a5 :: a6 :: some (.mut m b l) :: ρ) Q = Q (.slot 7) (a0 :: a1 :: a2 :: a3 :: a4 :: a5 :: a6 :: some (.mut m b l) :: ρ) := by rw [wE_var, G_7]; rfl
theorem G_8 (a0 a1 a2 a3 a4 a5 a6 a7 a8 : Option Sl) (ρ : Sto) : getS (a0 :: a1 :: a2 :: a3 :: a4 :: a5 :: a6 :: a7 :: a8 :: ρ) 8 = a8 := (getS_s _ _ _).trans (G_7 a1 a2 a3 a4 a5 a6 a7 a8 ρ)
theorem L_8 {α : Type} (a0 a1 a2 a3 a4 a5 a6 a7 a8 y : α) (ρ : List α) : List.set (a0 :: a1 :: a2 :: a3 :: a4 :: a5 :: a6 :: a7 :: a8 :: ρ) 8 y = a0 :: a1 :: a2 :: a3 :: a4 :: a5 :: a6 :: a7 :: y :: ρ := Eq.trans rfl rfl
theorem Vf_8 (a0 a1 a2 a3 a4 a5 a6 a7 : Option Sl) (d : D) (ρ : Sto) (Q : Opd → Sto → Prop) : wE (.var 8) (a0 :: a1 :: a2 :: a3 :: a4 :: a5 :: a6 :: a7 :: some (.frz d) :: ρ) Q = Q (.val (.frz d)) (a0 :: a1 :: a2 :: a3 :: a4 :: a5 :: a6 :: a7 :: some (.frz d) :: ρ) := by rw [wE_var, G_8]; rfl
theorem Vt_8 (a0 a1 a2 a3 a4 a5 a6 a7 : Option Sl) (d : D) (ρ : Sto) (Q : Opd → Sto → Prop) : wE (.var 8) (a0 :: a1 :: a2 :: a3 :: a4 :: a5 :: a6 :: a7 :: some (.tmp d) :: ρ) Q = Q (.val (.frz d)) (a0 :: a1 :: a2 :: a3 :: a4 :: a5 :: a6 :: a7 :: some (.tmp d) :: ρ) := by rw [wE_var, G_8]; rfl
theorem Vm_8 (a0 a1 a2 a3 a4 a5 a6 a7 : Option Sl) (m : Md) (b : Bool) (l : List D) (ρ : Sto) (Q : Opd → Sto → Prop) : wE (.var 8) (a0 :: a1 :: a2 :: a3 :: a4 :: a5 :: a6 :: a7 :: some (.mut m b l) :: ρ) Q = Q (.slot 8) (a0 :: a1 :: a2 :: a3 :: a4 :: a5 :: a6 :: a7 :: some (.mut m b l) :: ρ) := by rw [wE_var, G_8]; rfl
theorem G_9 (a0 a1 a2 a3 a4 a5 a6 a7 a8 a9 : Option Sl) (ρ : Sto) : getS (a0 :: a1 :: a2 :: a3 :: a4 :: a5 :: a6 :: a7 :: a8 :: a9 :: ρ) 9 = a9 := (getS_s _ _ _).trans (G_8 a1 a2 a3 a4 a5 a6 a7 a8 a9 ρ)
theorem L_9 {α : Type} (a0 a1 a2 a3 a4 a5 a6 a7 a8 a9 y : α) (ρ : List α) : List.set (a0 :: a1 :: a2 :: a3 :: a4 :: a5 :: a6 :: a7 :: a8 :: a9 :: ρ) 9 y = a0 :: a1 :: a2 :: a3 :: a4 :: a5 :: a6 :: a7 :: a8 :: y :: ρ := Eq.trans rfl rfl
theorem Vf_9 (a0 a1 a2 a3 a4 a5 a6 a7 a8 : Option Sl) (d : D) (ρ : Sto) (Q : Opd → Sto → Prop) : wE (.var 9) (a0 :: a1 :: a2 :: a3 :: a4 :: a5 :: a6 :: a7 :: a8 :: some (.frz d) :: ρ) Q = Q (.val (.frz d)) (a0 :: a1 :: a2 :: a3 :: a4 :: a5 :: a6 :: a7 :: a8 :: some (.frz d) :: ρ) := by rw [wE_var, G_9]; rfl
theorem Vt_9 (a0 a1 a2 a3 a4 a5 a6 a7 a8 : Option Sl) (d : D) (ρ : Sto) (Q : Opd → Sto → Prop) : wE (.var 9) (a0 :: a1 :: a2 :: a3 :: a4 :: a5 :: a6 :: a7 :: a8 :: some (.tmp d) :: ρ) Q = Q (.val (.frz d)) (a0 :: a1 :: a2 :: a3 :: a4 :: a5 :: a6 :: a7 :: a8 :: some (.tmp d) :: ρ) := by rw [wE_var, G_9]; rfl
theorem Vm_9 (a0 a1 a2 a3 a4 a5 a6 a7 a8 : Option Sl) (m : Md) (b : Bool) (l : List D) (ρ : Sto) (Q : Opd → Sto → Prop) : wE (.var 9) (a0 :: a1 :: a2 :: a3 :: a4 :: a5 :: a6 :: a7 :: a8 :: some (.mut m b l) :: ρ) Q = Q (.slot 9) (a0 :: a1 :: a2 :: a3 :: a4 :: a5 :: a6 :: a7 :: a8 :: some (.mut m b l) :: ρ) := by rw [wE_var, G_9]; rfl
theorem G_10 (a0 a1 a2 a3 a4 a5 a6 a7 a8 a9 a10 : Option Sl) (ρ : Sto) : getS (a0 :: a1 :: a2 :: a3 :: a4 :: a5 :: a6 :: a7 :: a8 :: a9 :: a10 :: ρ) 10 = a10 := (getS_s _ _ _).trans (G_9 a1 a2 a3 a4 a5 a6 a7 a8 a9 a10 ρ)
theorem L_10 {α : Type} (a0 a1 a2 a3 a4 a5 a6 a7 a8 a9 a10 y : α) (ρ : List α) : List.set (a0 :: a1 :: a2 :: a3 :: a4 :: a5 :: a6 :: a7 :: a8 :: a9 :: a10 :: ρ) 10 y = a0 :: a1 :: a2 :: a3 :: a4 :: a5 :: a6 :: a7 :: a8 :: a9 :: y :: ρ := Eq.trans rfl rfl
theorem Vf_10 (a0 a1 a2 a3 a4 a5 a6 a7 a8 a9 : Option Sl) (d : D) (ρ : Sto) (Q : Opd → Sto → Prop) : wE (.var 10) (a0 :: a1 :: a2 :: a3 :: a4 :: a5 :: a6 :: a7 :: a8 :: a9 :: some (.frz d) :: ρ) Q = Q (.val (.frz d)) (a0 :: a1 :: a2 :: a3 :: a4 :: a5 :: a6 :: a7 :: a8 :: a9 :: some (.frz d) :: ρ) := by rw [wE_var, G_10]; rfl
theorem Vt_10 (a0 a1 a2 a3 a4 a5 a6 a7 a8 a9 : Option Sl) (d : D) (ρ : Sto) (Q : Opd → Sto → Prop) : wE (.var 10) (a0 :: a1 :: a2 :: a3 :: a4 :: a5 :: a6 :: a7 :: a8 :: a9 :: some (.tmp d) :: ρ) Q = Q (.val (.frz d)) (a0 :: a1 :: a2 :: a3 :: a4 :: a5 :: a6 :: a7 :: a8 :: a9 :: some (.tmp d) :: ρ) := by rw [wE_var, G_10]; rfl
theorem Vm_10 (a0 a1 a2 a3 a4 a5 a6 a7 a8 a9 : Option Sl) (m : Md) (b : Bool) (l : List D) (ρ : Sto) (Q : Opd → Sto → Prop) : wE (.var 10) (a0 :: a1 :: a2 :: a3 :: a4 :: a5 :: a6 :: a7 :: a8 :: a9 :: some (.mut m b l) :: ρ) Q = Q (.slot 10) (a0 :: a1 :: a2 :: a3 :: a4 :: a5 :: a6 :: a7 :: a8 :: a9 :: some (.mut m b l) :: ρ) := by rw [wE_var, G_10]; rfl
theorem G_11 (a0 a1 a2 a3 a4 a5 a6 a7 a8 a9 a10 a11 : Option Sl) (ρ : Sto) : getS (a0 :: a1 :: a2 :: a3 :: a4 :: a5 :: a6 :: a7 :: a8 :: a9 :: a10 :: a11 :: ρ) 11 = a11 := (getS_s _ _ _).trans (G_10 a1 a2 a3 a4 a5 a6 a7 a8 a9 a10 a11 ρ)
theorem L_11 {α : Type} (a0 a1 a2 a3 a4 a5 a6 a7 a8 a9 a10 a11 y : α) (ρ : List α) : List.set (a0 :: a1 :: a2 :: a3 :: a4 :: a5 :: a6 :: a7 :: a8 :: a9 :: a10 :: a11 :: ρ) 11 y = a0 :: a1 :: a2 :: a3 :: a4 :: a5 :: a6 :: a7 :: a8 :: a9 :: a10 :: y :: ρ := Eq.trans rfl rfl
theorem Vf_11 (a0 a1 a2 a3 a4 a5 a6 a7 a8 a9 a10 : Option Sl) (d : D) (ρ : Sto) (Q : Opd → Sto → Prop) : wE (.var 11) (a0 :: a1 :: a2 :: a3 :: a4 :: a5 :: a6 :: a7 :: a8 :: a9 :: a10 :: some (.frz d) :: ρ) Q = Q (.val (.frz d)) (a0 :: a1 :: a2 :: a3 :: a4 :: a5 :: a6 :: a7 :: a8 :: a9 :: a10 :: some (.frz d) :: ρ) := by rw [wE_var, G_11]; rfl
theorem Vt_11 (a0 a1 a2 a3 a4 a5 a6 a7 a8 a9 a10 : Option Sl) (d : D) (ρ : Sto) (Q : Opd → Sto → Prop) : wE (.var 11) (a0 :: a1 :: a2 :: a3 :: a4 :: a5 :: a6 :: a7 :: a8 :: a9 :: a10 :: some (.tmp d) :: ρ) Q = Q (.val (.frz d)) (a0 :: a1 :: a2 :: a3 :: a4 :: a5 :: a6 :: a7 :: a8 :: a9 :: a10 :: some (.tmp d) :: ρ) := by rw [wE_var, G_11]; rfl
theorem Vm_11 (a0 a1 a2 a3 a4 a5 a6 a7 a8 a9 a10 : Option Sl) (m : Md) (b : Bool) (l : List D) (ρ : Sto) (Q : Opd → Sto → Prop) : wE (.var 11) (a0 :: a1 :: a2 :: a3 :: a4 :: a5 :: a6 :: a7 :: a8 :: a9 :: a10 :: some (.mut m b l) :: ρ) Q = Q (.slot 11) (a0 :: a1 :: a2 :: a3 :: a4 :: a5 :: a6 :: a7 :: a8 :: a9 :: a10 :: some (.mut m b l) :: ρ) := by rw [wE_var, G_11]; rfl
theorem G_12 (a0 a1 a2 a3 a4 a5 a6 a7 a8 a9 a10 a11 a12 : Option Sl) (ρ : Sto) : getS (a0 :: a1 :: a2 :: a3 :: a4 :: a5 :: a6 :: a7 :: a8 :: a9 :: a10 :: a11 :: a12 :: ρ) 12 = a12 := (getS_s _ _ _).trans (G_11 a1 a2 a3 a4 a5 a6 a7 a8 a9 a10 a11 a12 ρ)
theorem L_12 {α : Type} (a0 a1 a2 a3 a4 a5 a6 a7 a8 a9 a10 a11 a12 y : α) (ρ : List α) : List.set (a0 :: a1 :: a2 :: a3 :: a4 :: a5 :: a6 :: a7 :: a8 :: a9 :: a10 :: a11 :: a12 :: ρ) 12 y = a0 :: a1 :: a2 :: a3 :: a4 :: a5 :: a6 :: a7 :: a8 :: a9 :: a10 :: a11 :: y :: ρ := Eq.trans rfl rfl
theorem Vf_12 (a0 a1 a2 a3 a4 a5 a6 a7 a8 a9 a10 a11 : Option Sl) (d : D) (ρ : Sto) (Q : Opd → Sto → Prop) : wE (.var 12) (a0 :: a1 :: a2 :: a3 :: a4 :: a5 :: a6 :: a7 :: a8 :: a9 :: a10 :: a11 :: some (.frz d) :: ρ) Q = Q (.val (.frz d)) (a0 :: a1 :: a2 :: a3 :: a4 :: a5 :: a6 :: a7 :: a8 :: a9 :: a10 :: a11 :: some (.frz d) :: ρ) := by rw [wE_var, G_12]; rfl
theorem Vt_12 (a0 a1 a2 a3 a4 a5 a6 a7 a8 a9 a10 a11 : Option Sl) (d : D) (ρ : Sto) (Q : Opd → Sto → Prop) : wE (.var 12) (a0 :: a1 :: a2 :: a3 :: a4 :: a5 :: a6 :: a7 :: a8 :: a9 :: a10 :: a11 :: some (.tmp d) :: ρ) Q = Q (.val (.frz d)) (a0 :: a1 :: a2 :: a3 :: a4 :: a5 :: a6 :: a7 :: a8 :: a9 :: a10 :: a11 :: some (.tmp d) :: ρ) := by rw [wE_var, G_12]; rfl
theorem Vm_12 (a0 a1 a2 a3 a4 a5 a6 a7 a8 a9 a10 a11 : Option Sl) (m : Md) (b : Bool) (l : List D) (ρ : Sto) (Q : Opd → Sto → Prop) : wE (.var 12) (a0 :: a1 :: a2 :: a3 :: a4 :: a5 :: a6 :: a7 :: a8 :: a9 :: a10 :: a11 :: some (.mut m b l) :: ρ) Q = Q (.slot 12) (a0 :: a1 :: a2 :: a3 :: a4 :: a5 :: a6 :: a7 :: a8 :: a9 :: a10 :: a11 :: some (.mut m b l) :: ρ) := by rw [wE_var, G_12]; rfl
theorem G_13 (a0 a1 a2 a3 a4 a5 a6 a7 a8 a9 a10 a11 a12 a13 : Option Sl) (ρ : Sto) : getS (a0 :: a1 :: a2 :: a3 :: a4 :: a5 :: a6 :: a7 :: a8 :: a9 :: a10 :: a11 :: a12 :: a13 :: ρ) 13 = a13 := (getS_s _ _ _).trans (G_12 a1 a2 a3 a4 a5 a6 a7 a8 a9 a10 a11 a12 a13 ρ)
theorem L_13 {α : Type} (a0 a1 a2 a3 a4 a5 a6 a7 a8 a9 a10 a11 a12 a13 y : α) (ρ : List α) : List.set (a0 :: a1 :: a2 :: a3 :: a4 :: a5 :: a6 :: a7 :: a8 :: a9 :: a10 :: a11 :: a12 :: a13 :: ρ) 13 y = a0 :: a1 :: a2 :: a3 :: a4 :: a5 :: a6 :: a7 :: a8 :: a9 :: a10 :: a11 :: a12 :: y :: ρ := Eq.trans rfl rfl
theorem Vf_13 (a0 a1 a2 a3 a4 a5 a6 a7 a8 a9 a10 a11 a12 : Option Sl) (d : D) (ρ : Sto) (Q : Opd → Sto → Prop) : wE (.var 13) (a0 :: a1 :: a2 :: a3 :: a4 :: a5 :: a6 :: a7 :: a8 :: a9 :: a10 :: a11 :: a12 :: some (.frz d) :: ρ) Q = Q (.val (.frz d)) (a0 :: a1 :: a2 :: a3 :: a4 :: a5 :: a6 :: a7 :: a8 :: a9 :: a10 :: a11 :: a12 :: some (.frz d) :: ρ) := by rw [wE_var, G_13]; rfl
theorem Vt_13 (a0 a1 a2 a3 a4 a5 a6 a7 a8 a9 a10 a11 a12 : Option Sl) (d : D) (ρ : Sto) (Q : Opd → Sto → Prop) : wE (.var 13) (a0 :: a1 :: a2 :: a3 :: a4 :: a5 :: a6 :: a7 :: a8 :: a9 :: a10 :: a11 :: a12 :: some (.tmp d) :: ρ) Q = Q (.val (.frz d)) (a0 :: a1 :: a2 :: a3 :: a4 :: a5 :: a6 :: a7 :: a8 :: a9 :: a10 :: a11 :: a12 :: some (.tmp d) :: ρ) := by rw [wE_var, G_13]; rfl
theorem Vm_13 (a0 a1 a2 a3 a4 a5 a6 a7 a8 a9 a10 a11 a12 : Option Sl) (m : Md) (b : Bool) (l : List D) (ρ : Sto) (Q : Opd → Sto → Prop) : wE (.var 13) (a0 :: a1 :: a2 :: a3 :: a4 :: a5 :: a6 :: a7 :: a8 :: a9 :: a10 :: a11 :: a12 :: some (.mut m b l) :: ρ) Q = Q (.slot 13) (a0 :: a1 :: a2 :: a3 :: a4 :: a5 :: a6 :: a7 :: a8 :: a9 :: a10 :: a11 :: a12 :: some (.mut m b l) :: ρ) := by rw [wE_var, G_13]; rfl
theorem G_14 (a0 a1 a2 a3 a4 a5 a6 a7 a8 a9 a10 a11 a12 a13 a14 : Option Sl) (ρ : Sto) : getS (a0 :: a1 :: a2 :: a3 :: a4 :: a5 :: a6 :: a7 :: a8 :: a9 :: a10 :: a11 :: a12 :: a13 :: a14 :: ρ) 14 = a14 := (getS_s _ _ _).trans (G_13 a1 a2 a3 a4 a5 a6 a7 a8 a9 a10 a11 a12 a13 a14 ρ)
theorem L_14 {α : Type} (a0 a1 a2 a3 a4 a5 a6 a7 a8 a9 a10 a11 a12 a13 a14 y : α) (ρ : List α) : List.set (a0 :: a1 :: a2 :: a3 :: a4 :: a5 :: a6 :: a7 :: a8 :: a9 :: a10 :: a11 :: a12 :: a13 :: a14 :: ρ) 14 y = a0 :: a1 :: a2 :: a3 :: a4 :: a5 :: a6 :: a7 :: a8 :: a9 :: a10 :: a11 :: a12 :: a13 :: y :: ρ := Eq.trans rfl rfl
theorem Vf_14 (a0 a1 a2 a3 a4 a5 a6 a7 a8 a9 a10 a11 a12 a13 : Option Sl) (d : D) (ρ : Sto) (Q : Opd → Sto → Prop) : wE (.var 14) (a0 :: a1 :: a2 :: a3 :: a4 :: a5 :: a6 :: a7 :: a8 :: a9 :: a10 :: a11 :: a12 :: a13 :: some (.frz d) :: ρ) Q = Q (.val (.frz d)) (a0 :: a1 :: a2 :: a3 :: a4 :: a5 :: a6 :: a7 :: a8 :: a9 :: a10 :: a11 :: a12 :: a13 :: some (.frz d) :: ρ) := by rw [wE_var, G_14]; rfl
theorem Vt_14 (a0 a1 a2 a3 a4 a5 a6 a7 a8 a9 a10 a11 a12 a13 : Option Sl) (d : D) (ρ : Sto) (Q : Opd → Sto → Prop) : wE (.var 14) (a0 :: a1 :: a2 :: a3 :: a4 :: a5 :: a6 :: a7 :: a8 :: a9 :: a10 :: a11 :: a12 :: a13 :: some (.tmp d) :: ρ) Q = Q (.val (.frz d)) (a0 :: a1 :: a2 :: a3 :: a4 :: a5 :: a6 :: a7 :: a8 :: a9 :: a10 :: a11 :: a12 :: a13 :: some (.tmp d) :: ρ) := by rw [wE_var, G_14]; rfl
theorem Vm_14 (a0 a1 a2 a3 a4 a5 a6 a7 a8 a9 a10 a11 a12 a13 : Option Sl) (m : Md) (b : Bool) (l : List D) (ρ : Sto) (Q : Opd → Sto → Prop) : wE (.var 14) (a0 :: a1 :: a2 :: a3 :: a4 :: a5 :: a6 :: a7 :: a8 :: a9 :: a10 :: a11 :: a12 :: a13 :: some (.mut m b l) :: ρ) Q = Q (.slot 14) (a0 :: a1 :: a2 :: a3 :: a4 :: a5 :: a6 :: a7 :: a8 :: a9 :: a10 :: a11 :: a12 :: a13 :: some (.mut m b l) :: ρ) := by rw [wE_var, G_14]; rfl
theorem G_15 (a0 a1 a2 a3 a4 a5 a6 a7 a8 a9 a10 a11 a12 a13 a14 a15 : Option Sl) (ρ : Sto) : getS (a0 :: a1 :: a2 :: a3 :: a4 :: a5 :: a6 :: a7 :: a8 :: a9 :: a10 :: a11 :: a12 :: a13 :: a14 :: a15 :: ρ) 15 = a15 := (getS_s _ _ _).trans (G_14 a1 a2 a3 a4 a5 a6 a7 a8 a9 a10 a11 a12 a13 a14 a15 ρ)
theorem L_15 {α : Type} (a0 a1 a2 a3 a4 a5 a6 a7 a8 a9 a10 a11 a12 a13 a14 a15 y : α) (ρ : List α) : List.set (a0 :: a1 :: a2 :: a3 :: a4 :: a5 :: a6 :: a7 :: a8 :: a9 :: a10 :: a11 :: a12 :: a13 :: a14 :: a15 :: ρ) 15 y = a0 :: a1 :: a2 :: a3 :: a4 :: a5 :: a6 :: a7 :: a8 :: a9 :: a10 :: a11 :: a12 :: a13 :: a14 :: y :: ρ := Eq.trans rfl rfl
theorem Vf_15 (a0 a1 a2 a3 a4 a5 a6 a7 a8 a9 a10 a11 a12 a13 a14 : Option Sl) (d : D) (ρ : Sto) (Q : Opd → Sto → Prop) : wE (.var 15) (a0 :: a1 :: a2 :: a3 :: a4 :: a5 :: a6 :: a7 :: a8 :: a9 :: a10 :: a11 :: a12 :: a13 :: a14 :: some (.frz d) :: ρ) Q = Q (.val (.frz d)) (a0 :: a1 :: a2 :: a3 :: a4 :: a5 :: a6 :: a7 :: a8 :: a9 :: a10 :: a11 :: a12 :: a13 :: a14 :: some (.frz d) :: ρ) := by rw [wE_var, G_15]; rfl
theorem Vt_15 (a0 a1 a2 a3 a4 a5 a6 a7 a8 a9 a10 a11 a12 a13 a14 : Option Sl) (d : D) (ρ : Sto) (Q : Opd → Sto → Prop) : wE (.var 15) (a0 :: a1 :: a2 :: a3 :: a4 :: a5 :: a6 :: a7 :: a8 :: a9 :: a10 :: a11 :: a12 :: a13 :: a14 :: some (.tmp d) :: ρ) Q = Q (.val (.frz d)) (a0 :: a1 :: a2 :: a3 :: a4 :: a5 :: a6 :: a7 :: a8 :: a9 :: a10 :: a11 :: a12 :: a13 :: a14 :: some (.tmp d) :: ρ) := by rw [wE_var, G_15]; rfl
theorem Vm_15 (a0 a1 a2 a3 a4 a5 a6 a7 a8 a9 a10 a11 a12 a13 a14 : Option Sl) (m : Md) (b : Bool) (l : List D) (ρ : Sto) (Q : Opd → Sto → Prop) : wE (.var 15) (a0 :: a1 :: a2 :: a3 :: a4 :: a5 :: a6 :: a7 :: a8 :: a9 :: a10 :: a11 :: a12 :: a13 :: a14 :: some (.mut m b l) :: ρ) Q = Q (.slot 15) (a0 :: a1 :: a2 :: a3 :: a4 :: a5 :: a6 :: a7 :: a8 :: a9 :: a10 :: a11 :: a12 :: a13 :: a14 :: some (.mut m b l) :: ρ) := by rw [wE_var, G_15]; rfl
theorem G_16 (a0 a1 a2 a3 a4 a5 a6 a7 a8 a9 a10 a11 a12 a13 a14 a15 a16 : Option Sl) (ρ : Sto) : getS (a0 :: a1 :: a2 :: a3 :: a4 :: a5 :: a6 :: a7 :: a8 :: a9 :: a10 :: a11 :: a12 :: a13 :: a14 :: a15 :: a16 :: ρ) 16 = a16 := (getS_s _ _ _).trans (G_15 a1 a2 a3 a4 a5 a6 a7 a8 a9 a10 a11 a12 a13 a14 a15 a16 ρ)
theorem L_16 {α : Type} (a0 a1 a2 a3 a4 a5 a6 a7 a8 a9 a10 a11 a12 a13 a14 a15 a16 y : α) (ρ : List α) : List.set (a0 :: a1 :: a2 :: a3 :: a4 :: a5 :: a6 :: a7 :: a8 :: a9 :: a10 :: a11 :: a12 :: a13 :: a14 :: a15 :: a16 :: ρ) 16 y = a0 :: a1 :: a2 :: a3 :: a4 :: a5 :: a6 :: a7 :: a8 :: a9 :: a10 :: a11 :: a12 :: a13 :: a14 :: a15 :: y :: ρ := Eq.trans rfl rfl
theorem Vf_16 (a0 a1 a2 a3 a4 a5 a6 a7 a8 a9 a10 a11 a12 a13 a14 a15 : Option Sl) (d : D) (ρ : Sto) (Q : Opd → Sto → Prop) : wE (.var 16) (a0 :: a1 :: a2 :: a3 :: a4 :: a5 :: a6 :: a7 :: a8 :: a9 :: a10 :: a11 :: a12 :: a13 :: a14 :: a15 :: some (.frz d) :: ρ) Q = Q (.val (.frz d)) (a0 :: a1 :: a2 :: a3 :: a4 :: a5 :: a6 :: a7 :: a8 :: a9 :: a10 :: a11 :: a12 :: a13 :: a14 :: a15 :: some (.frz d) :: ρ) := by rw [wE_var, G_16]; rfl
theorem Vt_16 (a0 a1 a2 a3 a4 a5 a6 a7 a8 a9 a10 a11 a12 a13 a14 a15 : Option Sl) (d : D) (ρ : Sto) (Q : Opd → Sto → Prop) : wE (.var 16) (a0 :: a1 :: a2 :: a3 :: a4 :: a5 :: a6 :: a7 :: a8 :: a9 :: a10 :: a11 :: a12 :: a13 :: a14 :: a15 :: some (.tmp d) :: ρ) Q = Q (.val (.frz d)) (a0 :: a1 :: a2 :: a3 :: a4 :: a5 :: a6 :: a7 :: a8 :: a9 :: a10 :: a11 :: a12 :: a13 :: a14 :: a15 :: some (.tmp d) :: ρ) := by rw [wE_var, G_16]; rfl
theorem Vm_16 (a0 a1 a2 a3 a4 a5 a6 a7 a8 a9 a10 a11 a12 a13 a14 a15 : Option Sl) (m : Md) (b : Bool) (l : List D) (ρ : Sto) (Q : Opd → Sto → Prop) : wE (.var 16) (a0 :: a1 :: a2 :: a3 :: a4 :: a5 :: a6 :: a7 :: a8 :: a9 :: a10 :: a11 :: a12 :: a13 :: a14 :: a15 :: some (.mut m b l) :: ρ) Q = Q (.slot 16) (a0 :: a1 :: a2 :: a3 :: a4 :: a5 :: a6 :: a7 :: a8 :: a9 :: a10 :: a11 :: a12 :: a13 :: a14 :: a15 :: some (.mut m b l) :: ρ) := by rw [wE_var, G_16]; rfl
theorem G_17 (a0 a1 a2 a3 a4 a5 a6 a7 a8 a9 a10 a11 a12 a13 a14 a15 a16 a17 : Option Sl) (ρ : Sto) : getS (a0 :: a1 :: a2 :: a3 :: a4 :: a5 :: a6 :: a7 :: a8 :: a9 :: a10 :: a11 :: a12 :: a13 :: a14 :: a15 :: a16 :: a17 :: ρ) 17 = a17 := (getS_s _ _ _).trans (G_16 a1 a2 a3 a4 a5 a6 a7 a8 a9 a10 a11 a12 a13 a14 a15 a16 a17 ρ)
theorem L_17 {α : Type} (a0 a1 a2 a3 a4 a5 a6 a7 a8 a9 a10 a11 a12 a13 a14 a15 a16 a17 y : α) (ρ : List α) : List.set (a0 :: a1 :: a2 :: a3 :: a4 :: a5 :: a6 :: a7 :: a8 :: a9 :: a10 :: a11 :: a12 :: a13 :: a14 :: a15 :: a16 :: a17 :: ρ) 17 y = a0 :: a1 :: a2 :: a3 :: a4 :: a5 :: a6 :: a7 :: a8 :: a9 :: a10 :: a11 :: a12 :: a13 :: a14 :: a15 :: a16 :: y :: ρ := Eq.trans rfl rfl
theorem Vf_17 (a0 a1 a2 a3 a4 a5 a6 a7 a8 a9 a10 a11 a12 a13 a14 a15 a16 : Option Sl) (d : D) (ρ : Sto) (Q : Opd → Sto → Prop) : wE (.var 17) (a0 :: a1 :: a2 :: a3 :: a4 :: a5 :: a6 :: a7 :: a8 :: a9 :: a10 :: a11 :: a12 :: a13 :: a14 :: a15 :: a16 :: some (.frz d) :: ρ) Q = Q (.val (.frz d)) (a0 :: a1 :: a2 :: a3 :: a4 :: a5 :: a6 :: a7 :: a8 :: a9 :: a10 :: a11 :: a12 :: a13 :: a14 :: a15 :: a16 :: some (.frz d) :: ρ) := by rw [wE_var, G_17]; rfl
theorem Vt_17 (a0 a1 a2 a3 a4 a5 a6 a7 a8 a9 a10 a11 a12 a13 a14 a15 a16 : Option Sl) (d : D) (ρ : Sto) (Q : Opd → Sto → Prop) : wE (.var 17) (a0 :: a1 :: a2 :: a3 :: a4 :: a5 :: a6 :: a7 :: a8 :: a9 :: a10 :: a11 :: a12 :: a13 :: a14 :: a15 :: a16 :: some (.tmp d) :: ρ) Q = Q (.val (.frz d)) (a0 :: a1 :: a2 :: a3 :: a4 :: a5 :: a6 :: a7 :: a8 :: a9 :: a10 :: a11 :: a12 :: a13 :: a14 :: a15 :: a16 :: some (.tmp d) :: ρ) := by rw [wE_var, G_17]; rfl
theorem Vm_17 (a0 a1 a2 a3 a4 a5 a6 a7 a8 a9 a10 a11 a12 a13 a14 a15 a16 : Option Sl) (m : Md) (b : Bool) (l : List D) (ρ : Sto) (Q : Opd → Sto → Prop) : wE (.var 17) (a0 :: a1 :: a2 :: a3 :: a4 :: a5 :: a6 :: a7 :: a8 :: a9 :: a10 :: a11 :: a12 :: a13 :: a14 :: a15 :: a16 :: some (.mut m b l) :: ρ) Q = Q (.slot 17) (a0 :: a1 :: a2 :: a3 :: a4 :: a5 :: a6 :: a7 :: a8 :: a9 :: a10 :: a11 :: a12 :: a13 :: a14 :: a15 :: a16 :: some (.mut m b l) :: ρ) := by rw [wE_var, G_17]; rfl
theorem G_18 (a0 a1 a2 a3 a4 a5 a6 a7 a8 a9 a10 a11 a12 a13 a14 a15 a16 a17 a18 : Option Sl) (ρ : Sto) : getS (a0 :: a1 :: a2 :: a3 :: a4 :: a5 :: a6 :: a7 :: a8 :: a9 :: a10 :: a11 :: a12 :: a13 :: a14 :: a15 :: a16 :: a17 :: a18 :: ρ) 18 = a18 := (getS_s _ _ _).trans (G_17 a1 a2 a3 a4 a5 a6 a7 a8 a9 a10 a11 a12 a13 a14 a15 a16 a17 a18 ρ)
theorem L_18 {α : Type} (a0 a1 a2 a3 a4 a5 a6 a7 a8 a9 a10 a11 a12 a13 a14 a15 a16 a17 a18 y : α) (ρ : List α) : List.set (a0 :: a1 :: a2 :: a3 :: a4 :: a5 :: a6 :: a7 :: a8 :: a9 :: a10 :: a11 :: a12 :: a13 :: a14 :: a15 :: a16 :: a17 :: a18 :: ρ) 18 y = a0 :: a1 :: a2 :: a3 :: a4 :: a5 :: a6 :: a7 :: a8 :: a9 :: a10 :: a11 :: a12 :: a13 :: a14 :: a15 :: a16 :: a17 :: y :: ρ := Eq.trans rfl rfl
theorem Vf_18 (a0 a1 a2 a3 a4 a5 a6 a7 a8 a9 a10 a11 a12 a13 a14 a15 a16 a17 : Option Sl) (d : D) (ρ : Sto) (Q : Opd → Sto → Prop) : wE (.var 18) (a0 :: a1 :: a2 :: a3 :: a4 :: a5 :: a6 :: a7 :: a8 :: a9 :: a10 :: a11 :: a12 :: a13 :: a14 :: a15 :: a16 :: a17 :: some (.frz d) :: ρ) Q = Q (.val (.frz d)) (a0 :: a1 :: a2 :: a3 :: a4 :: a5 :: a6 :: a7 :: a8 :: a9 :: a10 :: a11 :: a12 :: a13 :: a14 :: a15 :: a16 :: a17 :: some (.frz d) :: ρ) := by rw [wE_var, G_18]; rfl
theorem Vt_18 (a0 a1 a2 a3 a4 a5 a6 a7 a8 a9 a10 a11 a12 a13 a14 a15 a16 a17 : Option Sl) (d : D) (ρ : Sto) (Q : Opd → Sto → Prop) : wE (.var 18) (a0 :: a1 :: a2 :: a3 :: a4 :: a5 :: a6 :: a7 :: a8 :: a9 :: a10 :: a11 :: a12 :: a13 :: a14 :: a15 :: a16 :: a17 :: some (.tmp d) :: ρ) Q = Q (.val (.frz d)) (a0 :: a1 :: a2 :: a3 :: a4 :: a5 :: a6 :: a7 :: a8 :: a9 :: a10 :: a11 :: a12 :: a13 :: a14 :: a15 :: a16 :: a17 :: some (.tmp d) :: ρ) := by rw [wE_var, G_18]; rfl
theorem Vm_18 (a0 a1 a2 a3 a4 a5 a6 a7 a8 a9 a10 a11 a12 a13 a14 a15 a16 a17 : Option Sl) (m : Md) (b : Bool) (l : List D) (ρ : Sto) (Q : Opd → Sto → Prop) : wE (.var 18) (a0 :: a1 :: a2 :: a3 :: a4 :: a5 :: a6 :: a7 :: a8 :: a9 :: a10 :: a11 :: a12 :: a13 :: a14 :: a15 :: a16 :: a17 :: some (.mut m b l) :: ρ) Q = Q (.slot 18) (a0 :: a1 :: a2 :: a3 :: a4 :: a5 :: a6 :: a7 :: a8 :: a9 :: a10 :: a11 :: a12 :: a13 :: a14 :: a15 :: a16 :: a17 :: some (.mut m b l) :: ρ) := by rw [wE_var, G_18]; rfl
theorem G_19 (a0 a1 a2 a3 a4 a5 a6 a7 a8 a9 a10 a11 a12 a13 a14 a15 a16 a17 a18 a19 : Option Sl) (ρ : Sto) : getS (a0 :: a1 :: a2 :: a3 :: a4 :: a5 :: a6 :: a7 :: a8 :: a9 :: a10 :: a11 :: a12 :: a13 :: a14 :: a15 :: a16 :: a17 :: a18 :: a19 :: ρ) 19 = a19 := (getS_s _ _ _).trans (G_18 a1 a2 a3 a4 a5 a6 a7 a8 a9 a10 a11 a12 a13 a14 a15 a16 a17 a18 a19 ρ)
theorem L_19 {α : Type} (a0 a1 a2 a3 a4 a5 a6 a7 a8 a9 a10 a11 a12 a13 a14 a15 a16 a17 a18 a19 y : α) (ρ : List α) : List.set (a0 :: a1 :: a2 :: a3 :: a4 :: a5 :: a6 :: a7 :: a8 :: a9 :: a10 :: a11 :: a12 :: a13 :: a14 :: a15 :: a16 :: a17 :: a18 :: a19 :: ρ) 19 y = a0 :: a1 :: a2 :: a3 :: a4 :: a5 :: a6 :: a7 :: a8 :: a9 :: a10 :: a11 :: a12 :: a13 :: a14 :: a15 :: a16 :: a17 :: a18 :: y :: ρ := Eq.trans rfl rfl
theorem Vf_19 (a0 a1 a2 a3 a4 a5 a6 a7 a8 a9 a10 a11 a12 a13 a14 a15 a16 a17 a18 : Option Sl) (d : D) (ρ : Sto) (Q : Opd → Sto → Prop) : wE (.var 19) (a0 :: a1 :: a2 :: a3 :: a4 :: a5 :: a6 :: a7 :: a8 :: a9 :: a10 :: a11 :: a12 :: a13 :: a14 :: a15 :: a16 :: a17 :: a18 :: some (.frz d) :: ρ) Q = Q (.val (.frz d)) (a0 :: a1 :: a2 :: a3 :: a4 :: a5 :: a6 :: a7 :: a8 :: a9 :: a10 :: a11 :: a12 :: a13 :: a14 :: a15 :: a16 :: a17 :: a18 :: some (.frz d) :: ρ) := by rw [wE_var, G_19]; rfl
theorem Vt_19 (a0 a1 a2 a3 a4 a5 a6 a7 a8 a9 a10 a11 a12 a13 a14 a15 a16 a17 a18 : Option Sl) (d : D) (ρ : Sto) (Q : Opd → Sto → Prop) : wE (.var 19) (a0 :: a1 :: a2 :: a3 :: a4 :: a5 :: a6 :: a7 :: a8 :: a9 :: a10 :: a11 :: a12 :: a13 :: a14 :: a15 :: a16 :: a17 :: a18 :: some (.tmp d) :: ρ) Q = Q (.val (.frz d)) (a0 :: a1 :: a2 :: a3 :: a4 :: a5 :: a6 :: a7 :: a8 :: a9 :: a10 :: a11 :: a12 :: a13 :: a14 :: a15 :: a16 :: a17 :: a18 :: some (.tmp d) :: ρ) := by rw [wE_var, G_19]; rfl
theorem Vm_19 (a0 a1 a2 a3 a4 a5 a6 a7 a8 a9 a10 a11 a12 a13 a14 a15 a16 a17 a18 : Option Sl) (m : Md) (b : Bool) (l : List D) (ρ : Sto) (Q : Opd → Sto → Prop) : wE (.var 19) (a0 :: a1 :: a2 :: a3 :: a4 :: a5 :: a6 :: a7 :: a8 :: a9 :: a10 :: a11 :: a12 :: a13 :: a14 :: a15 :: a16 :: a17 :: a18 :: some (.mut m b l) :: ρ) Q = Q (.slot 19) (a0 :: a1 :: a2 :: a3 :: a4 :: a5 :: a6 :: a7 :: a8 :: a9 :: a10 :: a11 :: a12 :: a13 :: a14 :: a15 :: a16 :: a17 :: a18 :: some (.mut m b l) :: ρ) := by rw [wE_var, G_19]; rfl
theorem G_20 (a0 a1 a2 a3 a4 a5 a6 a7 a8 a9 a10 a11 a12 a13 a14 a15 a16 a17 a18 a19 a20 : Option Sl) (ρ : Sto) : getS (a0 :: a1 :: a2 :: a3 :: a4 :: a5 :: a6 :: a7 :: a8 :: a9 :: a10 :: a11 :: a12 :: a13 :: a14 :: a15 :: a16 :: a17 :: a18 :: a19 :: a20 :: ρ) 20 = a20 := (getS_s _ _ _).trans (G_19 a1 a2 a3 a4 a5 a6 a7 a8 a9 a10 a11 a12 a13 a14 a15 a16 a17 a18 a19 a20 ρ)
theorem L_20 {α : Type} (a0 a1 a2 a3 a4 a5 a6 a7 a8 a9 a10 a11 a12 a13 a14 a15 a16 a17 a18 a19 a20 y : α) (ρ : List α) : List.set (a0 :: a1 :: a2 :: a3 :: a4 :: a5 :: a6 :: a7 :: a8 :: a9 :: a10 :: a11 :: a12 :: a13 :: a14 :: a15 :: a16 :: a17 :: a18 :: a19 :: a20 :: ρ) 20 y = a0 :: a1 :: a2 :: a3 :: a4 :: a5 :: a6 :: a7 :: a8 :: a9 :: a10 :: a11 :: a12 :: a13 :: a14 :: a15 :: a16 :: a17 :: a18 :: a19 :: y :: ρ := Eq.trans rfl rfl
theorem Vf_20 (a0 a1 a2 a3 a4 a5 a6 a7 a8 a9 a10 a11 a12 a13 a14 a15 a16 a17 a18 a19 : Option Sl) (d : D) (ρ : Sto) (Q : Opd → Sto → Prop) : wE (.var 20) (a0 :: a1 :: a2 :: a3 :: a4 :: a5 :: a6 :: a7 :: a8 :: a9 :: a10 :: a11 :: a12 :: a13 :: a14 :: a15 :: a16 :: a17 :: a18 :: a19 :: some (.frz d) :: ρ) Q = Q (.val (.frz d)) (a0 :: a1 :: a2 :: a3 :: a4 :: a5 :: a6 :: a7 :: a8 :: a9 :: a10 :: a11 :: a12 :: a13 :: a14 :: a15 :: a16 :: a17 :: a18 :: a19 :: some (.frz d) :: ρ) := by rw [wE_var, G_20]; rfl
theorem Vt_20 (a0 a1 a2 a3 a4 a5 a6 a7 a8 a9 a10 a11 a12 a13 a14 a15 a16 a17 a18 a19 : Option Sl) (d : D) (ρ : Sto) (Q : Opd → Sto → Prop) : wE (.var 20) (a0 :: a1 :: a2 :: a3 :: a4 :: a5 :: a6 :: a7 :: a8 :: a9 :: a10 :: a11 :: a12 :: a13 :: a14 :: a15 :: a16 :: a17 :: a18 :: a19 :: some (.tmp d) :: ρ) Q = Q (.val (.frz d)) (a0 :: a1 :: a2 :: a3 :: a4 :: a5 :: a6 :: a7 :: a8 :: a9 :: a10 :: a11 :: a12 :: a13 :: a14 :: a15 :: a16 :: a17 :: a18 :: a19 :: some (.tmp d) :: ρ) := by rw [wE_var, G_20]; rfl
theorem Vm_20 (a0 a1 a2 a3 a4 a5 a6 a7 a8 a9 a10 a11 a12 a13 a14 a15 a16 a17 a18 a19 : Option Sl) (m : Md) (b : Bool) (l : List D) (ρ : Sto) (Q : Opd → Sto → Prop) : wE (.var 20) (a0 :: a1 :: a2 :: a3 :: a4 :: a5 :: a6 :: a7 :: a8 :: a9 :: a10 :: a11 :: a12 :: a13 :: a14 :: a15 :: a16 :: a17 :: a18 :: a19 :: some (.mut m b l) :: ρ) Q = Q (.slot 20) (a0 :: a1 :: a2 :: a3 :: a4 :: a5 :: a6 :: a7 :: a8 :: a9 :: a10 :: a11 :: a12 :: a13 :: a14 :: a15 :: a16 :: a17 :: a18 :: a19 :: some (.mut m b l) :: ρ) := by rw [wE_var, G_20]; rfl
theorem G_21 (a0 a1 a2 a3 a4 a5 a6 a7 a8 a9 a10 a11 a12 a13 a14 a15 a16 a17 a18 a19 a20 a21 : Option Sl) (ρ : Sto) : getS (a0 :: a1 :: a2 :: a3 :: a4 :: a5 :: a6 :: a7 :: a8 :: a9 :: a10 :: a11 :: a12 :: a13 :: a14 :: a15 :: a16 :: a17 :: a18 :: a19 :: a20 :: a21 :: ρ) 21 = a21 := (getS_s _ _ _).trans (G_20 a1 a2 a3 a4 a5 a6 a7 a8 a9 a10 a11 a12 a13 a14 a15 a16 a17 a18 a19 a20 a21 ρ)
theorem L_21 {α : Type} (a0 a1 a2 a3 a4 a5 a6 a7 a8 a9 a10 a11 a12 a13 a14 a15 a16 a17 a18 a19 a20 a21 y : α) (ρ : List α) : List.set (a0 :: a1 :: a2 :: a3 :: a4 :: a5 :: a6 :: a7 :: a8 :: a9 :: a10 :: a11 :: a12 :: a13 :: a14 :: a15 :: a16 :: a17 :: a18 :: a19 :: a20 :: a21 :: ρ) 21 y = a0 :: a1 :: a2 :: a3 :: a4 :: a5 :: a6 :: a7 :: a8 :: a9 :: a10 :: a11 :: a12 :: a13 :: a14 :: a15 :: a16 :: a17 :: a18 :: a19 :: a20 :: y :: ρ := Eq.trans rfl rfl
theorem Vf_21 (a0 a1 a2 a3 a4 a5 a6 a7 a8 a9 a10 a11 a12 a13 a14 a15 a16 a17 a18 a19 a20 : Option Sl) (d : D) (ρ : Sto) (Q : Opd → Sto → Prop) : wE (.var 21) (a0 :: a1 :: a2 :: a3 :: a4 :: a5 :: a6 :: a7 :: a8 :: a9 :: a10 :: a11 :: a12 :: a13 :: a14 :: a15 :: a16 :: a17 :: a18 :: a19 :: a20 :: some (.frz d) :: ρ) Q = Q (.val (.frz d)) (a0 :: a1 :: a2 :: a3 :: a4 :: a5 :: a6 :: a7 :: a8 :: a9 :: a10 :: a11 :: a12 :: a13 :: a14 :: a15 :: a16 :: a17 :: a18 :: a19 :: a20 :: some (.frz d) :: ρ) := by rw [wE_var, G_21]; rfl
theorem Vt_21 (a0 a1 a2 a3 a4 a5 a6 a7 a8 a9 a10 a11 a12 a13 a14 a15 a16 a17 a18 a19 a20 : Option Sl) (d : D) (ρ : Sto) (Q : Opd → Sto → Prop) : wE (.var 21) (a0 :: a1 :: a2 :: a3 :: a4 :: a5 :: a6 :: a7 :: a8 :: a9 :: a10 :: a11 :: a12 :: a13 :: a14 :: a15 :: a16 :: a17 :: a18 :: a19 :: a20 :: some (.tmp d) :: ρ) Q = Q (.val (.frz d)) (a0 :: a1 :: a2 :: a3 :: a4 :: a5 :: a6 :: a7 :: a8 :: a9 :: a10 :: a11 :: a12 :: a13 :: a14 :: a15 :: a16 :: a17 :: a18 :: a19 :: a20 :: some (.tmp d) :: ρ) := by rw [wE_var, G_21]; rfl
theorem Vm_21 (a0 a1 a2 a3 a4 a5 a6 a7 a8 a9 a10 a11 a12 a13 a14 a15 a16 a17 a18 a19 a20 : Option Sl) (m : Md) (b : Bool) (l : List D) (ρ : Sto) (Q : Opd → Sto → Prop) : wE (.var 21) (a0 :: a1 :: a2 :: a3 :: a4 :: a5 :: a6 :: a7 :: a8 :: a9 :: a10 :: a11 :: a12 :: a13 :: a14 :: a15 :: a16 :: a17 :: a18 :: a19 :: a20 :: some (.mut m b l) :: ρ) Q = Q (.slot 21) (a0 :: a1 :: a2 :: a3 :: a4 :: a5 :: a6 :: a7 :: a8 :: a9 :: a10 :: a11 :: a12 :: a13 :: a14 :: a15 :: a16 :: a17 :: a18 :: a19 :: a20 :: some (.mut m b l) :: ρ) := by rw [wE_var, G_21]; rfl
theorem G_22 (a0 a1 a2 a3 a4 a5 a6 a7 a8 a9 a10 a11 a12 a13 a14 a15 a16 a17 a18 a19 a20 a21 a22 : Option Sl) (ρ : Sto) : getS (a0 :: a1 :: a2 :: a3 :: a4 :: a5 :: a6 :: a7 :: a8 :: a9 :: a10 :: a11 :: a12 :: a13 :: a14 :: a15 :: a16 :: a17 :: a18 :: a19 :: a20 :: a21 :: a22 :: ρ) 22 = a22 := (getS_s _ _ _).trans (G_21 a1 a2 a3 a4 a5 a6 a7 a8 a9 a10 a11 a12 a13 a14 a15 a16 a17 a18 a19 a20 a21 a22 ρ)
theorem L_22 {α : Type} (a0 a1 a2 a3 a4 a5 a6 a7 a8 a9 a10 a11 a12 a13 a14 a15 a16 a17 a18 a19 a20 a21 a22 y : α) (ρ : List α) : List.set (a0 :: a1 :: a2 :: a3 :: a4 :: a5 :: a6 :: a7 :: a8 :: a9 :: a10 :: a11 :: a12 :: a13 :: a14 :: a15 :: a16 :: a17 :: a18 :: a19 :: a20 :: a21 :: a22 :: ρ) 22 y = a0 :: a1 :: a2 :: a3 :: a4 :: a5 :: a6 :: a7 :: a8 :: a9 :: a10 :: a11 :: a12 :: a13 :: a14 :: a15 :: a16 :: a17 :: a18 :: a19 :: a20 :: a21 :: y :: ρ := Eq.trans rfl rfl
theorem Vf_22 (a0 a1 a2 a3 a4 a5 a6 a7 a8 a9 a10 a11 a12 a13 a14 a15 a16 a17 a18 a19 a20 a21 : Option Sl) (d : D) (ρ : Sto) (Q : Opd → Sto → Prop) : wE (.var 22) (a0 :: a1 :: a2 :: a3 :: a4 :: a5 :: a6 :: a7 :: a8 :: a9 :: a10 :: a11 :: a12 :: a13 :: a14 :: a15 :: a16 :: a17 :: a18 :: a19 :: a20 :: a21 :: some (.frz d) :: ρ) Q = Q (.val (.frz d)) (a0 :: a1 :: a2 :: a3 :: a4 :: a5 :: a6 :: a7 :: a8 :: a9 :: a10 :: a11 :: a12 :: a13 :: a14 :: a15 :: a16 :: a17 :: a18 :: a19 :: a20 :: a21 :: some (.frz d) :: ρ) := by rw [wE_var, G_22]; rfl
theorem Vt_22 (a0 a1 a2 a3 a4 a5 a6 a7 a8 a9 a10 a11 a12 a13 a14 a15 a16 a17 a18 a19 a20 a21 : Option Sl) (d : D) (ρ : Sto) (Q : Opd → Sto → Prop) : wE (.var 22) (a0 :: a1 :: a2 :: a3 :: a4 :: a5 :: a6 :: a7 :: a8 :: a9 :: a10 :: a11 :: a12 :: a13 :: a14 :: a15 :: a16 :: a17 :: a18 :: a19 :: a20 :: a21 :: some (.tmp d) :: ρ) Q = Q (.val (.frz d)) (a0 :: a1 :: a2 :: a3 :: a4 :: a5 :: a6 :: a7 :: a8 :: a9 :: a10 :: a11 :: a12 :: a13 :: a14 :: a15 :: a16 :: a17 :: a18 :: a19 :: a20 :: a21 :: some (.tmp d) :: ρ) := by rw [wE_var, G_22]; rfl
theorem Vm_22 (a0 a1 a2 a3 a4 a5 a6 a7 a8 a9 a10 a11 a12 a13 a14 a15 a16 a17 a18 a19 a20 a21 : Option Sl) (m : Md) (b : Bool) (l : List D) (ρ : Sto) (Q : Opd → Sto → Prop) : wE (.var 22) (a0 :: a1 :: a2 :: a3 :: a4 :: a5 :: a6 :: a7 :: a8 :: a9 :: a10 :: a11 :: a12 :: a13 :: a14 :: a15 :: a16 :: a17 :: a18 :: a19 :: a20 :: a21 :: some (.mut m b l) :: ρ) Q = Q (.slot 22) (a0 :: a1 :: a2 :: a3 :: a4 :: a5 :: a6 :: a7 :: a8 :: a9 :: a10 :: a11 :: a12 :: a13 :: a14 :: a15 :: a16 :: a17 :: a18 :: a19 :: a20 :: a21 :: some (.mut m b l) :: ρ) := by rw [wE_var, G_22]; rfl
theorem G_23 (a0 a1 a2 a3 a4 a5 a6 a7 a8 a9 a10 a11 a12 a13 a14 a15 a16 a17 a18 a19 a20 a21 a22 a23 : Option Sl) (ρ : Sto) : getS (a0 :: a1 :: a2 :: a3 :: a4 :: a5 :: a6 :: a7 :: a8 :: a9 :: a10 :: a11 :: a12 :: a13 :: a14 :: a15 :: a16 :: a17 :: a18 :: a19 :: a20 :: a21 :: a22 :: a23 :: ρ) 23 = a23 := (getS_s _ _ _).trans (G_22 a1 a2 a3 a4 a5 a6 a7 a8 a9 a10 a11 a12 a13 a14 a15 a16 a17 a18 a19 a20 a21 a22 a23 ρ)
theorem L_23 {α : Type} (a0 a1 a2 a3 a4 a5 a6 a7 a8 a9 a10 a11 a12 a13 a14 a15 a16 a17 a18 a19 a20 a21 a22 a23 y : α) (ρ : List α) : List.set (a0 :: a1 :: a2 :: a3 :: a4 :: a5 :: a6 :: a7 :: a8 :: a9 :: a10 :: a11 :: a12 :: a13 :: a14 :: a15 :: a16 :: a17 :: a18 :: a19 :: a20 :: a21 :: a22 :: a23 :: ρ) 23 y = a0 :: a1 :: a2 :: a3 :: a4 :: a5 :: a6 :: a7 :: a8 :: a9 :: a10 :: a11 :: a12 :: a13 :: a14 :: a15 :: a16 :: a17 :: a18 :: a19 :: a20 :: a21 :: a22 :: y :: ρ := Eq.trans rfl rfl
theorem Vf_23 (a0 a1 a2 a3 a4 a5 a6 a7 a8 a9 a10 a11 a12 a13 a14 a15 a16 a17 a18 a19 a20 a21 a22 : Option Sl) (d : D) (ρ : Sto) (Q : Opd → Sto → Prop) : wE (.var 23) (a0 :: a1 :: a2 :: a3 :: a4 :: a5 :: a6 :: a7 :: a8 :: a9 :: a10 :: a11 :: a12 :: a13 :: a14 :: a15 :: a16 :: a17 :: a18 :: a19 :: a20 :: a21 :: a22 :: some (.frz d) :: ρ) Q = Q (.val (.frz d)) (a0 :: a1 :: a2 :: a3 :: a4 :: a5 :: a6 :: a7 :: a8 :: a9 :: a10 :: a11 :: a12 :: a13 :: a14 :: a15 :: a16 :: a17 :: a18 :: a19 :: a20 :: a21 :: a22 :: some (.frz d) :: ρ) := by rw [wE_var, G_23]; rfl
theorem Vt_23 (a0 a1 a2 a3 a4 a5 a6 a7 a8 a9 a10 a11 a12 a13 a14 a15 a16 a17 a18 a19 a20 a21 a22 : Option Sl) (d : D) (ρ : Sto) (Q : Opd → Sto → Prop) : wE (.var 23) (a0 :: a1 :: a2 :: a3 :: a4 :: a5 :: a6 :: a7 :: a8 :: a9 :: a10 :: a11 :: a12 :: a13 :: a14 :: a15 :: a16 :: a17 :: a18 :: a19 :: a20 :: a21 :: a22 :: some (.tmp d) :: ρ) Q = Q (.val (.frz d)) (a0 :: a1 :: a2 :: a3 :: a4 :: a5 :: a6 :: a7 :: a8 :: a9 :: a10 :: a11 :: a12 :: a13 :: a14 :: a15 :: a16 :: a17 :: a18 :: a19 :: a20 :: a21 :: a22 :: some (.tmp d) :: ρ) := by rw [wE_var, G_23]; rfl
theorem Vm_23 (a0 a1 a2 a3 a4 a5 a6 a7 a8 a9 a10 a11 a12 a13 a14 a15 a16 a17 a18 a19 a20 a21 a22 : Option Sl) (m : Md) (b : Bool) (l : List D) (ρ : Sto) (Q : Opd → Sto → Prop) : wE (.var 23) (a0 :: a1 :: a2 :: a3 :: a4 :: a5 :: a6 :: a7 :: a8 :: a9 :: a10 :: a11 :: a12 :: a13 :: a14 :: a15 :: a16 :: a17 :: a18 :: a19 :: a20 :: a21 :: a22 :: some (.mut m b l) :: ρ) Q = Q (.slot 23) (a0 :: a1 :: a2 :: a3 :: a4 :: a5 :: a6 :: a7 :: a8 :: a9 :: a10 :: a11 :: a12 :: a13 :: a14 :: a15 :: a16 :: a17 :: a18 :: a19 :: a20 :: a21 :: a22 :: some (.mut m b l) :: ρ) := by rw [wE_var, G_23]; rfl
theorem G_24 (a0 a1 a2 a3 a4 a5 a6 a7 a8 a9 a10 a11 a12 a13 a14 a15 a16 a17 a18 a19 a20 a21 a22 a23 a24 : Option Sl) (ρ : Sto) : getS (a0 :: a1 :: a2 :: a3 :: a4 :: a5 :: a6 :: a7 :: a8 :: a9 :: a10 :: a11 :: a12 :: a13 :: a14 :: a15 :: a16 :: a17 :: a18 :: a19 :: a20 :: a21 :: a22 :: a23 :: a24 :: ρ) 24 = a24 := (getS_s _ _ _).trans (G_23 a1 a2 a3 a4 a5 a6 a7 a8 a9 a10 a11 a12 a13 a14 a15 a16 a17 a18 a19 a20 a21 a22 a23 a24 ρ)
theorem L_24 {α : Type} (a0 a1 a2 a3 a4 a5 a6 a7 a8 a9 a10 a11 a12 a13 a14 a15 a16 a17 a18 a19 a20 a21 a22 a23 a24 y : α) (ρ : List α) : List.set (a0 :: a1 :: a2 :: a3 :: a4 :: a5 :: a6 :: a7 :: a8 :: a9 :: a10 :: a11 :: a12 :: a13 :: a14 :: a15 :: a16 :: a17 :: a18 :: a19 :: a20 :: a21 :: a22 :: a23 :: a24 :: ρ) 24 y = a0 :: a1 :: a2 :: a3 :: a4 :: a5 :: a6 :: a7 :: a8 :: a9 :: a10 :: a11 :: a12 :: a13 :: a14 :: a15 :: a16 :: a17 :: a18 :: a19 :: a20 :: a21 :: a22 :: a23 :: y :: ρ := Eq.trans rfl rfl
theorem Vf_24 (a0 a1 a2 a3 a4 a5 a6 a7 a8 a9 a10 a11 a12 a13 a14 a15 a16 a17 a18 a19 a20 a21 a22 a23 : Option Sl) (d : D) (ρ : Sto) (Q : Opd → Sto → Prop) : wE (.var 24) (a0 :: a1 :: a2 :: a3 :: a4 :: a5 :: a6 :: a7 :: a8 :: a9 :: a10 :: a11 :: a12 :: a13 :: a14 :: a15 :: a16 :: a17 :: a18 :: a19 :: a20 :: a21 :: a22 :: a23 :: some (.frz d) :: ρ) Q = Q (.val (.frz d)) (a0 :: a1 :: a2 :: a3 :: a4 :: a5 :: a6 :: a7 :: a8 :: a9 :: a10 :: a11 :: a12 :: a13 :: a14 :: a15 :: a16 :: a17 :: a18 :: a19 :: a20 :: a21 :: a22 :: a23 :: some (.frz d) :: ρ) := by rw [wE_var, G_24]; rfl
theorem Vt_24 (a0 a1 a2 a3 a4 a5 a6 a7 a8 a9 a10 a11 a12 a13 a14 a15 a16 a17 a18 a19 a20 a21 a22 a23 : Option Sl) (d : D) (ρ : Sto) (Q : Opd → Sto → Prop) : wE (.var 24) (a0 :: a1 :: a2 :: a3 :: a4 :: a5 :: a6 :: a7 :: a8 :: a9 :: a10 :: a11 :: a12 :: a13 :: a14 :: a15 :: a16 :: a17 :: a18 :: a19 :: a20 :: a21 :: a22 :: a23 :: some (.tmp d) :: ρ) Q = Q (.val (.frz d)) (a0 :: a1 :: a2 :: a3 :: a4 :: a5 :: a6 :: a7 :: a8 :: a9 :: a10 :: a11 :: a12 :: a13 :: a14 :: a15 :: a16 :: a17 :: a18 :: a19 :: a20 :: a21 :: a22 :: a23 :: some (.tmp d) :: ρ) := by rw [wE_var, G_24]; rfl
theorem Vm_24 (a0 a1 a2 a3 a4 a5 a6 a7 a8 a9 a10 a11 a12 a13 a14 a15 a16 a17 a18 a19 a20 a21 a22 a23 : Option Sl) (m : Md) (b : Bool) (l : List D) (ρ : Sto) (Q : Opd → Sto → Prop) : wE (.var 24) (a0 :: a1 :: a2 :: a3 :: a4 :: a5 :: a6 :: a7 :: a8 :: a9 :: a10 :: a11 :: a12 :: a13 :: a14 :: a15 :: a16 :: a17 :: a18 :: a19 :: a20 :: a21 :: a22 :: a23 :: some (.mut m b l) :: ρ) Q = Q (.slot 24) (a0 :: a1 :: a2 :: a3 :: a4 :: a5 :: a6 :: a7 :: a8 :: a9 :: a10 :: a11 :: a12 :: a13 :: a14 :: a15 :: a16 :: a17 :: a18 :: a19 :: a20 :: a21 :: a22 :: a23 :: some (.mut m b l) :: ρ) := by rw [wE_var, G_24]; rfl
theorem G_25 (a0 a1 a2 a3 a4 a5 a6 a7 a8 a9 a10 a11 a12 a13 a14 a15 a16 a17 a18 a19 a20 a21 a22 a23 a24 a25 : Option Sl) (ρ : Sto) : getS (a0 :: a1 :: a2 :: a3 :: a4 :: a5 :: a6 :: a7 :: a8 :: a9 :: a10 :: a11 :: a12 :: a13 :: a14 :: a15 :: a16 :: a17 :: a18 :: a19 :: a20 :: a21 :: a22 :: a23 :: a24 :: a25 :: ρ) 25 = a25 := (getS_s _ _ _).trans (G_24 a1 a2 a3 a4 a5 a6 a7 a8 a9 a10 a11 a12 a13 a14 a15 a16 a17 a18 a19 a20 a21 a22 a23 a24 a25 ρ)
theorem L_25 {α : Type} (a0 a1 a2 a3 a4 a5 a6 a7 a8 a9 a10 a11 a12 a13 a14 a15 a16 a17 a18 a19 a20 a21 a22 a23 a24 a25 y : α) (ρ : List α) : List.set (a0 :: a1 :: a2 :: a3 :: a4 :: a5 :: a6 :: a7 :: a8 :: a9 :: a10 :: a11 :: a12 :: a13 :: a14 :: a15 :: a16 :: a17 :: a18 :: a19 :: a20 :: a21 :: a22 :: a23 :: a24 :: a25 :: ρ) 25 y = a0 :: a1 :: a2 :: a3 :: a4 :: a5 :: a6 :: a7 :: a8 :: a9 :: a10 :: a11 :: a12 :: a13 :: a14 :: a15 :: a16 :: a17 :: a18 :: a19 :: a20 :: a21 :: a22 :: a23 :: a24 :: y :: ρ := Eq.trans rfl rfl
theorem Vf_25 (a0 a1 a2 a3 a4 a5 a6 a7 a8 a9 a10 a11 a12 a13 a14 a15 a16 a17 a18 a19 a20 a21 a22 a23 a24 : Option Sl) (d : D) (ρ : Sto) (Q : Opd → Sto → Prop) : wE (.var 25) (a0 :: a1 :: a2 :: a3 :: a4 :: a5 :: a6 :: a7 :: a8 :: a9 :: a10 :: a11 :: a12 :: a13 :: a14 :: a15 :: a16 :: a17 :: a18 :: a19 :: a20 :: a21 :: a22 :: a23 :: a24 :: some (.frz d) :: ρ) Q = Q (.val (.frz d)) (a0 :: a1 :: a2 :: a3 :: a4 :: a5 :: a6 :: a7 :: a8 :: a9 :: a10 :: a11 :: a12 :: a13 :: a14 :: a15 :: a16 :: a17 :: a18 :: a19 :: a20 :: a21 :: a22 :: a23 :: a24 :: some (.frz d) :: ρ) := by rw [wE_var, G_25]; rfl
theorem Vt_25 (a0 a1 a2 a3 a4 a5 a6 a7 a8 a9 a10 a11 a12 a13 a14 a15 a16 a17 a18 a19 a20 a21 a22 a23 a24 : Option Sl) (d : D) (ρ : Sto) (Q : Opd → Sto → Prop) : wE (.var 25) (a0 :: a1 :: a2 :: a3 :: a4 :: a5 :: a6 :: a7 :: a8 :: a9 :: a10 :: a11 :: a12 :: a13 :: a14 :: a15 :: a16 :: a17 :: a18 :: a19 :: a20 :: a21 :: a22 :: a23 :: a24 :: some (.tmp d) :: ρ) Q = Q (.val (.frz d)) (a0 :: a1 :: a2 :: a3 :: a4 :: a5 :: a6 :: a7 :: a8 :: a9 :: a10 :: a11 :: a12 :: a13 :: a14 :: a15 :: a16 :: a17 :: a18 :: a19 :: a20 :: a21 :: a22 :: a23 :: a24 :: some (.tmp d) :: ρ) := by rw [wE_var, G_25]; rfl
theorem Vm_25 (a0 a1 a2 a3 a4 a5 a6 a7 a8 a9 a10 a11 a12 a13 a14 a15 a16 a17 a18 a19 a20 a21 a22 a23 a24 : Option Sl) (m : Md) (b : Bool) (l : List D) (ρ : Sto) (Q : Opd → Sto → Prop) : wE (.var 25) (a0 :: a1 :: a2 :: a3 :: a4 :: a5 :: a6 :: a7 :: a8 :: a9 :: a10 :: a11 :: a12 :: a13 :: a14 :: a15 :: a16 :: a17 :: a18 :: a19 :: a20 :: a21 :: a22 :: a23 :: a24 :: some (.mut m b l) :: ρ) Q = Q (.slot 25) (a0 :: a1 :: a2 :: a3 :: a4 :: a5 :: a6 :: a7 :: a8 :: a9 :: a10 :: a11 :: a12 :: a13 :: a14 :: a15 :: a16 :: a17 :: a18 :: a19 :: a20 :: a21 :: a22 :: a23 :: a24 :: some (.mut m b l) :: ρ) := by rw [wE_var, G_25]; rfl
theorem G_26 (a0 a1 a2 a3 a4 a5 a6 a7 a8 a9 a10 a11 a12 a13 a14 a15 a16 a17 a18 a19 a20 a21 a22 a23 a24 a25 a26 : Option Sl) (ρ : Sto) : getS (a0 :: a1 :: a2 :: a3 :: a4 :: a5 :: a6 :: a7 :: a8 :: a9 :: a10 :: a11 :: a12 :: a13 :: a14 :: a15 :: a16 :: a17 :: a18 :: a19 :: a20 :: a21 :: a22 :: a23 :: a24 :: a25 :: a26 :: ρ) 26 = a26 := (getS_s _ _ _).trans (G_25 a1 a2 a3 a4 a5 a6 a7 a8 a9 a10 a11 a12 a13 a14 a15 a16 a17 a18 a19 a20 a21 a22 a23 a24 a25 a26 ρ)
theorem L_26 {α : Type} (a0 a1 a2 a3 a4 a5 a6 a7 a8 a9 a10 a11 a12 a13 a14 a15 a16 a17 a18 a19 a20 a21 a22 a23 a24 a25 a26 y : α) (ρ : List α) : List.set (a0 :: a1 :: a2 :: a3 :: a4 :: a5 :: a6 :: a7 :: a8 :: a9 :: a10 :: a11 :: a12 :: a13 :: a14 :: a15 :: a16 :: a17 :: a18 :: a19 :: a20 :: a21 :: a22 :: a23 :: a24 :: a25 :: a26 :: ρ) 26 y = a0 :: a1 :: a2 :: a3 :: a4 :: a5 :: a6 :: a7 :: a8 :: a9 :: a10 :: a11 :: a12 :: a13 :: a14 :: a15 :: a16 :: a17 :: a18 :: a19 :: a20 :: a21 :: a22 :: a23 :: a24 :: a25 :: y :: ρ := Eq.trans rfl rfl
theorem Vf_26 (a0 a1 a2 a3 a4 a5 a6 a7 a8 a9 a10 a11 a12 a13 a14 a15 a16 a17 a18 a19 a20 a21 a22 a23 a24 a25 : Option Sl) (d : D) (ρ : Sto) (Q : Opd → Sto → Prop) : wE (.var 26) (a0 :: a1 :: a2 :: a3 :: a4 :: a5 :: a6 :: a7 :: a8 :: a9 :: a10 :: a11 :: a12 :: a13 :: a14 :: a15 :: a16 :: a17 :: a18 :: a19 :: a20 :: a21 :: a22 :: a23 :: a24 :: a25 :: some (.frz d) :: ρ) Q = Q (.val (.frz d)) (a0 :: a1 :: a2 :: a3 :: a4 :: a5 :: a6 :: a7 :: a8 :: a9 :: a10 :: a11 :: a12 :: a13 :: a14 :: a15 :: a16 :: a17 :: a18 :: a19 :: a20 :: a21 :: a22 :: a23 :: a24 :: a25 :: some (.frz d) :: ρ) := by rw [wE_var, G_26]; rfl
theorem Vt_26 (a0 a1 a2 a3 a4 a5 a6 a7 a8 a9 a10 a11 a12 a13 a14 a15 a16 a17 a18 a19 a20 a21 a22 a23 a24 a25 : Option Sl) (d : D) (ρ : Sto) (Q : Opd → Sto → Prop) : wE (.var 26) (a0 :: a1 :: a2 :: a3 :: a4 :: a5 :: a6 :: a7 :: a8 :: a9 :: a10 :: a11 :: a12 :: a13 :: a14 :: a15 :: a16 :: a17 :: a18 :: a19 :: a20 :: a21 :: a22 :: a23 :: a24 :: a25 :: some (.tmp d) :: ρ) Q = Q (.val (.frz d)) (a0 :: a1 :: a2 :: a3 :: a4 :: a5 :: a6 :: a7 :: a8 :: a9 :: a10 :: a11 :: a12 :: a13 :: a14 :: a15 :: a16 :: a17 :: a18 :: a19 :: a20 :: a21 :: a22 :: a23 :: a24 :: a25 :: some (.tmp d) :: ρ) := by rw [wE_var, G_26]; rfl
theorem Vm_26 (a0 a1 a2 a3 a4 a5 a6 a7 a8 a9 a10 a11 a12 a13 a14 a15 a16 a17 a18 a19 a20 a21 a22 a23 a24 a25 : Option Sl) (m : Md) (b : Bool) (l : List D) (ρ : Sto) (Q : Opd → Sto → Prop) : wE (.var 26) (a0 :: a1 :: a2 :: a3 :: a4 :: a5 :: a6 :: a7 :: a8 :: a9 :: a10 :: a11 :: a12 :: a13 :: a14 :: a15 :: a16 :: a17 :: a18 :: a19 :: a20 :: a21 :: a22 :: a23 :: a24 :: a25 :: some (.mut m b l) :: ρ) Q = Q (.slot 26) (a0 :: a1 :: a2 :: a3 :: a4 :: a5 :: a6 :: a7 :: a8 :: a9 :: a10 :: a11 :: a12 :: a13 :: a14 :: a15 :: a16 :: a17 :: a18 :: a19 :: a20 :: a21 :: a22 :: a23 :: a24 :: a25 :: some (.mut m b l) :: ρ) := by rw [wE_var, G_26]; rfl
theorem G_27 (a0 a1 a2 a3 a4 a5 a6 a7 a8 a9 a10 a11 a12 a13 a14 a15 a16 a17 a18 a19 a20 a21 a22 a23 a24 a25 a26 a27 : Option Sl) (ρ : Sto) : getS (a0 :: a1 :: a2 :: a3 :: a4 :: a5 :: a6 :: a7 :: a8 :: a9 :: a10 :: a11 :: a12 :: a13 :: a14 :: a15 :: a16 :: a17 :: a18 :: a19 :: a20 :: a21 :: a22 :: a23 :: a24 :: a25 :: a26 :: a27 :: ρ) 27 = a27 := (getS_s _ _ _).trans (G_26 a1 a2 a3 a4 a5 a6 a7 a8 a9 a10 a11 a12 a13 a14 a15 a16 a17 a18 a19 a20 a21 a22 a23 a24 a25 a26 a27 ρ)
theorem L_27 {α : Type} (a0 a1 a2 a3 a4 a5 a6 a7 a8 a9 a10 a11 a12 a13 a14 a15 a16 a17 a18 a19 a20 a21 a22 a23 a24 a25 a26 a27 y : α) (ρ : List α) : List.set (a0 :: a1 :: a2 :: a3 :: a4 :: a5 :: a6 :: a7 :: a8 :: a9 :: a10 :: a11 :: a12 :: a13 :: a14 :: a15 :: a16 :: a17 :: a18 :: a19 :: a20 :: a21 :: a22 :: a23 :: a24 :: a25 :: a26 :: a27 :: ρ) 27 y = a0 :: a1 :: a2 :: a3 :: a4 :: a5 :: a6 :: a7 :: a8 :: a9 :: a10 :: a11 :: a12 :: a13 :: a14 :: a15 :: a16 :: a17 :: a18 :: a19 :: a20 :: a21 :: a22 :: a23 :: a24 :: a25 :: a26 :: y :: ρ := Eq.trans rfl rfl
theorem Vf_27 (a0 a1 a2 a3 a4 a5 a6 a7 a8 a9 a10 a11 a12 a13 a14 a15 a16 a17 a18 a19 a20 a21 a22 a23 a24 a25 a26 : Option Sl) (d : D) (ρ : Sto) (Q : Opd → Sto → Prop) : wE (.var 27) (a0 :: a1 :: a2 :: a3 :: a4 :: a5 :: a6 :: a7 :: a8 :: a9 :: a10 :: a11 :: a12 :: a13 :: a14 :: a15 :: a16 :: a17 :: a18 :: a19 :: a20 :: a21 :: a22 :: a23 :: a24 :: a25 :: a26 :: some (.frz d) :: ρ) Q = Q (.val (.frz d)) (a0 :: a1 :: a2 :: a3 :: a4 :: a5 :: a6 :: a7 :: a8 :: a9 :: a10 :: a11 :: a12 :: a13 :: a14 :: a15 :: a16 :: a17 :: a18 :: a19 :: a20 :: a21 :: a22 :: a23 :: a24 :: a25 :: a26 :: some (.frz d) :: ρ) := by rw [wE_var, G_27]; rfl
theorem Vt_27 (a0 a1 a2 a3 a4 a5 a6 a7 a8 a9 a10 a11 a12 a13 a14 a15 a16 a17 a18 a19 a20 a21 a22 a23 a24 a25 a26 : Option Sl) (d : D) (ρ : Sto) (Q : Opd → Sto → Prop) : wE (.var 27) (a0 :: a1 :: a2 :: a3 :: a4 :: a5 :: a6 :: a7 :: a8 :: a9 :: a10 :: a11 :: a12 :: a13 :: a14 :: a15 :: a16 :: a17 :: a18 :: a19 :: a20 :: a21 :: a22 :: a23 :: a24 :: a25 :: a26 :: some (.tmp d) :: ρ) Q = Q (.val (.frz d)) (a0 :: a1 :: a2 :: a3 :: a4 :: a5 :: a6 :: a7 :: a8 :: a9 :: a10 :: a11 :: a12 :: a13 :: a14 :: a15 :: a16 :: a17 :: a18 :: a19 :: a20 :: a21 :: a22 :: a23 :: a24 :: a25 :: a26 :: some (.tmp d) :: ρ) := by rw [wE_var, G_27]; rfl
theorem Vm_27 (a0 a1 a2 a3 a4 a5 a6 a7 a8 a9 a10 a11 a12 a13 a14 a15 a16 a17 a18 a19 a20 a21 a22 a23 a24 a25 a26 : Option Sl) (m : Md) (b : Bool) (l : List D) (ρ : Sto) (Q : Opd → Sto → Prop) : wE (.var 27) (a0 :: a1 :: a2 :: a3 :: a4 :: a5 :: a6 :: a7 :: a8 :: a9 :: a10 :: a11 :: a12 :: a13 :: a14 :: a15 :: a16 :: a17 :: a18 :: a19 :: a20 :: a21 :: a22 :: a23 :: a24 :: a25 :: a26 :: some (.mut m b l) :: ρ) Q = Q (.slot 27) (a0 :: a1 :: a2 :: a3 :: a4 :: a5 :: a6 :: a7 :: a8 :: a9 :: a10 :: a11 :: a12 :: a13 :: a14 :: a15 :: a16 :: a17 :: a18 :: a19 :: a20 :: a21 :: a22 :: a23 :: a24 :: a25 :: a26 :: some (.mut m b l) :: ρ) := by rw [wE_var, G_27]; rfl
theorem G_28 (a0 a1 a2 a3 a4 a5 a6 a7 a8 a9 a10 a11 a12 a13 a14 a15 a16 a17 a18 a19 a20 a21 a22 a23 a24 a25 a26 a27 a28 : Option Sl) (ρ : Sto) : getS (a0 :: a1 :: a2 :: a3 :: a4 :: a5 :: a6 :: a7 :: a8 :: a9 :: a10 :: a11 :: a12 :: a13 :: a14 :: a15 :: a16 :: a17 :: a18 :: a19 :: a20 :: a21 :: a22 :: a23 :: a24 :: a25 :: a26 :: a27 :: a28 :: ρ) 28 = a28 := (getS_s _ _ _).trans (G_27 a1 a2 a3 a4 a5 a6 a7 a8 a9 a10 a11 a12 a13 a14 a15 a16 a17 a18 a19 a20 a21 a22 a23 a24 a25 a26 a27 a28 ρ)
theorem L_28 {α : Type} (a0 a1 a2 a3 a4 a5 a6 a7 a8 a9 a10 a11 a12 a13 a14 a15 a16 a17 a18 a19 a20 a21 a22 a23 a24 a25 a26 a27 a28 y : α) (ρ : List α) : List.set (a0 :: a1 :: a2 :: a3 :: a4 :: a5 :: a6 :: a7 :: a8 :: a9 :: a10 :: a11 :: a12 :: a13 :: a14 :: a15 :: a16 :: a17 :: a18 :: a19 :: a20 :: a21 :: a22 :: a23 :: a24 :: a25 :: a26 :: a27 :: a28 :: ρ) 28 y = a0 :: a1 :: a2 :: a3 :: a4 :: a5 :: a6 :: a7 :: a8 :: a9 :: a10 :: a11 :: a12 :: a13 :: a14 :: a15 :: a16 :: a17 :: a18 :: a19 :: a20 :: a21 :: a22 :: a23 :: a24 :: a25 :: a26 :: a27 :: y :: ρ := Eq.trans rfl rfl
theorem Vf_28 (a0 a1 a2 a3 a4 a5 a6 a7 a8 a9 a10 a11 a12 a13 a14 a15 a16 a17 a18 a19 a20 a21 a22 a23 a24 a25 a26 a27 : Option Sl) (d : D) (ρ : Sto) (Q : Opd → Sto → Prop) : wE (.var 28) (a0 :: a1 :: a2 :: a3 :: a4 :: a5 :: a6 :: a7 :: a8 :: a9 :: a10 :: a11 :: a12 :: a13 :: a14 :: a15 :: a16 :: a17 :: a18 :: a19 :: a20 :: a21 :: a22 :: a23 :: a24 :: a25 :: a26 :: a27 :: some (.frz d) :: ρ) Q = Q (.val (.frz d)) (a0 :: a1 :: a2 :: a3 :: a4 :: a5 :: a6 :: a7 :: a8 :: a9 :: a10 :: a11 :: a12 :: a13 :: a14 :: a15 :: a16 :: a17 :: a18 :: a19 :: a20 :: a21 :: a22 :: a23 :: a24 :: a25 :: a26 :: a27 :: some (.frz d) :: ρ) := by rw [wE_var, G_28]; rfl
theorem Vt_28 (a0 a1 a2 a3 a4 a5 a6 a7 a8 a9 a10 a11 a12 a13 a14 a15 a16 a17 a18 a19 a20 a21 a22 a23 a24 a25 a26 a27 : Option Sl) (d : D) (ρ : Sto) (Q : Opd → Sto → Prop) : wE (.var 28) (a0 :: a1 :: a2 :: a3 :: a4 :: a5 :: a6 :: a7 :: a8 :: a9 :: a10 :: a11 :: a12 :: a13 :: a14 :: a15 :: a16 :: a17 :: a18 :: a19 :: a20 :: a21 :: a22 :: a23 :: a24 :: a25 :: a26 :: a27 :: some (.tmp d) :: ρ) Q = Q (.val (.frz d)) (a0 :: a1 :: a2 :: a3 :: a4 :: a5 :: a6 :: a7 :: a8 :: a9 :: a10 :: a11 :: a12 :: a13 :: a14 :: a15 :: a16 :: a17 :: a18 :: a19 :: a20 :: a21 :: a22 :: a23 :: a24 :: a25 :: a26 :: a27 :: some (.tmp d) :: ρ) := by rw [wE_var, G_28]; rfl
theorem Vm_28 (a0 a1 a2 a3 a4 a5 a6 a7 a8 a9 a10 a11 a12 a13 a14 a15 a16 a17 a18 a19 a20 a21 a22 a23 a24 a25 a26 a27 : Option Sl) (m : Md) (b : Bool) (l : List D) (ρ : Sto) (Q : Opd → Sto → Prop) : wE (.var 28) (a0 :: a1 :: a2 :: a3 :: a4 :: a5 :: a6 :: a7 :: a8 :: a9 :: a10 :: a11 :: a12 :: a13 :: a14 :: a15 :: a16 :: a17 :: a18 :: a19 :: a20 :: a21 :: a22 :: a23 :: a24 :: a25 :: a26 :: a27 :: some (.mut m b l) :: ρ) Q = Q (.slot 28) (a0 :: a1 :: a2 :: a3 :: a4 :: a5 :: a6 :: a7 :: a8 :: a9 :: a10 :: a11 :: a12 :: a13 :: a14 :: a15 :: a16 :: a17 :: a18 :: a19 :: a20 :: a21 :: a22 :: a23 :: a24 :: a25 :: a26 :: a27 :: some (.mut m b l) :: ρ) := by rw [wE_var, G_28]; rfl
theorem G_29 (a0 a1 a2 a3 a4 a5 a6 a7 a8 a9 a10 a11 a12 a13 a14 a15 a16 a17 a18 a19 a20 a21 a22 a23 a24 a25 a26 a27 a28 a29 : Option Sl) (ρ : Sto) : getS (a0 :: a1 :: a2 :: a3 :: a4 :: a5 :: a6 :: a7 :: a8 :: a9 :: a10 :: a11 :: a12 :: a13 :: a14 :: a15 :: a16 :: a17 :: a18 :: a19 :: a20 :: a21 :: a22 :: a23 :: a24 :: a25 :: a26 :: a27 :: a28 :: a29 :: ρ) 29 = a29 := (getS_s _ _ _).trans (G_28 a1 a2 a3 a4 a5 a6 a7 a8 a9 a10 a11 a12 a13 a14 a15 a16 a17 a18 a19 a20 a21 a22 a23 a24 a25 a26 a27 a28 a29 ρ)
theorem L_29 {α : Type} (a0 a1 a2 a3 a4 a5 a6 a7 a8 a9 a10 a11 a12 a13 a14 a15 a16 a17 a18 a19 a20 a21 a22 a23 a24 a25 a26 a27 a28 a29 y : α) (ρ : List α) : List.set (a0 :: a1 :: a2 :: a3 :: a4 :: a5 :: a6 :: a7 :: a8 :: a9 :: a10 :: a11 :: a12 :: a13 :: a14 :: a15 :: a16 :: a17 :: a18 :: a19 :: a20 :: a21 :: a22 :: a23 :: a24 :: a25 :: a26 :: a27 :: a28 :: a29 :: ρ) 29 y = a0 :: a1 :: a2 :: a3 :: a4 :: a5 :: a6 :: a7 :: a8 :: a9 :: a10 :: a11 :: a12 :: a13 :: a14 :: a15 :: a16 :: a17 :: a18 :: a19 :: a20 :: a21 :: a22 :: a23 :: a24 :: a25 :: a26 :: a27 :: a28 :: y :: ρ := Eq.trans rfl rfl
theorem Vf_29 (a0 a1 a2 a3 a4 a5 a6 a7 a8 a9 a10 a11 a12 a13 a14 a15 a16 a17 a18 a19 a20 a21 a22 a23 a24 a25 a26 a27 a28 : Option Sl) (d : D) (ρ : Sto) (Q : Opd → Sto → Prop) : wE (.var 29) (a0 :: a1 :: a2 :: a3 :: a4 :: a5 :: a6 :: a7 :: a8 :: a9 :: a10 :: a11 :: a12 :: a13 :: a14 :: a15 :: a16 :: a17 :: a18 :: a19 :: a20 :: a21 :: a22 :: a23 :: a24 :: a25 :: a26 :: a27 :: a28 :: some (.frz d) :: ρ) Q = Q (.val (.frz d)) (a0 :: a1 :: a2 :: a3 :: a4 :: a5 :: a6 :: a7 :: a8 :: a9 :: a10 :: a11 :: a12 :: a13 :: a14 :: a15 :: a16 :: a17 :: a18 :: a19 :: a20 :: a21 :: a22 :: a23 :: a24 :: a25 :: a26 :: a27 :: a28 :: some (.frz d) :: ρ) := by rw [wE_var, G_29]; rfl
theorem Vt_29 (a0 a1 a2 a3 a4 a5 a6 a7 a8 a9 a10 a11 a12 a13 a14 a15 a16 a17 a18 a19 a20 a21 a22 a23 a24 a25 a26 a27 a28 : Option Sl) (d : D) (ρ : Sto) (Q : Opd → Sto → Prop) : wE (.var 29) (a0 :: a1 :: a2 :: a3 :: a4 :: a5 :: a6 :: a7 :: a8 :: a9 :: a10 :: a11 :: a12 :: a13 :: a14 :: a15 :: a16 :: a17 :: a18 :: a19 :: a20 :: a21 :: a22 :: a23 :: a24 :: a25 :: a26 :: a27 :: a28 :: some (.tmp d) :: ρ) Q = Q (.val (.frz d)) (a0 :: a1 :: a2 :: a3 :: a4 :: a5 :: a6 :: a7 :: a8 :: a9 :: a10 :: a11 :: a12 :: a13 :: a14 :: a15 :: a16 :: a17 :: a18 :: a19 :: a20 :: a21 :: a22 :: a23 :: a24 :: a25 :: a26 :: a27 :: a28 :: some (.tmp d) :: ρ) := by rw [wE_var, G_29]; rfl
theorem Vm_29 (a0 a1 a2 a3 a4 a5 a6 a7 a8 a9 a10 a11 a12 a13 a14 a15 a16 a17 a18 a19 a20 a21 a22 a23 a24 a25 a26 a27 a28 : Option Sl) (m : Md) (b : Bool) (l : List D) (ρ : Sto) (Q : Opd → Sto → Prop) : wE (.var 29) (a0 :: a1 :: a2 :: a3 :: a4 :: a5 :: a6 :: a7 :: a8 :: a9 :: a10 :: a11 :: a12 :: a13 :: a14 :: a15 :: a16 :: a17 :: a18 :: a19 :: a20 :: a21 :: a22 :: a23 :: a24 :: a25 :: a26 :: a27 :: a28 :: some (.mut m b l) :: ρ) Q = Q (.slot 29) (a0 :: a1 :: a2 :: a3 :: a4 :: a5 :: a6 :: a7 :: a8 :: a9 :: a10 :: a11 :: a12 :: a13 :: a14 :: a15 :: a16 :: a17 :: a18 :: a19 :: a20 :: a21 :: a22 :: a23 :: a24 :: a25 :: a26 :: a27 :: a28 :: some (.mut m b l) :: ρ) := by rw [wE_var, G_29]; rfl
theorem G_30 (a0 a1 a2 a3 a4 a5 a6 a7 a8 a9 a10 a11 a12 a13 a14 a15 a16 a17 a18 a19 a20 a21 a22 a23 a24 a25 a26 a27 a28 a29 a30 : Option Sl) (ρ : Sto) : getS (a0 :: a1 :: a2 :: a3 :: a4 :: a5 :: a6 :: a7 :: a8 :: a9 :: a10 :: a11 :: a12 :: a13 :: a14 :: a15 :: a16 :: a17 :: a18 :: a19 :: a20 :: a21 :: a22 :: a23 :: a24 :: a25 :: a26 :: a27 :: a28 :: a29 :: a30 :: ρ) 30 = a30 := (getS_s _ _ _).trans (G_29 a1 a2 a3 a4 a5 a6 a7 a8 a9 a10 a11 a12 a13 a14 a15 a16 a17 a18 a19 a20 a21 a22 a23 a24 a25 a26 a27 a28 a29 a30 ρ)
theorem L_30 {α : Type} (a0 a1 a2 a3 a4 a5 a6 a7 a8 a9 a10 a11 a12 a13 a14 a15 a16 a17 a18 a19 a20 a21 a22 a23 a24 a25 a26 a27 a28 a29 a30 y : α) (ρ : List α) : List.set (a0 :: a1 :: a2 :: a3 :: a4 :: a5 :: a6 :: a7 :: a8 :: a9 :: a10 :: a11 :: a12 :: a13 :: a14 :: a15 :: a16 :: a17 :: a18 :: a19 :: a20 :: a21 :: a22 :: a23 :: a24 :: a25 :: a26 :: a27 :: a28 :: a29 :: a30 :: ρ) 30 y = a0 :: a1 :: a2 :: a3 :: a4 :: a5 :: a6 :: a7 :: a8 :: a9 :: a10 :: a11 :: a12 :: a13 :: a14 :: a15 :: a16 :: a17 :: a18 :: a19 :: a20 :: a21 :: a22 :: a23 :: a24 :: a25 :: a26 :: a27 :: a28 :: a29 :: y :: ρ := Eq.trans rfl rfl
theorem Vf_30 (a0 a1 a2 a3 a4 a5 a6 a7 a8 a9 a10 a11 a12 a13 a14 a15 a16 a17 a18 a19 a20 a21 a22 a23 a24 a25 a26 a27 a28 a29 : Option Sl) (d : D) (ρ : Sto) (Q : Opd → Sto → Prop) : wE (.var 30) (a0 :: a1 :: a2 :: a3 :: a4 :: a5 :: a6 :: a7 :: a8 :: a9 :: a10 :: a11 :: a12 :: a13 :: a14 :: a15 :: a16 :: a17 :: a18 :: a19 :: a20 :: a21 :: a22 :: a23 :: a24 :: a25 :: a26 :: a27 :: a28 :: a29 :: some (.frz d) :: ρ) Q = Q (.val (.frz d)) (a0 :: a1 :: a2 :: a3 :: a4 :: a5 :: a6 :: a7 :: a8 :: a9 :: a10 :: a11 :: a12 :: a13 :: a14 :: a15 :: a16 :: a17 :: a18 :: a19 :: a20 :: a21 :: a22 :: a23 :: a24 :: a25 :: a26 :: a27 :: a28 :: a29 :: some (.frz d) :: ρ) := by rw [wE_var, G_30]; rfl
theorem Vt_30 (a0 a1 a2 a3 a4 a5 a6 a7 a8 a9 a10 a11 a12 a13 a14 a15 a16 a17 a18 a19 a20 a21 a22 a23 a24 a25 a26 a27 a28 a29 : Option Sl) (d : D) (ρ : Sto) (Q : Opd → Sto → Prop) : wE (.var 30) (a0 :: a1 :: a2 :: a3 :: a4 :: a5 :: a6 :: a7 :: a8 :: a9 :: a10 :: a11 :: a12 :: a13 :: a14 :: a15 :: a16 :: a17 :: a18 :: a19 :: a20 :: a21 :: a22 :: a23 :: a24 :: a25 :: a26 :: a27 :: a28 :: a29 :: some (.tmp d) :: ρ) Q = Q (.val (.frz d)) (a0 :: a1 :: a2 :: a3 :: a4 :: a5 :: a6 :: a7 :: a8 :: a9 :: a10 :: a11 :: a12 :: a13 :: a14 :: a15 :: a16 :: a17 :: a18 :: a19 :: a20 :: a21 :: a22 :: a23 :: a24 :: a25 :: a26 :: a27 :: a28 :: a29 :: some (.tmp d) :: ρ) := by rw [wE_var, G_30]; rfl
theorem Vm_30 (a0 a1 a2 a3 a4 a5 a6 a7 a8 a9 a10 a11 a12 a13 a14 a15 a16 a17 a18 a19 a20 a21 a22 a23 a24 a25 a26 a27 a28 a29 : Option Sl) (m : Md) (b : Bool) (l : List D) (ρ : Sto) (Q : Opd → Sto → Prop) : wE (.var 30) (a0 :: a1 :: a2 :: a3 :: a4 :: a5 :: a6 :: a7 :: a8 :: a9 :: a10 :: a11 :: a12 :: a13 :: a14 :: a15 :: a16 :: a17 :: a18 :: a19 :: a20 :: a21 :: a22 :: a23 :: a24 :: a25 :: a26 :: a27 :: a28 :: a29 :: some (.mut m b l) :: ρ) Q = Q (.slot 30) (a0 :: a1 :: a2 :: a3 :: a4 :: a5 :: a6 :: a7 :: a8 :: a9 :: a10 :: a11 :: a12 :: a13 :: a14 :: a15 :: a16 :: a17 :: a18 :: a19 :: a20 :: a21 :: a22 :: a23 :: a24 :: a25 :: a26 :: a27 :: a28 :: a29 :: some (.mut m b l) :: ρ) := by rw [wE_var, G_30]; rfl
theorem G_31 (a0 a1 a2 a3 a4 a5 a6 a7 a8 a9 a10 a11 a12 a13 a14 a15 a16 a17 a18 a19 a20 a21 a22 a23 a24 a25 a26 a27 a28 a29 a30 a31 : Option Sl) (ρ : Sto) : getS (a0 :: a1 :: a2 :: a3 :: a4 :: a5 :: a6 :: a7 :: a8 :: a9 :: a10 :: a11 :: a12 :: a13 :: a14 :: a15 :: a16 :: a17 :: a18 :: a19 :: a20 :: a21 :: a22 :: a23 :: a24 :: a25 :: a26 :: a27 :: a28 :: a29 :: a30 :: a31 :: ρ) 31 = a31 := (getS_s _ _ _).trans (G_30 a1 a2 a3 a4 a5 a6 a7 a8 a9 a10 a11 a12 a13 a14 a15 a16 a17 a18 a19 a20 a21 a22 a23 a24 a25 a26 a27 a28 a29 a30 a31 ρ)
theorem L_31 {α : Type} (a0 a1 a2 a3 a4 a5 a6 a7 a8 a9 a10 a11 a12 a13 a14 a15 a16 a17 a18 a19 a20 a21 a22 a23 a24 a25 a26 a27 a28 a29 a30 a31 y : α) (ρ : List α) : List.set (a0 :: a1 :: a2 :: a3 :: a4 :: a5 :: a6 :: a7 :: a8 :: a9 :: a10 :: a11 :: a12 :: a13 :: a14 :: a15 :: a16 :: a17 :: a18 :: a19 :: a20 :: a21 :: a22 :: a23 :: a24 :: a25 :: a26 :: a27 :: a28 :: a29 :: a30 :: a31 :: ρ) 31 y = a0 :: a1 :: a2 :: a3 :: a4 :: a5 :: a6 :: a7 :: a8 :: a9 :: a10 :: a11 :: a12 :: a13 :: a14 :: a15 :: a16 :: a17 :: a18 :: a19 :: a20 :: a21 :: a22 :: a23 :: a24 :: a25 :: a26 :: a27 :: a28 :: a29 :: a30 :: y :: ρ := Eq.trans rfl rfl
theorem Vf_31 (a0 a1 a2 a3 a4 a5 a6 a7 a8 a9 a10 a11 a12 a13 a14 a15 a16 a17 a18 a19 a20 a21 a22 a23 a24 a25 a26 a27 a28 a29 a30 : Option Sl) (d : D) (ρ : Sto) (Q : Opd → Sto → Prop) : wE (.var 31) (a0 :: a1 :: a2 :: a3 :: a4 :: a5 :: a6 :: a7 :: a8 :: a9 :: a10 :: a11 :: a12 :: a13 :: a14 :: a15 :: a16 :: a17 :: a18 :: a19 :: a20 :: a21 :: a22 :: a23 :: a24 :: a25 :: a26 :: a27 :: a28 :: a29 :: a30 :: some (.frz d) :: ρ) Q = Q (.val (.frz d)) (a0 :: a1 :: a2 :: a3 :: a4 :: a5 :: a6 :: a7 :: a8 :: a9 :: a10 :: a11 :: a12 :: a13 :: a14 :: a15 :: a16 :: a17 :: a18 :: a19 :: a20 :: a21 :: a22 :: a23 :: a24 :: a25 :: a26 :: a27 :: a28 :: a29 :: a30 :: some (.frz d) :: ρ) := by rw [wE_var, G_31]; rfl
theorem Vt_31 (a0 a1 a2 a3 a4 a5 a6 a7 a8 a9 a10 a11 a12 a13 a14 a15 a16 a17 a18 a19 a20 a21 a22 a23 a24 a25 a26 a27 a28 a29 a30 : Option Sl) (d : D) (ρ : Sto) (Q : Opd → Sto → Prop) : wE (.var 31) (a0 :: a1 :: a2 :: a3 :: a4 :: a5 :: a6 :: a7 :: a8 :: a9 :: a10 :: a11 :: a12 :: a13 :: a14 :: a15 :: a16 :: a17 :: a18 :: a19 :: a20 :: a21 :: a22 :: a23 :: a24 :: a25 :: a26 :: a27 :: a28 :: a29 :: a30 :: some (.tmp d) :: ρ) Q = Q (.val (.frz d)) (a0 :: a1 :: a2 :: a3 :: a4 :: a5 :: a6 :: a7 :: a8 :: a9 :: a10 :: a11 :: a12 :: a13 :: a14 :: a15 :: a16 :: a17 :: a18 :: a19 :: a20 :: a21 :: a22 :: a23 :: a24 :: a25 :: a26 :: a27 :: a28 :: a29 :: a30 :: some (.tmp d) :: ρ) := by rw [wE_var, G_31]; rfl
theorem Vm_31 (a0 a1 a2 a3 a4 a5 a6 a7 a8 a9 a10 a11 a12 a13 a14 a15 a16 a17 a18 a19 a20 a21 a22 a23 a24 a25 a26 a27 a28 a29 a30 : Option Sl) (m : Md) (b : Bool) (l : List D) (ρ : Sto) (Q : Opd → Sto → Prop) : wE (.var 31) (a0 :: a1 :: a2 :: a3 :: a4 :: a5 :: a6 :: a7 :: a8 :: a9 :: a10 :: a11 :: a12 :: a13 :: a14 :: a15 :: a16 :: a17 :: a18 :: a19 :: a20 :: a21 :: a22 :: a23 :: a24 :: a25 :: a26 :: a27 :: a28 :: a29 :: a30 :: some (.mut m b l) :: ρ) Q = Q (.slot 31) (a0 :: a1 :: a2 :: a3 :: a4 :: a5 :: a6 :: a7 :: a8 :: a9 :: a10 :: a11 :: a12 :: a13 :: a14 :: a15 :: a16 :: a17 :: a18 :: a19 :: a20 :: a21 :: a22 :: a23 :: a24 :: a25 :: a26 :: a27 :: a28 :: a29 :: a30 :: some (.mut m b l) :: ρ) := by rw [wE_var, G_31]; rfl
theorem G_32 (a0 a1 a2 a3 a4 a5 a6 a7 a8 a9 a10 a11 a12 a13 a14 a15 a16 a17 a18 a19 a20 a21 a22 a23 a24 a25 a26 a27 a28 a29 a30 a31 a32 : Option Sl) (ρ : Sto) : getS (a0 :: a1 :: a2 :: a3 :: a4 :: a5 :: a6 :: a7 :: a8 :: a9 :: a10 :: a11 :: a12 :: a13 :: a14 :: a15 :: a16 :: a17 :: a18 :: a19 :: a20 :: a21 :: a22 :: a23 :: a24 :: a25 :: a26 :: a27 :: a28 :: a29 :: a30 :: a31 :: a32 :: ρ) 32 = a32 := (getS_s _ _ _).trans (G_31 a1 a2 a3 a4 a5 a6 a7 a8 a9 a10 a11 a12 a13 a14 a15 a16 a17 a18 a19 a20 a21 a22 a23 a24 a25 a26 a27 a28 a29 a30 a31 a32 ρ)
theorem L_32 {α : Type} (a0 a1 a2 a3 a4 a5 a6 a7 a8 a9 a10 a11 a12 a13 a14 a15 a16 a17 a18 a19 a20 a21 a22 a23 a24 a25 a26 a27 a28 a29 a30 a31 a32 y : α) (ρ : List α) : List.set (a0 :: a1 :: a2 :: a3 :: a4 :: a5 :: a6 :: a7 :: a8 :: a9 :: a10 :: a11 :: a12 :: a13 :: a14 :: a15 :: a16 :: a17 :: a18 :: a19 :: a20 :: a21 :: a22 :: a23 :: a24 :: a25 :: a26 :: a27 :: a28 :: a29 :: a30 :: a31 :: a32 :: ρ) 32 y = a0 :: a1 :: a2 :: a3 :: a4 :: a5 :: a6 :: a7 :: a8 :: a9 :: a10 :: a11 :: a12 :: a13 :: a14 :: a15 :: a16 :: a17 :: a18 :: a19 :: a20 :: a21 :: a22 :: a23 :: a24 :: a25 :: a26 :: a27 :: a28 :: a29 :: a30 :: a31 :: y :: ρ := Eq.trans rfl rfl
theorem Vf_32 (a0 a1 a2 a3 a4 a5 a6 a7 a8 a9 a10 a11 a12 a13 a14 a15 a16 a17 a18 a19 a20 a21 a22 a23 a24 a25 a26 a27 a28 a29 a30 a31 : Option Sl) (d : D) (ρ : Sto) (Q : Opd → Sto → Prop) : wE (.var 32) (a0 :: a1 :: a2 :: a3 :: a4 :: a5 :: a6 :: a7 :: a8 :: a9 :: a10 :: a11 :: a12 :: a13 :: a14 :: a15 :: a16 :: a17 :: a18 :: a19 :: a20 :: a21 :: a22 :: a23 :: a24 :: a25 :: a26 :: a27 :: a28 :: a29 :: a30 :: a31 :: some (.frz d) :: ρ) Q = Q (.val (.frz d)) (a0 :: a1 :: a2 :: a3 :: a4 :: a5 :: a6 :: a7 :: a8 :: a9 :: a10 :: a11 :: a12 :: a13 :: a14 :: a15 :: a16 :: a17 :: a18 :: a19 :: a20 :: a21 :: a22 :: a23 :: a24 :: a25 :: a26 :: a27 :: a28 :: a29 :: a30 :: a31 :: some (.frz d) :: ρ) := by rw [wE_var, G_32]; rfl
theorem Vt_32 (a0 a1 a2 a3 a4 a5 a6 a7 a8 a9 a10 a11 a12 a13 a14 a15 a16 a17 a18 a19 a20 a21 a22 a23 a24 a25 a26 a27 a28 a29 a30 a31 : Option Sl) (d : D) (ρ : Sto) (Q : Opd → Sto → Prop) : wE (.var 32) (a0 :: a1 :: a2 :: a3 :: a4 :: a5 :: a6 :: a7 :: a8 :: a9 :: a10 :: a11 :: a12 :: a13 :: a14 :: a15 :: a16 :: a17 :: a18 :: a19 :: a20 :: a21 :: a22 :: a23 :: a24 :: a25 :: a26 :: a27 :: a28 :: a29 :: a30 :: a31 :: some (.tmp d) :: ρ) Q = Q (.val (.frz d)) (a0 :: a1 :: a2 :: a3 :: a4 :: a5 :: a6 :: a7 :: a8 :: a9 :: a10 :: a11 :: a12 :: a13 :: a14 :: a15 :: a16 :: a17 :: a18 :: a19 :: a20 :: a21 :: a22 :: a23 :: a24 :: a25 :: a26 :: a27 :: a28 :: a29 :: a30 :: a31 :: some (.tmp d) :: ρ) := by rw [wE_var, G_32]; rfl
theorem Vm_32 (a0 a1 a2 a3 a4 a5 a6 a7 a8 a9 a10 a11 a12 a13 a14 a15 a16 a17 a18 a19 a20 a21 a22 a23 a24 a25 a26 a27 a28 a29 a30 a31 : Option Sl) (m : Md) (b : Bool) (l : List D) (ρ : Sto) (Q : Opd → Sto → Prop) : wE (.var 32) (a0 :: a1 :: a2 :: a3 :: a4 :: a5 :: a6 :: a7 :: a8 :: a9 :: a10 :: a11 :: a12 :: a13 :: a14 :: a15 :: a16 :: a17 :: a18 :: a19 :: a20 :: a21 :: a22 :: a23 :: a24 :: a25 :: a26 :: a27 :: a28 :: a29 :: a30 :: a31 :: some (.mut m b l) :: ρ) Q = Q (.slot 32) (a0 :: a1 :: a2 :: a3 :: a4 :: a5 :: a6 :: a7 :: a8 :: a9 :: a10 :: a11 :: a12 :: a13 :: a14 :: a15 :: a16 :: a17 :: a18 :: a19 :: a20 :: a21 :: a22 :: a23 :: a24 :: a25 :: a26 :: a27 :: a28 :: a29 :: a30 :: a31 :: some (.mut m b l) :: ρ) := by rw [wE_var, G_32]; rfl
theorem G_33 (a0 a1 a2 a3 a4 a5 a6 a7 a8 a9 a10 a11 a12 a13 a14 a15 a16 a17 a18 a19 a20 a21 a22 a23 a24 a25 a26 a27 a28 a29 a30 a31 a32 a33 : Option Sl) (ρ : Sto) : getS (a0 :: a1 :: a2 :: a3 :: a4 :: a5 :: a6 :: a7 :: a8 :: a9 :: a10 :: a11 :: a12 :: a13 :: a14 :: a15 :: a16 :: a17 :: a18 :: a19 :: a20 :: a21 :: a22 :: a23 :: a24 :: a25 :: a26 :: a27 :: a28 :: a29 :: a30 :: a31 :: a32 :: a33 :: ρ) 33 = a33 := (getS_s _ _ _).trans (G_32 a1 a2 a3 a4 a5 a6 a7 a8 a9 a10 a11 a12 a13 a14 a15 a16 a17 a18 a19 a20 a21 a22 a23 a24 a25 a26 a27 a28 a29 a30 a31 a32 a33 ρ)
theorem L_33 {α : Type} (a0 a1 a2 a3 a4 a5 a6 a7 a8 a9 a10 a11 a12 a13 a14 a15 a16 a17 a18 a19 a20 a21 a22 a23 a24 a25 a26 a27 a28 a29 a30 a31 a32 a33 y : α) (ρ : List α) : List.set (a0 :: a1 :: a2 :: a3 :: a4 :: a5 :: a6 :: a7 :: a8 :: a9 :: a10 :: a11 :: a12 :: a13 :: a14 :: a15 :: a16 :: a17 :: a18 :: a19 :: a20 :: a21 :: a22 :: a23 :: a24 :: a25 :: a26 :: a27 :: a28 :: a29 :: a30 :: a31 :: a32 :: a33 :: ρ) 33 y = a0 :: a1 :: a2 :: a3 :: a4 :: a5 :: a6 :: a7 :: a8 :: a9 :: a10 :: a11 :: a12 :: a13 :: a14 :: a15 :: a16 :: a17 :: a18 :: a19 :: a20 :: a21 :: a22 :: a23 :: a24 :: a25 :: a26 :: a27 :: a28 :: a29 :: a30 :: a31 :: a32 :: y :: ρ := Eq.trans rfl rfl
theorem Vf_33 (a0 a1 a2 a3 a4 a5 a6 a7 a8 a9 a10 a11 a12 a13 a14 a15 a16 a17 a18 a19 a20 a21 a22 a23 a24 a25 a26 a27 a28 a29 a30 a31 a32 : Option Sl) (d : D) (ρ : Sto) (Q : Opd → Sto → Prop) : wE (.var 33) (a0 :: a1 :: a2 :: a3 :: a4 :: a5 :: a6 :: a7 :: a8 :: a9 :: a10 :: a11 :: a12 :: a13 :: a14 :: a15 :: a16 :: a17 :: a18 :: a19 :: a20 :: a21 :: a22 :: a23 :: a24 :: a25 :: a26 :: a27 :: a28 :: a29 :: a30 :: a31 :: a32 :: some (.frz d) :: ρ) Q = Q (.val (.frz d)) (a0 :: a1 :: a2 :: a3 :: a4 :: a5 :: a6 :: a7 :: a8 :: a9 :: a10 :: a11 :: a12 :: a13 :: a14 :: a15 :: a16 :: a17 :: a18 :: a19 :: a20 :: a21 :: a22 :: a23 :: a24 :: a25 :: a26 :: a27 :: a28 :: a29 :: a30 :: a31 :: a32 :: some (.frz d) :: ρ) := by rw [wE_var, G_33]; rfl
theorem Vt_33 (a0 a1 a2 a3 a4 a5 a6 a7 a8 a9 a10 a11 a12 a13 a14 a15 a16 a17 a18 a19 a20 a21 a22 a23 a24 a25 a26 a27 a28 a29 a30 a31 a32 : Option Sl) (d : D) (ρ : Sto) (Q : Opd → Sto → Prop) : wE (.var 33) (a0 :: a1 :: a2 :: a3 :: a4 :: a5 :: a6 :: a7 :: a8 :: a9 :: a10 :: a11 :: a12 :: a13 :: a14 :: a15 :: a16 :: a17 :: a18 :: a19 :: a20 :: a21 :: a22 :: a23 :: a24 :: a25 :: a26 :: a27 :: a28 :: a29 :: a30 :: a31 :: a32 :: some (.tmp d) :: ρ) Q = Q (.val (.frz d)) (a0 :: a1 :: a2 :: a3 :: a4 :: a5 :: a6 :: a7 :: a8 :: a9 :: a10 :: a11 :: a12 :: a13 :: a14 :: a15 :: a16 :: a17 :: a18 :: a19 :: a20 :: a21 :: a22 :: a23 :: a24 :: a25 :: a26 :: a27 :: a28 :: a29 :: a30 :: a31 :: a32 :: some (.tmp d) :: ρ) := by rw [wE_var, G_33]; rfl
theorem Vm_33 (a0 a1 a2 a3 a4 a5 a6 a7 a8 a9 a10 a11 a12 a13 a14 a15 a16 a17 a18 a19 a20 a21 a22 a23 a24 a25 a26 a27 a28 a29 a30 a31 a32 : Option Sl) (m : Md) (b : Bool) (l : List D) (ρ : Sto) (Q : Opd → Sto → Prop) : wE (.var 33) (a0 :: a1 :: a2 :: a3 :: a4 :: a5 :: a6 :: a7 :: a8 :: a9 :: a10 :: a11 :: a12 :: a13 :: a14 :: a15 :: a16 :: a17 :: a18 :: a19 :: a20 :: a21 :: a22 :: a23 :: a24 :: a25 :: a26 :: a27 :: a28 :: a29 :: a30 :: a31 :: a32 :: some (.mut m b l) :: ρ) Q = Q (.slot 33) (a0 :: a1 :: a2 :: a3 :: a4 :: a5 :: a6 :: a7 :: a8 :: a9 :: a10 :: a11 :: a12 :: a13 :: a14 :: a15 :: a16 :: a17 :: a18 :: a19 :: a20 :: a21 :: a22 :: a23 :: a24 :: a25 :: a26 :: a27 :: a28 :: a29 :: a30 :: a31 :: a32 :: some (.mut m b l) :: ρ) := by rw [wE_var, G_33]; rfl
theorem G_34 (a0 a1 a2 a3 a4 a5 a6 a7 a8 a9 a10 a11 a12 a13 a14 a15 a16 a17 a18 a19 a20 a21 a22 a23 a24 a25 a26 a27 a28 a29 a30 a31 a32 a33 a34 : Option Sl) (ρ : Sto) : getS (a0 :: a1 :: a2 :: a3 :: a4 :: a5 :: a6 :: a7 :: a8 :: a9 :: a10 :: a11 :: a12 :: a13 :: a14 :: a15 :: a16 :: a17 :: a18 :: a19 :: a20 :: a21 :: a22 :: a23 :: a24 :: a25 :: a26 :: a27 :: a28 :: a29 :: a30 :: a31 :: a32 :: a33 :: a34 :: ρ) 34 = a34 := (getS_s _ _ _).trans (G_33 a1 a2 a3 a4 a5 a6 a7 a8 a9 a10 a11 a12 a13 a14 a15 a16 a17 a18 a19 a20 a21 a22 a23 a24 a25 a26 a27 a28 a29 a30 a31 a32 a33 a34 ρ)
theorem L_34 {α : Type} (a0 a1 a2 a3 a4 a5 a6 a7 a8 a9 a10 a11 a12 a13 a14 a15 a16 a17 a18 a19 a20 a21 a22 a23 a24 a25 a26 a27 a28 a29 a30 a31 a32 a33 a34 y : α) (ρ : List α) : List.set (a0 :: a1 :: a2 :: a3 :: a4 :: a5 :: a6 :: a7 :: a8 :: a9 :: a10 :: a11 :: a12 :: a13 :: a14 :: a15 :: a16 :: a17 :: a18 :: a19 :: a20 :: a21 :: a22 :: a23 :: a24 :: a25 :: a26 :: a27 :: a28 :: a29 :: a30 :: a31 :: a32 :: a33 :: a34 :: ρ) 34 y = a0 :: a1 :: a2 :: a3 :: a4 :: a5 :: a6 :: a7 :: a8 :: a9 :: a10 :: a11 :: a12 :: a13 :: a14 :: a15 :: a16 :: a17 :: a18 :: a19 :: a20 :: a21 :: a22 :: a23 :: a24 :: a25 :: a26 :: a27 :: a28 :: a29 :: a30 :: a31 :: a32 :: a33 :: y :: ρ := Eq.trans rfl rfl
theorem Vf_34 (a0 a1 a2 a3 a4 a5 a6 a7 a8 a9 a10 a11 a12 a13 a14 a15 a16 a17 a18 a19 a20 a21 a22 a23 a24 a25 a26 a27 a28 a29 a30 a31 a32 a33 : Option Sl) (d : D) (ρ : Sto) (Q : Opd → Sto → Prop) : wE (.var 34) (a0 :: a1 :: a2 :: a3 :: a4 :: a5 :: a6 :: a7 :: a8 :: a9 :: a10 :: a11 :: a12 :: a13 :: a14 :: a15 :: a16 :: a17 :: a18 :: a19 :: a20 :: a21 :: a22 :: a23 :: a24 :: a25 :: a26 :: a27 :: a28 :: a29 :: a30 :: a31 :: a32 :: a33 :: some (.frz d) :: ρ) Q = Q (.val (.frz d)) (a0 :: a1 :: a2 :: a3 :: a4 :: a5 :: a6 :: a7 :: a8 :: a9 :: a10 :: a11 :: a12 :: a13 :: a14 :: a15 :: a16 :: a17 :: a18 :: a19 :: a20 :: a21 :: a22 :: a23 :: a24 :: a25 :: a26 :: a27 :: a28 :: a29 :: a30 :: a31 :: a32 :: a33 :: some (.frz d) :: ρ) := by rw [wE_var, G_34]; rfl
theorem Vt_34 (a0 a1 a2 a3 a4 a5 a6 a7 a8 a9 a10 a11 a12 a13 a14 a15 a16 a17 a18 a19 a20 a21 a22 a23 a24 a25 a26 a27 a28 a29 a30 a31 a32 a33 : Option Sl) (d : D) (ρ : Sto) (Q : Opd → Sto → Prop) : wE (.var 34) (a0 :: a1 :: a2 :: a3 :: a4 :: a5 :: a6 :: a7 :: a8 :: a9 :: a10 :: a11 :: a12 :: a13 :: a14 :: a15 :: a16 :: a17 :: a18 :: a19 :: a20 :: a21 :: a22 :: a23 :: a24 :: a25 :: a26 :: a27 :: a28 :: a29 :: a30 :: a31 :: a32 :: a33 :: some (.tmp d) :: ρ) Q = Q (.val (.frz d)) (a0 :: a1 :: a2 :: a3 :: a4 :: a5 :: a6 :: a7 :: a8 :: a9 :: a10 :: a11 :: a12 :: a13 :: a14 :: a15 :: a16 :: a17 :: a18 :: a19 :: a20 :: a21 :: a22 :: a23 :: a24 :: a25 :: a26 :: a27 :: a28 :: a29 :: a30 :: a31 :: a32 :: a33 :: some (.tmp d) :: ρ) := by rw [wE_var, G_34]; rfl
theorem Vm_34 (a0 a1 a2 a3 a4 a5 a6 a7 a8 a9 a10 a11 a12 a13 a14 a15 a16 a17 a18 a19 a20 a21 a22 a23 a24 a25 a26 a27 a28 a29 a30 a31 a32 a33 : Option Sl) (m : Md) (b : Bool) (l : List D) (ρ : Sto) (Q : Opd → Sto → Prop) : wE (.var 34) (a0 :: a1 :: a2 :: a3 :: a4 :: a5 :: a6 :: a7 :: a8 :: a9 :: a10 :: a11 :: a12 :: a13 :: a14 :: a15 :: a16 :: a17 :: a18 :: a19 :: a20 :: a21 :: a22 :: a23 :: a24 :: a25 :: a26 :: a27 :: a28 :: a29 :: a30 :: a31 :: a32 :: a33 :: some (.mut m b l) :: ρ) Q = Q (.slot 34) (a0 :: a1 :: a2 :: a3 :: a4 :: a5 :: a6 :: a7 :: a8 :: a9 :: a10 :: a11 :: a12 :: a13 :: a14 :: a15 :: a16 :: a17 :: a18 :: a19 :: a20 :: a21 :: a22 :: a23 :: a24 :: a25 :: a26 :: a27 :: a28 :: a29 :: a30 :: a31 :: a32 :: a33 :: some (.mut m b l) :: ρ) := by rw [wE_var, G_34]; rfl
theorem G_35 (a0 a1 a2 a3 a4 a5 a6 a7 a8 a9 a10 a11 a12 a13 a14 a15 a16 a17 a18 a19 a20 a21 a22 a23 a24 a25 a26 a27 a28 a29 a30 a31 a32 a33 a34 a35 : Option Sl) (ρ : Sto) : getS (a0 :: a1 :: a2 :: a3 :: a4 :: a5 :: a6 :: a7 :: a8 :: a9 :: a10 :: a11 :: a12 :: a13 :: a14 :: a15 :: a16 :: a17 :: a18 :: a19 :: a20 :: a21 :: a22 :: a23 :: a24 :: a25 :: a26 :: a27 :: a28 :: a29 :: a30 :: a31 :: a32 :: a33 :: a34 :: a35 :: ρ) 35 = a35 := (getS_s _ _ _).trans (G_34 a1 a2 a3 a4 a5 a6 a7 a8 a9 a10 a11 a12 a13 a14 a15 a16 a17 a18 a19 a20 a21 a22 a23 a24 a25 a26 a27 a28 a29 a30 a31 a32 a33 a34 a35 ρ)
theorem L_35 {α : Type} (a0 a1 a2 a3 a4 a5 a6 a7 a8 a9 a10 a11 a12 a13 a14 a15 a16 a17 a18 a19 a20 a21 a22 a23 a24 a25 a26 a27 a28 a29 a30 a31 a32 a33 a34 a35 y : α) (ρ : List α) : List.set (a0 :: a1 :: a2 :: a3 :: a4 :: a5 :: a6 :: a7 :: a8 :: a9 :: a10 :: a11 :: a12 :: a13 :: a14 :: a15 :: a16 :: a17 :: a18 :: a19 :: a20 :: a21 :: a22 :: a23 :: a24 :: a25 :: a26 :: a27 :: a28 :: a29 :: a30 :: a31 :: a32 :: a33 :: a34 :: a35 :: ρ) 35 y = a0 :: a1 :: a2 :: a3 :: a4 :: a5 :: a6 :: a7 :: a8 :: a9 :: a10 :: a11 :: a12 :: a13 :: a14 :: a15 :: a16 :: a17 :: a18 :: a19 :: a20 :: a21 :: a22 :: a23 :: a24 :: a25 :: a26 :: a27 :: a28 :: a29 :: a30 :: a31 :: a32 :: a33 :: a34 :: y :: ρ := Eq.trans rfl rfl
theorem Vf_35 (a0 a1 a2 a3 a4 a5 a6 a7 a8 a9 a10 a11 a12 a13 a14 a15 a16 a17 a18 a19 a20 a21 a22 a23 a24 a25 a26 a27 a28 a29 a30 a31 a32 a33 a34 : Option Sl) (d : D) (ρ : Sto) (Q : Opd → Sto → Prop) : wE (.var 35) (a0 :: a1 :: a2 :: a3 :: a4 :: a5 :: a6 :: a7 :: a8 :: a9 :: a10 :: a11 :: a12 :: a13 :: a14 :: a15 :: a16 :: a17 :: a18 :: a19 :: a20 :: a21 :: a22 :: a23 :: a24 :: a25 :: a26 :: a27 :: a28 :: a29 :: a30 :: a31 :: a32 :: a33 :: a34 :: some (.frz d) :: ρ) Q = Q (.val (.frz d)) (a0 :: a1 :: a2 :: a3 :: a4 :: a5 :: a6 :: a7 :: a8 :: a9 :: a10 :: a11 :: a12 :: a13 :: a14 :: a15 :: a16 :: a17 :: a18 :: a19 :: a20 :: a21 :: a22 :: a23 :: a24 :: a25 :: a26 :: a27 :: a28 :: a29 :: a30 :: a31 :: a32 :: a33 :: a34 :: some (.frz d) :: ρ) := by rw [wE_var, G_35]; rfl
theorem Vt_35 (a0 a1 a2 a3 a4 a5 a6 a7 a8 a9 a10 a11 a12 a13 a14 a15 a16 a17 a18 a19 a20 a21 a22 a23 a24 a25 a26 a27 a28 a29 a30 a31 a32 a33 a34 : Option Sl) (d : D) (ρ : Sto) (Q : Opd → Sto → Prop) : wE (.var 35) (a0 :: a1 :: a2 :: a3 :: a4 :: a5 :: a6 :: a7 :: a8 :: a9 :: a10 :: a11 :: a12 :: a13 :: a14 :: a15 :: a16 :: a17 :: a18 :: a19 :: a20 :: a21 :: a22 :: a23 :: a24 :: a25 :: a26 :: a27 :: a28 :: a29 :: a30 :: a31 :: a32 :: a33 :: a34 :: some (.tmp d) :: ρ) Q = Q (.val (.frz d)) (a0 :: a1 :: a2 :: a3 :: a4 :: a5 :: a6 :: a7 :: a8 :: a9 :: a10 :: a11 :: a12 :: a13 :: a14 :: a15 :: a16 :: a17 :: a18 :: a19 :: a20 :: a21 :: a22 :: a23 :: a24 :: a25 :: a26 :: a27 :: a28 :: a29 :: a30 :: a31 :: a32 :: a33 :: a34 :: some (.tmp d) :: ρ) := by rw [wE_var, G_35]; rfl
theorem Vm_35 (a0 a1 a2 a3 a4 a5 a6 a7 a8 a9 a10 a11 a12 a13 a14 a15 a16 a17 a18 a19 a20 a21 a22 a23 a24 a25 a26 a27 a28 a29 a30 a31 a32 a33 a34 : Option Sl) (m : Md) (b : Bool) (l : List D) (ρ : Sto) (Q : Opd → Sto → Prop) : wE (.var 35) (a0 :: a1 :: a2 :: a3 :: a4 :: a5 :: a6 :: a7 :: a8 :: a9 :: a10 :: a11 :: a12 :: a13 :: a14 :: a15 :: a16 :: a17 :: a18 :: a19 :: a20 :: a21 :: a22 :: a23 :: a24 :: a25 :: a26 :: a27 :: a28 :: a29 :: a30 :: a31 :: a32 :: a33 :: a34 :: some (.mut m b l) :: ρ) Q = Q (.slot 35) (a0 :: a1 :: a2 :: a3 :: a4 :: a5 :: a6 :: a7 :: a8 :: a9 :: a10 :: a11 :: a12 :: a13 :: a14 :: a15 :: a16 :: a17 :: a18 :: a19 :: a20 :: a21 :: a22 :: a23 :: a24 :: a25 :: a26 :: a27 :: a28 :: a29 :: a30 :: a31 :: a32 :: a33 :: a34 :: some (.mut m b l) :: ρ) := by rw [wE_var, G_35]; rfl
theorem G_36 (a0 a1 a2 a3 a4 a5 a6 a7 a8 a9 a10 a11 a12 a13 a14 a15 a16 a17 a18 a19 a20 a21 a22 a23 a24 a25 a26 a27 a28 a29 a30 a31 a32 a33 a34 a35 a36 : Option Sl) (ρ : Sto) : getS (a0 :: a1 :: a2 :: a3 :: a4 :: a5 :: a6 :: a7 :: a8 :: a9 :: a10 :: a11 :: a12 :: a13 :: a14 :: a15 :: a16 :: a17 :: a18 :: a19 :: a20 :: a21 :: a22 :: a23 :: a24 :: a25 :: a26 :: a27 :: a28 :: a29 :: a30 :: a31 :: a32 :: a33 :: a34 :: a35 :: a36 :: ρ) 36 = a36 := (getS_s _ _ _).trans (G_35 a1 a2 a3 a4 a5 a6 a7 a8 a9 a10 a11 a12 a13 a14 a15 a16 a17 a18 a19 a20 a21 a22 a23 a24 a25 a26 a27 a28 a29 a30 a31 a32 a33 a34 a35 a36 ρ)
theorem L_36 {α : Type} (a0 a1 a2 a3 a4 a5 a6 a7 a8 a9 a10 a11 a12 a13 a14 a15 a16 a17 a18 a19 a20 a21 a22 a23 a24 a25 a26 a27 a28 a29 a30 a31 a32 a33 a34 a35 a36 y : α) (ρ : List α) : List.set (a0 :: a1 :: a2 :: a3 :: a4 :: a5 :: a6 :: a7 :: a8 :: a9 :: a10 :: a11 :: a12 :: a13 :: a14 :: a15 :: a16 :: a17 :: a18 :: a19 :: a20 :: a21 :: a22 :: a23 :: a24 :: a25 :: a26 :: a27 :: a28 :: a29 :: a30 :: a31 :: a32 :: a33 :: a34 :: a35 :: a36 :: ρ) 36 y = a0 :: a1 :: a2 :: a3 :: a4 :: a5 :: a6 :: a7 :: a8 :: a9 :: a10 :: a11 :: a12 :: a13 :: a14 :: a15 :: a16 :: a17 :: a18 :: a19 :: a20 :: a21 :: a22 :: a23 :: a24 :: a25 :: a26 :: a27 :: a28 :: a29 :: a30 :: a31 :: a32 :: a33 :: a34 :: a35 :: y :: ρ := Eq.trans rfl rfl
theorem Vf_36 (a0 a1 a2 a3 a4 a5 a6 a7 a8 a9 a10 a11 a12 a13 a14 a15 a16 a17 a18 a19 a20 a21 a22 a23 a24 a25 a26 a27 a28 a29 a30 a31 a32 a33 a34 a35 : Option Sl) (d : D) (ρ : Sto) (Q : Opd → Sto → Prop) : wE (.var 36) (a0 :: a1 :: a2 :: a3 :: a4 :: a5 :: a6 :: a7 :: a8 :: a9 :: a10 :: a11 :: a12 :: a13 :: a14 :: a15 :: a16 :: a17 :: a18 :: a19 :: a20 :: a21 :: a22 :: a23 :: a24 :: a25 :: a26 :: a27 :: a28 :: a29 :: a30 :: a31 :: a32 :: a33 :: a34 :: a35 :: some (.frz d) :: ρ) Q = Q (.val (.frz d)) (a0 :: a1 :: a2 :: a3 :: a4 :: a5 :: a6 :: a7 :: a8 :: a9 :: a10 :: a11 :: a12 :: a13 :: a14 :: a15 :: a16 :: a17 :: a18 :: a19 :: a20 :: a21 :: a22 :: a23 :: a24 :: a25 :: a26 :: a27 :: a28 :: a29 :: a30 :: a31 :: a32 :: a33 :: a34 :: a35 :: some (.frz d) :: ρ) := by rw [wE_var, G_36]; rfl
theorem Vt_36 (a0 a1 a2 a3 a4 a5 a6 a7 a8 a9 a10 a11 a12 a13 a14 a15 a16 a17 a18 a19 a20 a21 a22 a23 a24 a25 a26 a27 a28 a29 a30 a31 a32 a33 a34 a35 : Option Sl) (d : D) (ρ : Sto) (Q : Opd → Sto → Prop) : wE (.var 36) (a0 :: a1 :: a2 :: a3 :: a4 :: a5 :: a6 :: a7 :: a8 :: a9 :: a10 :: a11 :: a12 :: a13 :: a14 :: a15 :: a16 :: a17 :: a18 :: a19 :: a20 :: a21 :: a22 :: a23 :: a24 :: a25 :: a26 :: a27 :: a28 :: a29 :: a30 :: a31 :: a32 :: a33 :: a34 :: a35 :: some (.tmp d) :: ρ) Q = Q (.val (.frz d)) (a0 :: a1 :: a2 :: a3 :: a4 :: a5 :: a6 :: a7 :: a8 :: a9 :: a10 :: a11 :: a12 :: a13 :: a14 :: a15 :: a16 :: a17 :: a18 :: a19 :: a20 :: a21 :: a22 :: a23 :: a24 :: a25 :: a26 :: a27 :: a28 :: a29 :: a30 :: a31 :: a32 :: a33 :: a34 :: a35 :: some (.tmp d) :: ρ) := by rw [wE_var, G_36]; rfl
theorem Vm_36 (a0 a1 a2 a3 a4 a5 a6 a7 a8 a9 a10 a11 a12 a13 a14 a15 a16 a17 a18 a19 a20 a21 a22 a23 a24 a25 a26 a27 a28 a29 a30 a31 a32 a33 a34 a35 : Option Sl) (m : Md) (b : Bool) (l : List D) (ρ : Sto) (Q : Opd → Sto → Prop) : wE (.var 36) (a0 :: a1 :: a2 :: a3 :: a4 :: a5 :: a6 :: a7 :: a8 :: a9 :: a10 :: a11 :: a12 :: a13 :: a14 :: a15 :: a16 :: a17 :: a18 :: a19 :: a20 :: a21 :: a22 :: a23 :: a24 :: a25 :: a26 :: a27 :: a28 :: a29 :: a30 :: a31 :: a32 :: a33 :: a34 :: a35 :: some (.mut m b l) :: ρ) Q = Q (.slot 36) (a0 :: a1 :: a2 :: a3 :: a4 :: a5 :: a6 :: a7 :: a8 :: a9 :: a10 :: a11 :: a12 :: a13 :: a14 :: a15 :: a16 :: a17 :: a18 :: a19 :: a20 :: a21 :: a22 :: a23 :: a24 :: a25 :: a26 :: a27 :: a28 :: a29 :: a30 :: a31 :: a32 :: a33 :: a34 :: a35 :: some (.mut m b l) :: ρ) := by rw [wE_var, G_36]; rfl
theorem G_37 (a0 a1 a2 a3 a4 a5 a6 a7 a8 a9 a10 a11 a12 a13 a14 a15 a16 a17 a18 a19 a20 a21 a22 a23 a24 a25 a26 a27 a28 a29 a30 a31 a32 a33 a34 a35 a36 a37 : Option Sl) (ρ : Sto) : getS (a0 :: a1 :: a2 :: a3 :: a4 :: a5 :: a6 :: a7 :: a8 :: a9 :: a10 :: a11 :: a12 :: a13 :: a14 :: a15 :: a16 :: a17 :: a18 :: a19 :: a20 :: a21 :: a22 :: a23 :: a24 :: a25 :: a26 :: a27 :: a28 :: a29 :: a30 :: a31 :: a32 :: a33 :: a34 :: a35 :: a36 :: a37 :: ρ) 37 = a37 := (getS_s _ _ _).trans (G_36 a1 a2 a3 a4 a5 a6 a7 a8 a9 a10 a11 a12 a13 a14 a15 a16 a17 a18 a19 a20 a21 a22 a23 a24 a25 a26 a27 a28 a29 a30 a31 a32 a33 a34 a35 a36 a37 ρ)
theorem L_37 {α : Type} (a0 a1 a2 a3 a4 a5 a6 a7 a8 a9 a10 a11 a12 a13 a14 a15 a16 a17 a18 a19 a20 a21 a22 a23 a24 a25 a26 a27 a28 a29 a30 a31 a32 a33 a34 a35 a36 a37 y : α) (ρ : List α) : List.set (a0 :: a1 :: a2 :: a3 :: a4 :: a5 :: a6 :: a7 :: a8 :: a9 :: a10 :: a11 :: a12 :: a13 :: a14 :: a15 :: a16 :: a17 :: a18 :: a19 :: a20 :: a21 :: a22 :: a23 :: a24 :: a25 :: a26 :: a27 :: a28 :: a29 :: a30 :: a31 :: a32 :: a33 :: a34 :: a35 :: a36 :: a37 :: ρ) 37 y = a0 :: a1 :: a2 :: a3 :: a4 :: a5 :: a6 :: a7 :: a8 :: a9 :: a10 :: a11 :: a12 :: a13 :: a14 :: a15 :: a16 :: a17 :: a18 :: a19 :: a20 :: a21 :: a22 :: a23 :: a24 :: a25 :: a26 :: a27 :: a28 :: a29 :: a30 :: a31 :: a32 :: a33 :: a34 :: a35 :: a36 :: y :: ρ := Eq.trans rfl rfl
theorem Vf_37 (a0 a1 a2 a3 a4 a5 a6 a7 a8 a9 a10 a11 a12 a13 a14 a15 a16 a17 a18 a19 a20 a21 a22 a23 a24 a25 a26 a27 a28 a29 a30 a31 a32 a33 a34 a35 a36 : Option Sl) (d : D) (ρ : Sto) (Q : Opd → Sto → Prop) : wE (.var 37) (a0 :: a1 :: a2 :: a3 :: a4 :: a5 :: a6 :: a7 :: a8 :: a9 :: a10 :: a11 :: a12 :: a13 :: a14 :: a15 :: a16 :: a17 :: a18 :: a19 :: a20 :: a21 :: a22 :: a23 :: a24 :: a25 :: a26 :: a27 :: a28 :: a29 :: a30 :: a31 :: a32 :: a33 :: a34 :: a35 :: a36 :: some (.frz d) :: ρ) Q = Q (.val (.frz d)) (a0 :: a1 :: a2 :: a3 :: a4 :: a5 :: a6 :: a7 :: a8 :: a9 :: a10 :: a11 :: a12 :: a13 :: a14 :: a15 :: a16 :: a17 :: a18 :: a19 :: a20 :: a21 :: a22 :: a23 :: a24 :: a25 :: a26 :: a27 :: a28 :: a29 :: a30 :: a31 :: a32 :: a33 :: a34 :: a35 :: a36 :: some (.frz d) :: ρ) := by rw [wE_var, G_37]; rfl
theorem Vt_37 (a0 a1 a2 a3 a4 a5 a6 a7 a8 a9 a10 a11 a12 a13 a14 a15 a16 a17 a18 a19 a20 a21 a22 a23 a24 a25 a26 a27 a28 a29 a30 a31 a32 a33 a34 a35 a36 : Option Sl) (d : D) (ρ : Sto) (Q : Opd → Sto → Prop) : wE (.var 37) (a0 :: a1 :: a2 :: a3 :: a4 :: a5 :: a6 :: a7 :: a8 :: a9 :: a10 :: a11 :: a12 :: a13 :: a14 :: a15 :: a16 :: a17 :: a18 :: a19 :: a20 :: a21 :: a22 :: a23 :: a24 :: a25 :: a26 :: a27 :: a28 :: a29 :: a30 :: a31 :: a32 :: a33 :: a34 :: a35 :: a36 :: some (.tmp d) :: ρ) Q = Q (.val (.frz d)) (a0 :: a1 :: a2 :: a3 :: a4 :: a5 :: a6 :: a7 :: a8 :: a9 :: a10 :: a11 :: a12 :: a13 :: a14 :: a15 :: a16 :: a17 :: a18 :: a19 :: a20 :: a21 :: a22 :: a23 :: a24 :: a25 :: a26 :: a27 :: a28 :: a29 :: a30 :: a31 :: a32 :: a33 :: a34 :: a35 :: a36 :: some (.tmp d) :: ρ) := by rw [wE_var, G_37]; rfl
theorem Vm_37 (a0 a1 a2 a3 a4 a5 a6 a7 a8 a9 a10 a11 a12 a13 a14 a15 a16 a17 a18 a19 a20 a21 a22 a23 a24 a25 a26 a27 a28 a29 a30 a31 a32 a33 a34 a35 a36 : Option Sl) (m : Md) (b : Bool) (l : List D) (ρ : Sto) (Q : Opd → Sto → Prop) : wE (.var 37) (a0 :: a1 :: a2 :: a3 :: a4 :: a5 :: a6 :: a7 :: a8 :: a9 :: a10 :: a11 :: a12 :: a13 :: a14 :: a15 :: a16 :: a17 :: a18 :: a19 :: a20 :: a21 :: a22 :: a23 :: a24 :: a25 :: a26 :: a27 :: a28 :: a29 :: a30 :: a31 :: a32 :: a33 :: a34 :: a35 :: a36 :: some (.mut m b l) :: ρ) Q = Q (.slot 37) (a0 :: a1 :: a2 :: a3 :: a4 :: a5 :: a6 :: a7 :: a8 :: a9 :: a10 :: a11 :: a12 :: a13 :: a14 :: a15 :: a16 :: a17 :: a18 :: a19 :: a20 :: a21 :: a22 :: a23 :: a24 :: a25 :: a26 :: a27 :: a28 :: a29 :: a30 :: a31 :: a32 :: a33 :: a34 :: a35 :: a36 :: some (.mut m b l) :: ρ) := by rw [wE_var, G_37]; rfl
theorem G_38 (a0 a1 a2 a3 a4 a5 a6 a7 a8 a9 a10 a11 a12 a13 a14 a15 a16 a17 a18 a19 a20 a21 a22 a23 a24 a25 a26 a27 a28 a29 a30 a31 a32 a33 a34 a35 a36 a37 a38 : Option Sl) (ρ : Sto) : getS (a0 :: a1 :: a2 :: a3 :: a4 :: a5 :: a6 :: a7 :: a8 :: a9 :: a10 :: a11 :: a12 :: a13 :: a14 :: a15 :: a16 :: a17 :: a18 :: a19 :: a20 :: a21 :: a22 :: a23 :: a24 :: a25 :: a26 :: a27 :: a28 :: a29 :: a30 :: a31 :: a32 :: a33 :: a34 :: a35 :: a36 :: a37 :: a38 :: ρ) 38 = a38 := (getS_s _ _ _).trans (G_37 a1 a2 a3 a4 a5 a6 a7 a8 a9 a10 a11 a12 a13 a14 a15 a16 a17 a18 a19 a20 a21 a22 a23 a24 a25 a26 a27 a28 a29 a30 a31 a32 a33 a34 a35 a36 a37 a38 ρ)
theorem L_38 {α : Type} (a0 a1 a2 a3 a4 a5 a6 a7 a8 a9 a10 a11 a12 a13 a14 a15 a16 a17 a18 a19 a20 a21 a22 a23 a24 a25 a26 a27 a28 a29 a30 a31 a32 a33 a34 a35 a36 a37 a38 y : α) (ρ : List α) : List.set (a0 :: a1 :: a2 :: a3 :: a4 :: a5 :: a6 :: a7 :: a8 :: a9 :: a10 :: a11 :: a12 :: a13 :: a14 :: a15 :: a16 :: a17 :: a18 :: a19 :: a20 :: a21 :: a22 :: a23 :: a24 :: a25 :: a26 :: a27 :: a28 :: a29 :: a30 :: a31 :: a32 :: a33 :: a34 :: a35 :: a36 :: a37 :: a38 :: ρ) 38 y = a0 :: a1 :: a2 :: a3 :: a4 :: a5 :: a6 :: a7 :: a8 :: a9 :: a10 :: a11 :: a12 :: a13 :: a14 :: a15 :: a16 :: a17 :: a18 :: a19 :: a20 :: a21 :: a22 :: a23 :: a24 :: a25 :: a26 :: a27 :: a28 :: a29 :: a30 :: a31 :: a32 :: a33 :: a34 :: a35 :: a36 :: a37 :: y :: ρ := Eq.trans rfl rfl
theorem Vf_38 (a0 a1 a2 a3 a4 a5 a6 a7 a8 a9 a10 a11 a12 a13 a14 a15 a16 a17 a18 a19 a20 a21 a22 a23 a24 a25 a26 a27 a28 a29 a30 a31 a32 a33 a34 a35 a36 a37 : Option Sl) (d : D) (ρ : Sto) (Q : Opd → Sto → Prop) : wE (.var 38) (a0 :: a1 :: a2 :: a3 :: a4 :: a5 :: a6 :: a7 :: a8 :: a9 :: a10 :: a11 :: a12 :: a13 :: a14 :: a15 :: a16 :: a17 :: a18 :: a19 :: a20 :: a21 :: a22 :: a23 :: a24 :: a25 :: a26 :: a27 :: a28 :: a29 :: a30 :: a31 :: a32 :: a33 :: a34 :: a35 :: a36 :: a37 :: some (.frz d) :: ρ) Q = Q (.val (.frz d)) (a0 :: a1 :: a2 :: a3 :: a4 :: a5 :: a6 :: a7 :: a8 :: a9 :: a10 :: a11 :: a12 :: a13 :: a14 :: a15 :: a16 :: a17 :: a18 :: a19 :: a20 :: a21 :: a22 :: a23 :: a24 :: a25 :: a26 :: a27 :: a28 :: a29 :: a30 :: a31 :: a32 :: a33 :: a34 :: a35 :: a36 :: a37 :: some (.frz d) :: ρ) := by rw [wE_var, G_38]; rfl
theorem Vt_38 (a0 a1 a2 a3 a4 a5 a6 a7 a8 a9 a10 a11 a12 a13 a14 a15 a16 a17 a18 a19 a20 a21 a22 a23 a24 a25 a26 a27 a28 a29 a30 a31 a32 a33 a34 a35 a36 a37 : Option Sl) (d : D) (ρ : Sto) (Q : Opd → Sto → Prop) : wE (.var 38) (a0 :: a1 :: a2 :: a3 :: a4 :: a5 :: a6 :: a7 :: a8 :: a9 :: a10 :: a11 :: a12 :: a13 :: a14 :: a15 :: a16 :: a17 :: a18 :: a19 :: a20 :: a21 :: a22 :: a23 :: a24 :: a25 :: a26 :: a27 :: a28 :: a29 :: a30 :: a31 :: a32 :: a33 :: a34 :: a35 :: a36 :: a37 :: some (.tmp d) :: ρ) Q = Q (.val (.frz d)) (a0 :: a1 :: a2 :: a3 :: a4 :: a5 :: a6 :: a7 :: a8 :: a9 :: a10 :: a11 :: a12 :: a13 :: a14 :: a15 :: a16 :: a17 :: a18 :: a19 :: a20 :: a21 :: a22 :: a23 :: a24 :: a25 :: a26 :: a27 :: a28 :: a29 :: a30 :: a31 :: a32 :: a33 :: a34 :: a35 :: a36 :: a37 :: some (.tmp d) :: ρ) := by rw [wE_var, G_38]; rfl
theorem Vm_38 (a0 a1 a2 a3 a4 a5 a6 a7 a8 a9 a10 a11 a12 a13 a14 a15 a16 a17 a18 a19 a20 a21 a22 a23 a24 a25 a26 a27 a28 a29 a30 a31 a32 a33 a34 a35 a36 a37 : Option Sl) (m : Md) (b : Bool) (l : List D) (ρ : Sto) (Q : Opd → Sto → Prop) : wE (.var 38) (a0 :: a1 :: a2 :: a3 :: a4 :: a5 :: a6 :: a7 :: a8 :: a9 :: a10 :: a11 :: a12 :: a13 :: a14 :: a15 :: a16 :: a17 :: a18 :: a19 :: a20 :: a21 :: a22 :: a23 :: a24 :: a25 :: a26 :: a27 :: a28 :: a29 :: a30 :: a31 :: a32 :: a33 :: a34 :: a35 :: a36 :: a37 :: some (.mut m b l) :: ρ) Q = Q (.slot 38) (a0 :: a1 :: a2 :: a3 :: a4 :: a5 :: a6 :: a7 :: a8 :: a9 :: a10 :: a11 :: a12 :: a13 :: a14 :: a15 :: a16 :: a17 :: a18 :: a19 :: a20 :: a21 :: a22 :: a23 :: a24 :: a25 :: a26 :: a27 :: a28 :: a29 :: a30 :: a31 :: a32 :: a33 :: a34 :: a35 :: a36 :: a37 :: some (.mut m b l) :: ρ) := by rw [wE_var, G_38]; rfl
theorem G_39 (a0 a1 a2 a3 a4 a5 a6 a7 a8 a9 a10 a11 a12 a13 a14 a15 a16 a17 a18 a19 a20 a21 a22 a23 a24 a25 a26 a27 a28 a29 a30 a31 a32 a33 a34 a35 a36 a37 a38 a39 : Option Sl) (ρ : Sto) : getS (a0 :: a1 :: a2 :: a3 :: a4 :: a5 :: a6 :: a7 :: a8 :: a9 :: a10 :: a11 :: a12 :: a13 :: a14 :: a15 :: a16 :: a17 :: a18 :: a19 :: a20 :: a21 :: a22 :: a23 :: a24 :: a25 :: a26 :: a27 :: a28 :: a29 :: a30 :: a31 :: a32 :: a33 :: a34 :: a35 :: a36 :: a37 :: a38 :: a39 :: ρ) 39 = a39 := (getS_s _ _ _).trans (G_38 a1 a2 a3 a4 a5 a6 a7 a8 a9 a10 a11 a12 a13 a14 a15 a16 a17 a18 a19 a20 a21 a22 a23 a24 a25 a26 a27 a28 a29 a30 a31 a32 a33 a34 a35 a36 a37 a38 a39 ρ)
theorem L_39 {α : Type} (a0 a1 a2 a3 a4 a5 a6 a7 a8 a9 a10 a11 a12 a13 a14 a15 a16 a17 a18 a19 a20 a21 a22 a23 a24 a25 a26 a27 a28 a29 a30 a31 a32 a33 a34 a35 a36 a37 a38 a39 y : α) (ρ : List α) : List.set (a0 :: a1 :: a2 :: a3 :: a4 :: a5 :: a6 :: a7 :: a8 :: a9 :: a10 :: a11 :: a12 :: a13 :: a14 :: a15 :: a16 :: a17 :: a18 :: a19 :: a20 :: a21 :: a22 :: a23 :: a24 :: a25 :: a26 :: a27 :: a28 :: a29 :: a30 :: a31 :: a32 :: a33 :: a34 :: a35 :: a36 :: a37 :: a38 :: a39 :: ρ) 39 y = a0 :: a1 :: a2 :: a3 :: a4 :: a5 :: a6 :: a7 :: a8 :: a9 :: a10 :: a11 :: a12 :: a13 :: a14 :: a15 :: a16 :: a17 :: a18 :: a19 :: a20 :: a21 :: a22 :: a23 :: a24 :: a25 :: a26 :: a27 :: a28 :: a29 :: a30 :: a31 :: a32 :: a33 :: a34 :: a35 :: a36 :: a37 :: a38 :: y :: ρ := Eq.trans rfl rfl
theorem Vf_39 (a0 a1 a2 a3 a4 a5 a6 a7 a8 a9 a10 a11 a12 a13 a14 a15 a16 a17 a18 a19 a20 a21 a22 a23 a24 a25 a26 a27 a28 a29 a30 a31 a32 a33 a34 a35 a36 a37 a38 : Option Sl) (d : D) (ρ : Sto) (Q : Opd → Sto → Prop) : wE (.var 39) (a0 :: a1 :: a2 :: a3 :: a4 :: a5 :: a6 :: a7 :: a8 :: a9 :: a10 :: a11 :: a12 :: a13 :: a14 :: a15 :: a16 :: a17 :: a18 :: a19 :: a20 :: a21 :: a22 :: a23 :: a24 :: a25 :: a26 :: a27 :: a28 :: a29 :: a30 :: a31 :: a32 :: a33 :: a34 :: a35 :: a36 :: a37 :: a38 :: some (.frz d) :: ρ) Q = Q (.val (.frz d)) (a0 :: a1 :: a2 :: a3 :: a4 :: a5 :: a6 :: a7 :: a8 :: a9 :: a10 :: a11 :: a12 :: a13 :: a14 :: a15 :: a16 :: a17 :: a18 :: a19 :: a20 :: a21 :: a22 :: a23 :: a24 :: a25 :: a26 :: a27 :: a28 :: a29 :: a30 :: a31 :: a32 :: a33 :: a34 :: a35 :: a36 :: a37 :: a38 :: some (.frz d) :: ρ) := by rw [wE_var, G_39]; rfl
theorem Vt_39 (a0 a1 a2 a3 a4 a5 a6 a7 a8 a9 a10 a11 a12 a13 a14 a15 a16 a17 a18 a19 a20 a21 a22 a23 a24 a25 a26 a27 a28 a29 a30 a31 a32 a33 a34 a35 a36 a37 a38 : Option Sl) (d : D) (ρ : Sto) (Q : Opd → Sto → Prop) : wE (.var 39) (a0 :: a1 :: a2 :: a3 :: a4 :: a5 :: a6 :: a7 :: a8 :: a9 :: a10 :: a11 :: a12 :: a13 :: a14 :: a15 :: a16 :: a17 :: a18 :: a19 :: a20 :: a21 :: a22 :: a23 :: a24 :: a25 :: a26 :: a27 :: a28 :: a29 :: a30 :: a31 :: a32 :: a33 :: a34 :: a35 :: a36 :: a37 :: a38 :: some (.tmp d) :: ρ) Q = Q (.val (.frz d)) (a0 :: a1 :: a2 :: a3 :: a4 :: a5 :: a6 :: a7 :: a8 :: a9 :: a10 :: a11 :: a12 :: a13 :: a14 :: a15 :: a16 :: a17 :: a18 :: a19 :: a20 :: a21 :: a22 :: a23 :: a24 :: a25 :: a26 :: a27 :: a28 :: a29 :: a30 :: a31 :: a32 :: a33 :: a34 :: a35 :: a36 :: a37 :: a38 :: some (.tmp d) :: ρ) := by rw [wE_var, G_39]; rfl
theorem Vm_39 (a0 a1 a2 a3 a4 a5 a6 a7 a8 a9 a10 a11 a12 a13 a14 a15 a16 a17 a18 a19 a20 a21 a22 a23 a24 a25 a26 a27 a28 a29 a30 a31 a32 a33 a34 a35 a36 a37 a38 : Option Sl) (m : Md) (b : Bool) (l : List D) (ρ : Sto) (Q : Opd → Sto → Prop) : wE (.var 39) (a0 :: a1 :: a2 :: a3 :: a4 :: a5 :: a6 :: a7 :: a8 :: a9 :: a10 :: a11 :: a12 :: a13 :: a14 :: a15 :: a16 :: a17 :: a18 :: a19 :: a20 :: a21 :: a22 :: a23 :: a24 :: a25 :: a26 :: a27 :: a28 :: a29 :: a30 :: a31 :: a32 :: a33 :: a34 :: a35 :: a36 :: a37 :: a38 :: some (.mut m b l) :: ρ) Q = Q (.slot 39) (a0 :: a1 :: a2 :: a3 :: a4 :: a5 :: a6 :: a7 :: a8 :: a9 :: a10 :: a11 :: a12 :: a13 :: a14 :: a15 :: a16 :: a17 :: a18 :: a19 :: a20 :: a21 :: a22 :: a23 :: a24 :: a25 :: a26 :: a27 :: a28 :: a29 :: a30 :: a31 :: a32 :: a33 :: a34 :: a35 :: a36 :: a37 :: a38 :: some (.mut m b l) :: ρ) := by rw [wE_var, G_39]; rfl
end Rx
set_option Elab.async false
set_option linter.all false
/-! Rx28: what is asked ahead of a step, so that Q holds behind it -/
namespace Rx
open PySem PySem.Spec L2
theorem nr {α : Sort _} {a b : α} (h : a = b) : a = b := h
def wEs (es : List E) (ρ : Sto) (Q : List Opd → Sto → Prop) : Prop := wp (evEs es ρ) Q
def wTs (es : List E) (ρ : Sto) (Q : Bool → Sto → Prop) : Prop := wp (evTs es ρ) Q
def wIt (it : It) (ρ : Sto) (Q : List D → Sto → Prop) : Prop := wp (evIt it ρ) Q
def wS (s : S) (ρ : Sto) (K : Fl → Sto → Prop) : Prop := wp (evS s ρ) K
def wSs (ss : List S) (ρ : Sto) (K : Fl → Sto → Prop) : Prop := wp (evSs ss ρ) K
def wSet (sc : Bool) (ρ : Sto) (K : Sto → Prop) : Prop := wl (settle sc ρ) K
def wPut (ρ : Sto) (i : Nat) (s : Sl) (K : Sto → Prop) : Prop := wl (putS ρ i s) K
def wTg (mk : D → Sl) (tg : Tg) (d : D) (ρ : Sto) (K : Sto → Prop) : Prop := wl (setTg mk tg d ρ) K
def wTgs (mk : D → Sl) (tg : List Tg) (d : List D) (ρ : Sto) (K : Sto → Prop) : Prop := wl (setTgs mk tg d ρ) K
def wIf (k : Bool) (A B : Prop) : Prop := (k = true → A) ∧ (k = false → B)
def wFor (tg : Tg) (b : List S) (ds : List D) (ρ : Sto) (K : Fl → Sto → Prop) : Prop := wp (forL tg (evSs b) ds ρ) K
def wWhl (c : E) (b : List S) (n : Nat) (ρ : Sto) (K : Fl → Sto → Prop) : Prop := wp (whlN (evT c) (evSs b) n ρ) K
def wComp (elt : E) (tg : Tg) (ifs : List E) (own : List Nat) (ds : List D) (ρ : Sto) (Q : Opd → Sto → Prop) : Prop :=
  wp (compLoop (evE elt) (evTs ifs) tg own ds [] (wipeS ρ own)) fun acc ρ2 => Q (.val (.lst acc)) (backS ρ ρ2 own)
def wCall (fi : Fi) (xs : List Opd) (ρ : Sto) (Q : Opd → Sto → Prop) : Prop := wp (callF fi xs ρ) Q
def wHard (ρ : Sto) (x : Opd) (K : D → Sto → Prop) : Prop := wl (hard ρ x) fun p => K p.1 p.2
def wHards (ρ : Sto) (xs : List Opd) (K : List D → Sto → Prop) : Prop := wl (hards ρ xs) fun p => K p.1 p.2
def wInt (o : Option R) (K : Int → Prop) : Prop := match o with
  | some (.frz (.int i)) => K i
  | _ => False
/-- an expression's value, taken -/
def wVl (x : Opd) (ρ : Sto) (K : R → Sto → Prop) : Prop := match x with
  | .val r => wSet (isScalR r) ρ fun ρ2 => K r ρ2
  | .slot i => wHard ρ (.slot i) fun d ρ2 => wSet false ρ2 fun ρ3 => K (.frz d) ρ3
def wPar (ρ : Sto) (xs : List Opd) (K : List R → Sto → Prop) : Prop := wl (parV ρ xs) fun p => K p.1 p.2
def wPutAll (is : List Nat) (rs : List R) (ρ : Sto) (K : Sto → Prop) : Prop := wl (putAll is rs ρ) K
def wNone (r : R) (K : Bool → Prop) : Prop := K (isNoneR r)
def nx (f : Fl) (ss : List S) (ρ : Sto) (K : Fl → Sto → Prop) : Prop := match f with
  | .next => wSs ss ρ K
  | f => K f ρ
/-- behind a loop's turn -/
def wFl (f : Fl) (A B : Prop) (C : R → Prop) : Prop := match f with
  | .next => A
  | .cont => A
  | .brk => B
  | .ret r => C r
def kD (n : Nat) (Q : R → Sto → Prop) (f : Fl) (ρ : Sto) : Prop := match f with
  | .next => Q (.frz .none) ((ρ.take n).map keepOut)
  | .ret r => Q r ((ρ.take n).map keepOut)
  | _ => False
section
variable {ρ ρ1 : Sto} {s : Option Sl} {Q : Opd → Sto → Prop}
theorem wp_ite {α : Type} {c : Prop} [Decidable c] {a b : Out α} {Q : α → Sto → Prop} : wp (if c then a else b) Q = ((c → wp a Q) ∧ (¬ c → wp b Q)) := by
  by_cases h : c <;> simp [h]
theorem wp_ite_s {α : Type} {c : Prop} [Decidable c] {a : Out α} {Q : α → Sto → Prop} : wp (if c then a else .stuck) Q = (c ∧ wp a Q) := by
  by_cases h : c
  · simp [h]
  · rw [if_neg h]; exact propext ⟨fun z => z.elim, fun z => h z.1⟩
theorem wIf_ite {α : Type} {k : Bool} {a b : Out α} {Q : α → Sto → Prop} : wp (if k then a else b) Q = wIf k (wp a Q) (wp b Q) := by cases k <;> simp [wIf]
theorem wl_ite_s {α : Type} {c : Prop} [Decidable c] {a : α} {K : α → Prop} : wl (if c then some a else none) K = (c ∧ K a) := by
  by_cases h : c
  · simp [h, wl_some]
  · rw [if_neg h]; exact propext ⟨fun z => z.elim, fun z => h z.1⟩
/-! expressions -/
theorem e_const (d : D) (ρ : Sto) (Q : Opd → Sto → Prop) : wE (.const d) ρ Q = Q (.val (.frz d)) ρ := by unfold wE; simp only [evE, wp_ret]
theorem e_bop (o : Bop) (a b : E) : wE (.bop o a b) (s :: ρ) Q = wE a (s :: ρ) fun x ρ1 => wE b ρ1 fun y ρ2 => wl (rd ρ2 x) fun x => wl (rd ρ2 y) fun y => wl (bopR o x y) fun r => Q (.val r) ρ2 := by
  unfold wE; simp only [evE, wp_bind, wp_lift, wp_ret]
theorem e_neg (a : E) : wE (.neg a) (s :: ρ) Q = wE a (s :: ρ) fun x ρ1 => wInt (rd ρ1 x) fun i => Q (.val (.frz (.int (-i)))) ρ1 := by
  unfold wE
  simp only [evE, wp_bind]
  congr 1; funext x ρ1
  unfold wInt
  cases rd ρ1 x with
  | none => rfl
  | some r => cases r with
    | lst _ => rfl
    | frz d => cases d <;> rfl
theorem e_cop (o : Cop) (a b : E) : wE (.cop o a b) (s :: ρ) Q = wE a (s :: ρ) fun x ρ1 => wE b ρ1 fun y ρ2 => wl (rd ρ2 x) fun x => wl (rd ρ2 y) fun y => wl (copR o x y) fun r => Q (.val (.frz (.bool r))) ρ2 := by
  unfold wE; simp only [evE, wp_bind, wp_lift, wp_ret]
theorem e_ch2 (o o' : Cop) (a b c : E) : wE (.ch2 o o' a b c) (s :: ρ) Q = wE a (s :: ρ) fun x ρ1 => wE b ρ1 fun y ρ2 => wl (rd ρ2 x) fun x' => wl (rd ρ2 y) fun y' => wl (copR o x' y') fun k =>
    wIf k (wE c ρ2 fun z ρ3 => wl (rd ρ3 y) fun y'' => wl (rd ρ3 z) fun z' => wl (copR o' y'' z') fun r => Q (.val (.frz (.bool r))) ρ3) (Q (.val (.frz (.bool false))) ρ2) := by
  unfold wE; simp only [evE, wp_bind, wp_lift, wp_ret, wIf_ite]
theorem e_isN (a : E) : wE (.isN a) (s :: ρ) Q = wE a (s :: ρ) fun x ρ1 => wl (rd ρ1 x) fun r => wNone r fun b => Q (.val (.frz (.bool b))) ρ1 := by
  unfold wE; simp only [evE, wp_bind, wp_lift, wp_ret, wNone]
theorem e_notN (a : E) : wE (.notN a) (s :: ρ) Q = wE a (s :: ρ) fun x ρ1 => wl (rd ρ1 x) fun r => wNone r fun b => Q (.val (.frz (.bool (!b)))) ρ1 := by
  unfold wE; simp only [evE, wp_bind, wp_lift, wp_ret, wNone]
theorem e_not (a : E) : wE (.not a) (s :: ρ) Q = wE a (s :: ρ) fun x ρ1 => wl (asBool ρ1 x) fun b => Q (.val (.frz (.bool (!b)))) ρ1 := by
  unfold wE; simp only [evE, wp_bind, wp_lift, wp_ret]
theorem e_and (a b : E) : wE (.and a b) (s :: ρ) Q = wE a (s :: ρ) fun x ρ1 => wl (asBool ρ1 x) fun c => wIf c (wE b ρ1 Q) (Q (.val (.frz (.bool false))) ρ1) := by
  unfold wE; simp only [evE, wp_bind, wp_lift, wp_ret, wIf_ite]
theorem e_or (a b : E) : wE (.or a b) (s :: ρ) Q = wE a (s :: ρ) fun x ρ1 => wl (asBool ρ1 x) fun c => wIf c (Q (.val (.frz (.bool true))) ρ1) (wE b ρ1 Q) := by
  unfold wE; simp only [evE, wp_bind, wp_lift, wp_ret, wIf_ite]
theorem e_ife (c a b : E) : wE (.ife c a b) (s :: ρ) Q = wE c (s :: ρ) fun x ρ1 => wl (asBool ρ1 x) fun k => wIf k (wE a ρ1 Q) (wE b ρ1 Q) := by
  unfold wE; simp only [evE, wp_bind, wp_lift, wp_ret, wIf_ite]
theorem e_idx (a b : E) : wE (.idx a b) (s :: ρ) Q = wE a (s :: ρ) fun x ρ1 => wE b ρ1 fun y ρ2 => wl (rd ρ2 x) fun x => wl (rd ρ2 y) fun y => wl (idxR x y) fun d => Q (.val (.frz d)) ρ2 := by
  unfold wE; simp only [evE, wp_bind, wp_lift, wp_ret]
theorem e_slc (a lo hi : E) : wE (.slc a lo hi) (s :: ρ) Q = wE a (s :: ρ) fun x ρ1 => wE lo ρ1 fun l ρ2 => wE hi ρ2 fun h ρ3 => wl (rd ρ3 x) fun x => wl (rd ρ3 l) fun l => wl (rd ρ3 h) fun h => wl (slcR x l h) fun r => Q (.val r) ρ3 := by
  unfold wE; simp only [evE, wp_bind, wp_lift, wp_ret]
theorem e_asI (a : E) : wE (.asI a) (s :: ρ) Q = wE a (s :: ρ) fun x ρ1 => wInt (rd ρ1 x) fun i => Q (.val (.frz (.int i))) ρ1 := by
  unfold wE
  simp only [evE, wp_bind]
  congr 1; funext x ρ1
  unfold wInt
  cases rd ρ1 x with
  | none => rfl
  | some r => cases r with
    | lst _ => rfl
    | frz d => cases d <;> rfl
theorem e_rev (a : E) : wE (.rev a) (s :: ρ) Q = wE a (s :: ρ) fun x ρ1 => wl (rd ρ1 x) fun x => wl (revR x) fun r => Q (.val r) ρ1 := by
  unfold wE; simp only [evE, wp_bind, wp_lift, wp_ret]
theorem e_tup (es : List E) : wE (.tup es) (s :: ρ) Q = wEs es (s :: ρ) fun xs ρ1 => wHards ρ1 xs fun ds ρ2 => ds.length ≤ sizeLine ∧ Q (.val (.frz (.tuple ds))) ρ2 := by
  unfold wE wEs wHards; simp only [evE, wp_bind, wp_lift, wp_ite_s, wp_ret]
theorem e_lst (es : List E) : wE (.lst es) (s :: ρ) Q = wEs es (s :: ρ) fun xs ρ1 => wHards ρ1 xs fun ds ρ2 => ds.length ≤ sizeLine ∧ Q (.val (.lst ds)) ρ2 := by
  unfold wE wEs wHards; simp only [evE, wp_bind, wp_lift, wp_ite_s, wp_ret]
theorem e_call (fi : Fi) (es : List E) : wE (.call fi es) (s :: ρ) Q = wEs es (s :: ρ) fun xs ρ1 => wCall fi xs ρ1 Q := by
  unfold wE wEs wCall; simp only [evE, wp_bind]
theorem e_callk (fi : Fi) (es : List E) (p : List Nat) : wE (.callk fi es p) (s :: ρ) Q = wEs es (s :: ρ) fun xs ρ1 => wl (permD xs p) fun ys => wCall fi ys ρ1 Q := by
  unfold wE wEs wCall; simp only [evE, wp_bind, wp_lift]
theorem e_bi (b : Bi) (es : List E) : wE (.bi b es) (s :: ρ) Q = wEs es (s :: ρ) fun xs ρ1 => wl (rds ρ1 xs) fun ys => wl (biR b ys) fun r => Q (.val r) ρ1 := by
  unfold wE wEs; simp only [evE, wp_bind, wp_lift, wp_ret]
theorem e_comp (elt : E) (tg : Tg) (it : It) (ifs : List E) (own : List Nat) : wE (.comp elt tg it ifs own) (s :: ρ) Q = wIt it (s :: ρ) fun ds ρ1 => wComp elt tg ifs own ds ρ1 Q := by
  unfold wE wIt wComp; simp only [evE, wp_bind, wp_ret]
theorem es_nil (ρ : Sto) (Q : List Opd → Sto → Prop) : wEs [] ρ Q = Q [] ρ := by unfold wEs; simp only [evEs, wp_ret]
theorem es_cons (e : E) (es : List E) (Q : List Opd → Sto → Prop) : wEs (e :: es) (s :: ρ) Q = wE e (s :: ρ) fun x ρ1 => wEs es ρ1 fun xs ρ2 => Q (x :: xs) ρ2 := by
  unfold wEs wE; simp only [evEs, wp_bind, wp_ret]
theorem ts_nil (ρ : Sto) (Q : Bool → Sto → Prop) : wTs [] ρ Q = Q true ρ := by unfold wTs; simp only [evTs, wp_ret]
theorem ts_cons (e : E) (es : List E) (Q : Bool → Sto → Prop) : wTs (e :: es) (s :: ρ) Q = wE e (s :: ρ) fun x ρ1 => wl (asBool ρ1 x) fun b => wIf b (wTs es ρ1 Q) (Q false ρ1) := by
  unfold wTs wE; simp only [evTs, wp_bind, wp_lift, wIf_ite, wp_ret]
/-! walked things -/
variable {L : List D → Sto → Prop}
theorem it_seq (e : E) : wIt (.seq e) (s :: ρ) L = wE e (s :: ρ) fun x ρ1 => wHard ρ1 x fun d ρ2 => wl (seqD d) fun ds => L ds ρ2 := by
  unfold wIt wE wHard; simp only [evIt, wp_bind, wp_lift, wp_ret]
theorem it_range1 (e : E) : wIt (.range1 e) (s :: ρ) L = wE e (s :: ρ) fun x ρ1 => wInt (rd ρ1 x) fun j => (-(2 ^ 62) ≤ j ∧ j < 2 ^ 62) ∧ L (itInts 0 j.toNat) ρ1 := by
  unfold wIt wE
  simp only [evIt, wp_bind]
  congr 1; funext x ρ1
  unfold wInt
  cases rd ρ1 x with
  | none => rfl
  | some r => cases r with
    | lst _ => rfl
    | frz d => cases d <;> first | rfl | exact wp_ite_s
theorem it_range2 (a b : E) : wIt (.range2 a b) (s :: ρ) L = wE a (s :: ρ) fun x ρ1 => wE b ρ1 fun y ρ2 => wInt (rd ρ2 x) fun i => wInt (rd ρ2 y) fun j => (-(2 ^ 62) ≤ i ∧ i < 2 ^ 62 ∧ -(2 ^ 62) ≤ j ∧ j < 2 ^ 62) ∧ L (itInts i (j - i).toNat) ρ2 := by
  unfold wIt wE
  simp only [evIt, wp_bind]
  congr 1; funext x ρ1
  congr 1; funext y ρ2
  cases rd ρ2 x with
  | none => rfl
  | some r => cases r with
    | lst _ => rfl
    | frz d =>
      cases d <;> try rfl
      cases rd ρ2 y with
      | none => rfl
      | some r => cases r with
        | lst _ => rfl
        | frz d => cases d <;> first | rfl | exact wp_ite_s
theorem it_enum (e : E) : wIt (.enum e) (s :: ρ) L = wE e (s :: ρ) fun x ρ1 => wHard ρ1 x fun d ρ2 => wl (seqD d) fun ds => L (itEnum ds) ρ2 := by
  unfold wIt wE wHard; simp only [evIt, wp_bind, wp_lift, wp_ret]
theorem it_revd (e : E) : wIt (.revd e) (s :: ρ) L = wE e (s :: ρ) fun x ρ1 => wHard ρ1 x fun d ρ2 => wl (seqD d) fun ds => L ds.reverse ρ2 := by
  unfold wIt wE wHard; simp only [evIt, wp_bind, wp_lift, wp_ret]
theorem it_zipt (a b : E) : wIt (.zip true a b) (s :: ρ) L = wE a (s :: ρ) fun x ρ1 => wE b ρ1 fun y ρ2 => wHard ρ2 x fun d ρ3 => wHard ρ3 y fun d' ρ4 => wl (seqD d) fun xs => wl (seqD d') fun ys => xs.length = ys.length ∧ L (itZip xs ys) ρ4 := by
  unfold wIt wE wHard; simp only [evIt, wp_bind, wp_lift]
  congr 1; funext x ρ1
  congr 1; funext y ρ2
  congr 1; funext p
  congr 1; funext p'
  congr 1; funext xs
  congr 1; funext ys
  by_cases h : xs.length = ys.length <;> simp [h, wp]
theorem it_zipf (a b : E) : wIt (.zip false a b) (s :: ρ) L = wE a (s :: ρ) fun x ρ1 => wE b ρ1 fun y ρ2 => wHard ρ2 x fun d ρ3 => wHard ρ3 y fun d' ρ4 => wl (seqD d) fun xs => wl (seqD d') fun ys => L (itZip xs ys) ρ4 := by
  unfold wIt wE wHard; simp only [evIt, wp_bind, wp_lift, Bool.false_and, Bool.false_eq_true, if_false, wp_ret]
/-! statements -/
variable {K : Fl → Sto → Prop}
theorem ss_nil (ρ : Sto) (K : Fl → Sto → Prop) : wSs [] ρ K = K .next ρ := by unfold wSs; simp only [evSs, wp_ret]
theorem ss_cons (t : S) (ss : List S) : wSs (t :: ss) ρ K = wS t ρ fun f ρ1 => nx f ss ρ1 K := by
  unfold wSs wS
  simp only [evSs, wp_bind]
  congr 1; funext f ρ1
  unfold nx wSs
  cases f <;> rfl
theorem s_setv (i : Nat) (e : E) : wS (.setv i e) (s :: ρ) K = wE e (s :: ρ) fun x ρ1 => wVl x ρ1 fun r ρ2 => wPut ρ2 i (slOf r) fun ρ3 => K .next ρ3 := by
  unfold wS wE
  simp only [evS, evV, wp_bind, wp_lift, wp_ret]
  congr 1; funext x ρ1
  unfold wVl wSet wPut wHard
  cases x <;> simp only [wp_lift, wp_ret]
theorem s_sett (tg : Tg) (e : E) : wS (.sett tg e) (s :: ρ) K = wE e (s :: ρ) fun x ρ1 => wVl x ρ1 fun r ρ2 => wTg .frz tg (toD r) ρ2 fun ρ3 => K .next ρ3 := by
  unfold wS wE
  simp only [evS, evV, wp_bind, wp_lift, wp_ret]
  congr 1; funext x ρ1
  unfold wVl wSet wTg wHard
  cases x <;> simp only [wp_lift, wp_ret]
theorem s_par (is : List Nat) (es : List E) : wS (.par is es) (s :: ρ) K = wEs es (s :: ρ) fun xs ρ0 => wPar ρ0 xs fun rs ρ1 => wSet (rs.all isScalR) ρ1 fun ρ2 => wPutAll is rs ρ2 fun ρ3 => K .next ρ3 := by
  unfold wS wEs wPar wSet wPutAll
  simp only [evS, wp_bind, wp_lift, wp_ret]
def wAug (t : Option Sl) (i : Nat) (o : Bop) (e : E) (ρ : Sto) (K : Fl → Sto → Prop) : Prop := match t with
  | some (.frz (.int x)) => wE e ρ fun y ρ1 => wInt (rd ρ1 y) fun y => wl (bopI o x y) fun z => wSet true ρ1 fun ρ2 => wPut ρ2 i (.frz (.int z)) fun ρ3 => K .next ρ3
  | some (.mut .clean _ _) => match o with
    | .add => wE e ρ fun x ρ1 => wVl x ρ1 fun r ρ2 => match r, getS ρ2 i with
      | .lst ys, some (.mut .clean k xs) => xs.length + ys.length ≤ sizeLine ∧ K .next (ρ2.set i (some (.mut .clean k (xs ++ ys))))
      | _, _ => False
    | _ => False
  | _ => False
def wAugL (r : R) (t : Option Sl) (i : Nat) (ρ : Sto) (K : Fl → Sto → Prop) : Prop := match r, t with
  | .lst ys, some (.mut .clean k xs) => xs.length + ys.length ≤ sizeLine ∧ K .next (ρ.set i (some (.mut .clean k (xs ++ ys))))
  | _, _ => False
theorem s_aug (i : Nat) (o : Bop) (e : E) : wS (.aug i o e) (s :: ρ) K = wAug (getS (s :: ρ) i) i o e (s :: ρ) K := by
  unfold wS
  simp only [evS]
  generalize getS (s :: ρ) i = t
  unfold wAug
  cases t with
  | none => rfl
  | some t => cases t with
    | tmp d => rfl
    | frz d =>
      cases d <;> try rfl
      unfold wE
      simp only [wp_bind]
      congr 1; funext y ρ1
      unfold wInt
      cases rd ρ1 y with
      | none => rfl
      | some r => cases r with
        | lst _ => rfl
        | frz d =>
          cases d <;> try rfl
          simp only [wp_lift, wp_ret]; rfl
    | «mut» m k xs =>
      cases m <;> try rfl
      cases o <;> try rfl
      unfold wE
      simp only [evV, wp_bind]
      congr 1; funext x ρ1
      unfold wVl wSet wHard
      cases x with
      | val r =>
        simp only [wp_lift, wp_ret]
        congr 1; funext ρ2
        cases r with
        | frz _ => rfl
        | lst ys =>
          simp only []
          cases getS ρ2 i with
          | none => rfl
          | some t => cases t with
            | «mut» m k xs => cases m <;> first | rfl | exact wp_ite_s
            | _ => rfl
      | slot j =>
        simp only [wp_lift, wp_ret]
        congr 1
theorem aug_i (x : Int) (i : Nat) (o : Bop) (e : E) (ρ : Sto) (K : Fl → Sto → Prop) : wAug (some (.frz (.int x))) i o e ρ K = wE e ρ fun y ρ1 => wInt (rd ρ1 y) fun y => wl (bopI o x y) fun z => wSet true ρ1 fun ρ2 => wPut ρ2 i (.frz (.int z)) fun ρ3 => K .next ρ3 := nr rfl
theorem aug_l (k : Bool) (xs : List D) (i : Nat) (e : E) (ρ : Sto) (K : Fl → Sto → Prop) : wAug (some (.mut .clean k xs)) i .add e ρ K = wE e ρ fun x ρ1 => wVl x ρ1 fun r ρ2 => wAugL r (getS ρ2 i) i ρ2 K := nr rfl
theorem augL_l (ys : List D) (k : Bool) (xs : List D) (i : Nat) (ρ : Sto) (K : Fl → Sto → Prop) : wAugL (.lst ys) (some (.mut .clean k xs)) i ρ K = (xs.length + ys.length ≤ sizeLine ∧ K .next (ρ.set i (some (.mut .clean k (xs ++ ys))))) := nr rfl
def wSeti (t : Option Sl) (i : Nat) (j : Int) (d : D) (ρ : Sto) (K : Fl → Sto → Prop) : Prop := match t with
  | some (.mut .clean k xs) => wl (ixN xs.length j) fun n => K .next (ρ.set i (some (.mut .clean k (xs.set n d))))
  | _ => False
theorem seti_l (k : Bool) (xs : List D) (i : Nat) (j : Int) (d : D) (ρ : Sto) (K : Fl → Sto → Prop) : wSeti (some (.mut .clean k xs)) i j d ρ K = wl (ixN xs.length j) fun n => K .next (ρ.set i (some (.mut .clean k (xs.set n d)))) := nr rfl
/-- a list of one's own stands there -/
def wOwn (t : Option Sl) (A : Prop) : Prop := match t with
  | some (.mut .clean _ _) => A
  | _ => False
theorem own_l (k : Bool) (xs : List D) (A : Prop) : wOwn (some (.mut .clean k xs)) A = A := nr rfl
theorem s_seti (i : Nat) (ie e : E) : wS (.seti i ie e) (s :: ρ) K = wOwn (getS (s :: ρ) i) (wE e (s :: ρ) fun x ρ0 => wHard ρ0 x fun d ρ1 => wE ie ρ1 fun j ρ2 => wInt (rd ρ2 j) fun j => wSet (isScal d) ρ2 fun ρ3 => wSeti (getS ρ3 i) i j d ρ3 K) := by
  unfold wS
  simp only [evS]
  generalize getS (s :: ρ) i = t
  cases t with
  | none => rfl
  | some t => cases t with
    | tmp d => rfl
    | frz d => rfl
    | «mut» m k xs =>
      cases m <;> try rfl
      unfold wE wHard wSet wOwn
      simp only [wp_bind, wp_lift]
      congr 1; funext x ρ0
      congr 1; funext p
      congr 1; funext j ρ2
      unfold wInt
      cases rd ρ2 j with
      | none => rfl
      | some r => cases r with
        | lst _ => rfl
        | frz d =>
          cases d <;> try rfl
          simp only [wp_lift]
          congr 1; funext ρ3
          unfold wSeti
          cases getS ρ3 i with
          | none => rfl
          | some t => cases t with
            | «mut» m k xs => cases m <;> first | rfl | simp only [wp_lift, wp_ret]
            | _ => rfl
theorem s_expr (e : E) : wS (.expr e) (s :: ρ) K = wE e (s :: ρ) fun _ ρ1 => wSet true ρ1 fun ρ2 => K .next ρ2 := by
  unfold wS wE wSet; simp only [evS, wp_bind, wp_lift, wp_ret]
def wApp (t : Option Sl) (i : Nat) (d : D) (ρ : Sto) (K : Fl → Sto → Prop) : Prop := match t with
  | some (.mut .clean k xs) => xs.length < sizeLine ∧ K .next (ρ.set i (some (.mut .clean k (xs ++ [d]))))
  | _ => False
theorem app_l (k : Bool) (xs : List D) (i : Nat) (d : D) (ρ : Sto) (K : Fl → Sto → Prop) : wApp (some (.mut .clean k xs)) i d ρ K = (xs.length < sizeLine ∧ K .next (ρ.set i (some (.mut .clean k (xs ++ [d]))))) := nr rfl
theorem s_app (i : Nat) (e : E) : wS (.app i e) (s :: ρ) K = wOwn (getS (s :: ρ) i) (wE e (s :: ρ) fun x ρ0 => wHard ρ0 x fun d ρ1 => wSet (isScal d) ρ1 fun ρ2 => wApp (getS ρ2 i) i d ρ2 K) := by
  unfold wS
  simp only [evS]
  generalize getS (s :: ρ) i = t
  cases t with
  | none => rfl
  | some t => cases t with
    | tmp d => rfl
    | frz d => rfl
    | «mut» m k xs =>
      cases m <;> try rfl
      unfold wE wHard wSet wOwn
      simp only [wp_bind, wp_lift]
      congr 1; funext x ρ0
      congr 1; funext p
      congr 1; funext ρ2
      unfold wApp
      cases getS ρ2 i with
      | none => rfl
      | some t => cases t with
        | «mut» m k xs => cases m <;> first | rfl | exact wp_ite_s
        | _ => rfl
theorem s_ext (i : Nat) (e : E) : wS (.ext i e) (s :: ρ) K = wOwn (getS (s :: ρ) i) (wE e (s :: ρ) fun x ρ1 => wVl x ρ1 fun r ρ2 => wAugL r (getS ρ2 i) i ρ2 K) := by
  unfold wS
  simp only [evS]
  generalize getS (s :: ρ) i = t
  cases t with
  | none => rfl
  | some t => cases t with
    | tmp d => rfl
    | frz d => rfl
    | «mut» m k xs =>
      cases m <;> try rfl
      unfold wE wOwn
      simp only [evV, wp_bind]
      congr 1; funext x ρ1
      unfold wVl wSet wHard
      cases x with
      | val r =>
        simp only [wp_lift, wp_ret]
        congr 1; funext ρ2
        cases r with
        | frz _ => rfl
        | lst ys =>
          simp only []
          cases getS ρ2 i with
          | none => rfl
          | some t => cases t with
            | «mut» m k xs => cases m <;> first | rfl | exact wp_ite_s
            | _ => rfl
      | slot j =>
        simp only [wp_lift, wp_ret]
        congr 1
def wMt0 (t : Option Sl) (i : Nat) (m : M0) (ρ : Sto) (K : Fl → Sto → Prop) : Prop := match t with
  | some (.mut .clean k xs) => K .next (ρ.set i (some (.mut .clean k (mt0D m xs))))
  | _ => False
theorem mt0_l (k : Bool) (xs : List D) (i : Nat) (m : M0) (ρ : Sto) (K : Fl → Sto → Prop) : wMt0 (some (.mut .clean k xs)) i m ρ K = K .next (ρ.set i (some (.mut .clean k (mt0D m xs)))) := nr rfl
theorem mt0_rev (xs : List D) : mt0D .rev xs = xs.reverse := nr rfl
theorem mt0_clr (xs : List D) : mt0D .clr xs = [] := nr rfl
theorem s_mt0 (i : Nat) (m : M0) : wS (.mt0 i m) ρ K = wMt0 (getS ρ i) i m ρ K := by
  unfold wS
  simp only [evS]
  generalize getS ρ i = t
  cases t with
  | none => rfl
  | some t => cases t with
    | «mut» md k xs => cases md <;> rfl
    | _ => rfl
theorem s_iff (c : E) (a b : List S) : wS (.iff c a b) (s :: ρ) K = wE c (s :: ρ) fun x ρ1 => wl (asBool ρ1 x) fun k => wSet true ρ1 fun ρ2 => wIf k (wSs a ρ2 K) (wSs b ρ2 K) := by
  unfold wS wE wSet wSs; simp only [evS, evT, wp_bind, wp_lift, wp_ret, wIf_ite]
theorem s_whl (c : E) (b : List S) : wS (.whl c b) (s :: ρ) K = wWhl c b turns (s :: ρ) K := by unfold wS wWhl; simp only [evS]
theorem s_for (tg : Tg) (it : It) (b : List S) : wS (.forr tg it b) (s :: ρ) K = wIt it (s :: ρ) fun ds ρ1 => wSet false ρ1 fun ρ2 => wFor tg b ds ρ2 K := by
  unfold wS wIt wSet wFor; simp only [evS, wp_bind, wp_lift]
def wRet (x : Opd) (ρ : Sto) (K : Fl → Sto → Prop) : Prop := match x with
  | .val r => wSet (isScalR r) ρ fun ρ2 => K (.ret r) ρ2
  | .slot i => match getS ρ i with
    | some (.mut .clean false ds) => wSet false (ρ.set i none) fun ρ2 => K (.ret (.lst ds)) ρ2
    | _ => False
def wRetS (t : Option Sl) (i : Nat) (ρ : Sto) (K : Fl → Sto → Prop) : Prop := match t with
  | some (.mut .clean false ds) => wSet false (ρ.set i none) fun ρ2 => K (.ret (.lst ds)) ρ2
  | _ => False
theorem ret_v (r : R) (ρ : Sto) (K : Fl → Sto → Prop) : wRet (.val r) ρ K = wSet (isScalR r) ρ fun ρ2 => K (.ret r) ρ2 := nr rfl
theorem ret_s (i : Nat) (ρ : Sto) (K : Fl → Sto → Prop) : wRet (.slot i) ρ K = wRetS (getS ρ i) i ρ K := nr rfl
theorem retS_l (ds : List D) (i : Nat) (ρ : Sto) (K : Fl → Sto → Prop) : wRetS (some (.mut .clean false ds)) i ρ K = wSet false (ρ.set i none) fun ρ2 => K (.ret (.lst ds)) ρ2 := nr rfl
theorem s_ret (e : E) : wS (.ret e) (s :: ρ) K = wE e (s :: ρ) fun x ρ1 => wRet x ρ1 K := by
  unfold wS wE
  simp only [evS, wp_bind]
  congr 1; funext x ρ1
  unfold wRet wSet
  cases x with
  | val r => simp only [wp_lift, wp_ret]
  | slot i =>
    simp only []
    cases getS ρ1 i with
    | none => rfl
    | some t => cases t with
      | «mut» m k xs => cases m <;> cases k <;> first | rfl | simp only [wp_lift, wp_ret]
      | _ => rfl
theorem s_retN (ρ : Sto) (K : Fl → Sto → Prop) : wS .retN ρ K = K (.ret (.frz .none)) ρ := by unfold wS; simp only [evS, wp_ret]
theorem s_brk (ρ : Sto) (K : Fl → Sto → Prop) : wS .brk ρ K = K .brk ρ := by unfold wS; simp only [evS, wp_ret]
theorem s_cont (ρ : Sto) (K : Fl → Sto → Prop) : wS .cont ρ K = K .cont ρ := by unfold wS; simp only [evS, wp_ret]
theorem s_pass (ρ : Sto) (K : Fl → Sto → Prop) : wS .pass ρ K = K .next ρ := by unfold wS; simp only [evS, wp_ret]
theorem s_never (ρ : Sto) (K : Fl → Sto → Prop) : wS .never ρ K = False := by unfold wS; simp only [evS, wp]
theorem nx_n (ss : List S) (ρ : Sto) (K : Fl → Sto → Prop) : nx .next ss ρ K = wSs ss ρ K := nr rfl
theorem nx_r (r : R) (ss : List S) (ρ : Sto) (K : Fl → Sto → Prop) : nx (.ret r) ss ρ K = K (.ret r) ρ := nr rfl
theorem nx_b (ss : List S) (ρ : Sto) (K : Fl → Sto → Prop) : nx .brk ss ρ K = K .brk ρ := nr rfl
theorem nx_c (ss : List S) (ρ : Sto) (K : Fl → Sto → Prop) : nx .cont ss ρ K = K .cont ρ := nr rfl
theorem fl_n (A B : Prop) (C : R → Prop) : wFl .next A B C = A := nr rfl
theorem fl_c (A B : Prop) (C : R → Prop) : wFl .cont A B C = A := nr rfl
theorem fl_b (A B : Prop) (C : R → Prop) : wFl .brk A B C = B := nr rfl
theorem fl_r (r : R) (A B : Prop) (C : R → Prop) : wFl (.ret r) A B C = C r := nr rfl
theorem vl_v (r : R) (ρ : Sto) (K : R → Sto → Prop) : wVl (.val r) ρ K = wSet (isScalR r) ρ fun ρ2 => K r ρ2 := nr rfl
theorem vl_s (i : Nat) (ρ : Sto) (K : R → Sto → Prop) : wVl (.slot i) ρ K = wHard ρ (.slot i) fun d ρ2 => wSet false ρ2 fun ρ3 => K (.frz d) ρ3 := nr rfl
theorem w_def {n : Nat} {body : List S} {ρa : Sto} {Q : R → Sto → Prop} : wp (evDef n body ρa) Q = wSs body (ρa ++ List.replicate (n - ρa.length) none) (kD ρa.length Q) := by
  unfold evDef wSs
  rw [wp_bind]
  congr 1; funext f ρ1
  cases f <;> rfl
end
end Rx
set_option Elab.async false
set_option linter.all false
/-! Rx29: small steps on known things -/
namespace Rx
open PySem PySem.Spec L2
/-- a slot that is free to be stored to, and nothing is lent of it -/
def fr (x : Option Sl) : Bool := match x with
  | none => true
  | some (.frz _) => true
  | some (.mut .clean false _) => true
  | _ => false
theorem fr_n : fr none = true := nr rfl
theorem fr_f (d : D) : fr (some (.frz d)) = true := nr rfl
theorem fr_m (l : List D) : fr (some (.mut .clean false l)) = true := nr rfl
/-- nothing lent, nothing just changed -/
def cln (ρ : Sto) : Bool := ρ.all fun
  | none => true
  | some (.frz _) => true
  | some (.mut .clean _ _) => true
  | _ => false
theorem cln_nil : cln [] = true := nr rfl
theorem cln_n (ρ : Sto) : cln (none :: ρ) = cln ρ := nr rfl
theorem cln_f (d : D) (ρ : Sto) : cln (some (.frz d) :: ρ) = cln ρ := nr rfl
theorem cln_m (k : Bool) (l : List D) (ρ : Sto) : cln (some (.mut .clean k l) :: ρ) = cln ρ := nr rfl
theorem cln_l (k : Bool) (l : List D) (ρ : Sto) : cln (some (.mut .lent k l) :: ρ) = false := nr rfl
theorem cln_d (k : Bool) (l : List D) (ρ : Sto) : cln (some (.mut .dirt k l) :: ρ) = false := nr rfl
theorem cln_x {x : Option Sl} (h : fr x = true) (ρ : Sto) : cln (x :: ρ) = cln ρ := by
  unfold fr at h
  split at h <;> first | rfl | contradiction
def unS : Sto → Sto := List.map unlend
theorem un_nil : unS [] = [] := nr rfl
theorem un_n (ρ : Sto) : unS (none :: ρ) = none :: unS ρ := nr rfl
theorem un_f (d : D) (ρ : Sto) : unS (some (.frz d) :: ρ) = some (.frz d) :: unS ρ := nr rfl
theorem un_m (m : Md) (k : Bool) (l : List D) (ρ : Sto) : unS (some (.mut m k l) :: ρ) = some (.mut .clean k l) :: unS ρ := nr rfl
theorem un_x {x : Option Sl} (h : fr x = true) (ρ : Sto) : unS (x :: ρ) = x :: unS ρ := by
  unfold fr at h
  split at h <;> first | rfl | contradiction
def fzS : Sto → Sto := List.map freeze
theorem fz_nil : fzS [] = [] := nr rfl
theorem fz_n (ρ : Sto) : fzS (none :: ρ) = none :: fzS ρ := nr rfl
theorem fz_f (d : D) (ρ : Sto) : fzS (some (.frz d) :: ρ) = some (.frz d) :: fzS ρ := nr rfl
theorem fz_m (k : Bool) (l : List D) (ρ : Sto) : fzS (some (.mut .clean k l) :: ρ) = some (.mut .clean k l) :: fzS ρ := nr rfl
theorem fz_l (k : Bool) (l : List D) (ρ : Sto) : fzS (some (.mut .lent k l) :: ρ) = some (.frz (.list l)) :: fzS ρ := nr rfl
theorem fz_d (k : Bool) (l : List D) (ρ : Sto) : fzS (some (.mut .dirt k l) :: ρ) = some (.mut .clean k l) :: fzS ρ := nr rfl
theorem fz_x {x : Option Sl} (h : fr x = true) (ρ : Sto) : fzS (x :: ρ) = x :: fzS ρ := by
  unfold fr at h
  split at h <;> first | rfl | contradiction
theorem nl_nil : noLent [] = true := nr rfl
theorem nl_n (ρ : Sto) : noLent (none :: ρ) = noLent ρ := nr rfl
theorem nl_f (d : D) (ρ : Sto) : noLent (some (.frz d) :: ρ) = noLent ρ := nr rfl
theorem nl_m (k : Bool) (l : List D) (ρ : Sto) : noLent (some (.mut .clean k l) :: ρ) = noLent ρ := nr rfl
theorem nl_l (k : Bool) (l : List D) (ρ : Sto) : noLent (some (.mut .lent k l) :: ρ) = false := nr rfl
theorem nl_d (k : Bool) (l : List D) (ρ : Sto) : noLent (some (.mut .dirt k l) :: ρ) = noLent ρ := nr rfl
theorem nl_x {x : Option Sl} (h : fr x = true) (ρ : Sto) : noLent (x :: ρ) = noLent ρ := by
  unfold fr at h
  split at h <;> first | rfl | contradiction
def mfz (ρ : Sto) : Bool := ρ.all mayFreeze
theorem mf_nil : mfz [] = true := nr rfl
theorem mf_n (ρ : Sto) : mfz (none :: ρ) = mfz ρ := nr rfl
theorem mf_f (d : D) (ρ : Sto) : mfz (some (.frz d) :: ρ) = mfz ρ := nr rfl
theorem mf_m (k : Bool) (l : List D) (ρ : Sto) : mfz (some (.mut .clean k l) :: ρ) = mfz ρ := nr rfl
theorem mf_l (l : List D) (ρ : Sto) : mfz (some (.mut .lent false l) :: ρ) = mfz ρ := nr rfl
theorem mf_d (k : Bool) (l : List D) (ρ : Sto) : mfz (some (.mut .dirt k l) :: ρ) = mfz ρ := nr rfl
theorem mf_x {x : Option Sl} (h : fr x = true) (ρ : Sto) : mfz (x :: ρ) = mfz ρ := by
  unfold fr at h
  split at h <;> first | rfl | contradiction
theorem df_nil : dirtFlat [] = true := nr rfl
theorem df_n (ρ : Sto) : dirtFlat (none :: ρ) = dirtFlat ρ := nr rfl
theorem df_f (d : D) (ρ : Sto) : dirtFlat (some (.frz d) :: ρ) = dirtFlat ρ := nr rfl
theorem df_m (k : Bool) (l : List D) (ρ : Sto) : dirtFlat (some (.mut .clean k l) :: ρ) = dirtFlat ρ := nr rfl
theorem df_l (k : Bool) (l : List D) (ρ : Sto) : dirtFlat (some (.mut .lent k l) :: ρ) = dirtFlat ρ := nr rfl
theorem df_d (k : Bool) (l : List D) (ρ : Sto) : dirtFlat (some (.mut .dirt k l) :: ρ) = (l.all isScal && dirtFlat ρ) := nr rfl
theorem df_x {x : Option Sl} (h : fr x = true) (ρ : Sto) : dirtFlat (x :: ρ) = dirtFlat ρ := by
  unfold fr at h
  split at h <;> first | rfl | contradiction
theorem cln_un : ∀ {ρ : Sto}, cln ρ = true → noLent ρ = true ∧ unS ρ = ρ
  | [], _ => ⟨rfl, rfl⟩
  | x :: ρ, h => by
    have h2 : cln ρ = true := by
      unfold cln at h ⊢
      rw [List.all_cons, Bool.and_eq_true] at h
      exact h.2
    obtain ⟨i1, i2⟩ := cln_un h2
    have h1 : cln [x] = true := by
      unfold cln at h ⊢
      rw [List.all_cons, Bool.and_eq_true] at h ⊢
      exact ⟨h.1, rfl⟩
    cases x with
    | none => exact ⟨i1, by rw [un_n, i2]⟩
    | some t => cases t with
      | frz d => exact ⟨i1, by rw [un_f, i2]⟩
      | tmp d => cases h1
      | «mut» m k l => cases m <;> first | (cases h1; done) | exact ⟨i1, by rw [un_m, i2]⟩
section
variable {ρ : Sto} {K : Sto → Prop} {sc : Bool}
theorem set_c (h : cln ρ = true) : wSet sc ρ K = K ρ := by
  obtain ⟨h1, h2⟩ := cln_un h
  unfold wSet settle
  rw [if_pos h1]
  show K (unS ρ) = K ρ
  rw [h2]
theorem set_d (h : noLent ρ = true) : wSet sc ρ K = K (unS ρ) := by
  unfold wSet settle
  rw [if_pos h]
  rfl
theorem set_b (h : noLent ρ = false) (d : dirtFlat ρ = true) : wSet true ρ K = K (unS ρ) := by
  unfold wSet settle
  rw [if_neg (by simp [h]), if_pos (by simp [d])]
  rfl
theorem set_f (h : noLent ρ = false) (d : mfz ρ = true) : wSet false ρ K = K (fzS ρ) := by
  unfold wSet settle
  rw [if_neg (by simp [h]), if_neg (by simp), if_pos (show (ρ.all mayFreeze) = true from d)]
  rfl
end
/-! stores -/
theorem ik_n : isKeep none = false := nr rfl
theorem ik_f (d : D) : isKeep (some (.frz d)) = false := nr rfl
theorem ik_m (m : Md) (l : List D) : isKeep (some (.mut m false l)) = false := nr rfl
theorem ik_x {x : Option Sl} (h : fr x = true) : isKeep x = false := by
  unfold fr at h
  split at h <;> first | rfl | contradiction
theorem put_e {ρ : Sto} {i : Nat} {s : Sl} {K : Sto → Prop} : wPut ρ i s K = ((i < ρ.length ∧ isKeep (getS ρ i) = false) ∧ K (ρ.set i (some s))) := by
  unfold wPut putS
  exact wl_ite_s
/-- a store where nothing hinders -/
theorem put_k {ρ : Sto} {i : Nat} {s : Sl} {K : Sto → Prop} (h : i < ρ.length) (k : isKeep (getS ρ i) = false) : wPut ρ i s K = K (ρ.set i (some s)) := by
  rw [put_e]
  exact propext ⟨fun z => z.2, fun z => ⟨⟨h, k⟩, z⟩⟩
theorem putr_f {ρ : Sto} {i : Nat} {d : D} {K : Sto → Prop} : wPut ρ i (slOf (.frz d)) K = wPut ρ i (.frz d) K := nr rfl
theorem putr_l {ρ : Sto} {i : Nat} {l : List D} {K : Sto → Prop} : wPut ρ i (slOf (.lst l)) K = wPut ρ i (.mut .clean false l) K := nr rfl
theorem tg_n {mk : D → Sl} {i : Nat} {d : D} {ρ : Sto} {K : Sto → Prop} : wTg mk (.nm i) d ρ K = wPut ρ i (mk d) K := by unfold wTg wPut; simp only [setTg]
theorem tg_t {mk : D → Sl} {ts : List Tg} {ds : List D} {ρ : Sto} {K : Sto → Prop} : wTg mk (.tup ts) (.tuple ds) ρ K = wTgs mk ts ds ρ K := by unfold wTg wTgs; simp only [setTg]
theorem tgs_n {mk : D → Sl} {ρ : Sto} {K : Sto → Prop} : wTgs mk [] [] ρ K = K ρ := by unfold wTgs; simp only [setTgs, wl_some]
theorem tgs_c {mk : D → Sl} {t : Tg} {ts : List Tg} {d : D} {ds : List D} {ρ : Sto} {K : Sto → Prop} : wTgs mk (t :: ts) (d :: ds) ρ K = wTg mk t d ρ fun ρ1 => wTgs mk ts ds ρ1 K := by
  unfold wTgs wTg; simp only [setTgs, wl_bind]
theorem pa_n {ρ : Sto} {K : Sto → Prop} : wPutAll [] [] ρ K = K ρ := nr rfl
theorem pa_c {i : Nat} {is : List Nat} {r : R} {rs : List R} {ρ : Sto} {K : Sto → Prop} : wPutAll (i :: is) (r :: rs) ρ K = wPutAll is rs ρ fun ρ1 => wPut ρ1 i (slOf r) K := by
  unfold wPutAll wPut; simp only [putAll, wl_bind]
theorem par_n {ρ : Sto} {K : List R → Sto → Prop} : wPar ρ [] K = K [] ρ := nr rfl
theorem par_v {ρ : Sto} {r : R} {xs : List Opd} {K : List R → Sto → Prop} : wPar ρ (.val r :: xs) K = wPar ρ xs fun rs ρ1 => K (r :: rs) ρ1 := by unfold wPar; simp only [parV, wl_map]
theorem par_s {ρ : Sto} {i : Nat} {xs : List Opd} {K : List R → Sto → Prop} : wPar ρ (.slot i :: xs) K = wHard ρ (.slot i) fun d ρ1 => wPar ρ1 xs fun rs ρ2 => K (.frz d :: rs) ρ2 := by
  unfold wPar wHard; simp only [parV, wl_map, wl_bind]
/-! operands -/
theorem rd_v {ρ : Sto} {r : R} {K : R → Prop} : wl (rd ρ (.val r)) K = K r := nr rfl
def wRdS (t : Option Sl) (K : R → Prop) : Prop := match t with
  | some (.mut _ _ ds) => K (.lst ds)
  | _ => False
theorem rd_s {ρ : Sto} {i : Nat} {K : R → Prop} : wl (rd ρ (.slot i)) K = wRdS (getS ρ i) K := by
  unfold rd wRdS
  simp only []
  cases getS ρ i with
  | none => rfl
  | some t => cases t <;> rfl
theorem rdS_m {m : Md} {k : Bool} {ds : List D} {K : R → Prop} : wRdS (some (.mut m k ds)) K = K (.lst ds) := nr rfl
theorem ri_v {ρ : Sto} {i : Int} {K : Int → Prop} : wInt (rd ρ (.val (.frz (.int i)))) K = K i := nr rfl
theorem hd_f {ρ : Sto} {d : D} {K : D → Sto → Prop} : wHard ρ (.val (.frz d)) K = K d ρ := nr rfl
theorem hd_l {ρ : Sto} {l : List D} {K : D → Sto → Prop} : wHard ρ (.val (.lst l)) K = K (.list l) ρ := nr rfl
def wHS (t : Option Sl) (i : Nat) (ρ : Sto) (K : D → Sto → Prop) : Prop := match t with
  | some (.mut .clean k ds) => K (.list ds) (ρ.set i (some (.mut .lent k ds)))
  | some (.mut .lent _ ds) => K (.list ds) ρ
  | _ => False
theorem hd_s {ρ : Sto} {i : Nat} {K : D → Sto → Prop} : wHard ρ (.slot i) K = wHS (getS ρ i) i ρ K := by
  unfold wHard hard wHS
  simp only []
  cases getS ρ i with
  | none => rfl
  | some t => cases t with
    | «mut» m k l => cases m <;> rfl
    | _ => rfl
theorem hs_c {k : Bool} {l : List D} {i : Nat} {ρ : Sto} {K : D → Sto → Prop} : wHS (some (.mut .clean k l)) i ρ K = K (.list l) (ρ.set i (some (.mut .lent k l))) := nr rfl
theorem hs_l {k : Bool} {l : List D} {i : Nat} {ρ : Sto} {K : D → Sto → Prop} : wHS (some (.mut .lent k l)) i ρ K = K (.list l) ρ := nr rfl
theorem hds_n {ρ : Sto} {K : List D → Sto → Prop} : wHards ρ [] K = K [] ρ := nr rfl
theorem hds_c {ρ : Sto} {x : Opd} {xs : List Opd} {K : List D → Sto → Prop} : wHards ρ (x :: xs) K = wHard ρ x fun d ρ1 => wHards ρ1 xs fun ds ρ2 => K (d :: ds) ρ2 := by
  unfold wHards wHard; simp only [hards, wl_bind, wl_map]
theorem rds_n {ρ : Sto} {K : List R → Prop} : wl (rds ρ []) K = K [] := nr rfl
theorem rds_c {ρ : Sto} {x : Opd} {xs : List Opd} {K : List R → Prop} : wl (rds ρ (x :: xs)) K = wl (rd ρ x) fun y => wl (rds ρ xs) fun ys => K (y :: ys) := by simp only [rds, wl_bind, wl_map]
theorem ab_v {ρ : Sto} {b : Bool} {K : Bool → Prop} : wl (asBool ρ (.val (.frz (.bool b)))) K = K b := nr rfl
theorem sq_l {ds : List D} {K : List D → Prop} : wl (seqD (.list ds)) K = K ds := nr rfl
theorem sq_t {ds : List D} {K : List D → Prop} : wl (seqD (.tuple ds)) K = K ds := nr rfl
theorem pd_n {α : Type} {xs : List α} {K : List α → Prop} : wl (permD xs []) K = K [] := nr rfl
theorem pd_c {α : Type} {xs : List α} {i : Nat} {is : List Nat} {K : List α → Prop} : wl (permD xs (i :: is)) K = wl xs[i]? fun x => wl (permD xs is) fun ys => K (x :: ys) := by
  rw [permD]
  rw [show (xs[i]?.bind fun x => (permD xs is).map (x :: ·)) = Option.bind xs[i]? (fun x => (permD xs is).map (x :: ·)) from rfl, wl_bind]
  simp only [wl_map]
theorem ix_z {α : Type} {a : α} {l : List α} {K : α → Prop} : wl (a :: l)[0]? K = K a := nr rfl
theorem ix_s {α : Type} {a : α} {l : List α} {n : Nat} {K : α → Prop} : wl (a :: l)[n + 1]? K = wl l[n]? K := by rw [List.getElem?_cons_succ]
/-! tests -/
theorem if_t {A B : Prop} : wIf true A B = A := by simp [wIf]
theorem if_f {A B : Prop} : wIf false A B = B := by simp [wIf]
theorem if_n {k : Bool} {A B : Prop} : wIf (!k) A B = wIf k B A := by cases k <;> simp [wIf]
theorem if_d {p : Prop} [Decidable p] {A B : Prop} : wIf (decide p) A B = ((p → A) ∧ (¬ p → B)) := by simp [wIf]
theorem if_k {k : Bool} {A B : Prop} : wIf k A B = ((k = true → A) ∧ (k = false → B)) := nr rfl
theorem if_dd {p : Prop} [Decidable p] {A B : Prop} : wIf (decide p) A B = if p then A else B := by by_cases h : p <;> simp [wIf, h]
theorem no_n {K : Bool → Prop} : wNone (.frz .none) K = K true := nr rfl
theorem no_i {i : Int} {K : Bool → Prop} : wNone (.frz (.int i)) K = K false := nr rfl
theorem no_b {i : Bool} {K : Bool → Prop} : wNone (.frz (.bool i)) K = K false := nr rfl
theorem no_s {i : Str} {K : Bool → Prop} : wNone (.frz (.str i)) K = K false := nr rfl
theorem no_t {i : List D} {K : Bool → Prop} : wNone (.frz (.tuple i)) K = K false := nr rfl
theorem no_l {i : List D} {K : Bool → Prop} : wNone (.frz (.list i)) K = K false := nr rfl
theorem no_r {i : List D} {K : Bool → Prop} : wNone (.lst i) K = K false := nr rfl
/-! operators -/
/-- a factor is small -/
def sml (i j : Int) : Prop := (-(2 ^ 64) < i ∧ i < 2 ^ 64) ∨ (-(2 ^ 64) < j ∧ j < 2 ^ 64)
theorem bi_add {i j : Int} {K : Int → Prop} : wl (bopI .add i j) K = K (i + j) := nr rfl
theorem bi_sub {i j : Int} {K : Int → Prop} : wl (bopI .sub i j) K = K (i - j) := nr rfl
theorem bi_mul {i j : Int} {K : Int → Prop} : wl (bopI .mul i j) K = (sml i j ∧ K (i * j)) := wl_ite_s
/-- a divisor is right, a base is small -/
def dvOk (j : Int) : Prop := 0 < j ∧ j.natAbs < 2 ^ 1000
def pwOk (i j : Int) : Prop := 0 ≤ j ∧ j ≤ 1000000 ∧ i.natAbs < 2 ^ 64
theorem dv_of {j : Int} (h : 0 < j) (h' : j < 18446744073709551616) : dvOk j := ⟨h, Nat.lt_of_lt_of_le (m := 2 ^ 64) (show j.natAbs < 18446744073709551616 by omega) (Nat.pow_le_pow_right (by omega) (by omega))⟩
theorem dv_t {j : Int} (h : 0 < j) (h' : j < 18446744073709551616) : dvOk j = True := eq_true (dv_of h h')
theorem pw_t {i j : Int} (h : 0 ≤ j) (h' : j ≤ 1000000) (h2 : -18446744073709551616 < i) (h3 : i < 18446744073709551616) : pwOk i j = True := eq_true ⟨h, h', show i.natAbs < 18446744073709551616 by omega⟩
theorem sml_l {i j : Int} (h2 : -18446744073709551616 < i) (h3 : i < 18446744073709551616) : sml i j = True := eq_true (.inl ⟨h2, h3⟩)
theorem sml_r {i j : Int} (h2 : -18446744073709551616 < j) (h3 : j < 18446744073709551616) : sml i j = True := eq_true (.inr ⟨h2, h3⟩)
theorem bi_div {i j : Int} {K : Int → Prop} : wl (bopI .fdiv i j) K = (dvOk j ∧ K (i / j)) := wl_ite_s
theorem bi_mod {i j : Int} {K : Int → Prop} : wl (bopI .mod i j) K = (0 < j ∧ K (i % j)) := wl_ite_s
theorem bi_pow {i j : Int} {K : Int → Prop} : wl (bopI .pow i j) K = (pwOk i j ∧ K (i ^ j.toNat)) := wl_ite_s
theorem b_ii {o : Bop} {i j : Int} {K : R → Prop} : wl (bopR o (.frz (.int i)) (.frz (.int j))) K = wl (bopI o i j) fun k => K (.frz (.int k)) := wl_map _ _ _
theorem b_ss {a b : Str} {K : R → Prop} : wl (bopR .add (.frz (.str a)) (.frz (.str b))) K = (a.length + b.length ≤ sizeLine ∧ K (.frz (.str (a ++ b)))) := wl_ite_s
theorem b_ll {xs ys : List D} {K : R → Prop} : wl (bopR .add (.lst xs) (.lst ys)) K = (xs.length + ys.length ≤ sizeLine ∧ K (.lst (xs ++ ys))) := by
  show wl (if false = false ∧ xs.length + ys.length ≤ sizeLine then some (if false = true then _ else R.lst (xs ++ ys)) else none) K = _
  rw [wl_ite_s]; simp
theorem b_lf {xs ys : List D} {K : R → Prop} : wl (bopR .add (.lst xs) (.frz (.list ys))) K = (xs.length + ys.length ≤ sizeLine ∧ K (.lst (xs ++ ys))) := by
  show wl (if false = false ∧ xs.length + ys.length ≤ sizeLine then some (if false = true then _ else R.lst (xs ++ ys)) else none) K = _
  rw [wl_ite_s]; simp
theorem b_fl {xs ys : List D} {K : R → Prop} : wl (bopR .add (.frz (.list xs)) (.lst ys)) K = (xs.length + ys.length ≤ sizeLine ∧ K (.lst (xs ++ ys))) := by
  show wl (if false = false ∧ xs.length + ys.length ≤ sizeLine then some (if false = true then _ else R.lst (xs ++ ys)) else none) K = _
  rw [wl_ite_s]; simp
theorem b_ff {xs ys : List D} {K : R → Prop} : wl (bopR .add (.frz (.list xs)) (.frz (.list ys))) K = (xs.length + ys.length ≤ sizeLine ∧ K (.lst (xs ++ ys))) := by
  show wl (if false = false ∧ xs.length + ys.length ≤ sizeLine then some (if false = true then _ else R.lst (xs ++ ys)) else none) K = _
  rw [wl_ite_s]; simp
theorem b_tt {xs ys : List D} {K : R → Prop} : wl (bopR .add (.frz (.tuple xs)) (.frz (.tuple ys))) K = (xs.length + ys.length ≤ sizeLine ∧ K (.frz (.tuple (xs ++ ys)))) := by
  show wl (if true = true ∧ xs.length + ys.length ≤ sizeLine then some (if true = true then _ else R.lst (xs ++ ys)) else none) K = _
  rw [wl_ite_s]; simp
theorem b_lm {xs : List D} {j : Int} {K : R → Prop} : wl (bopR .mul (.lst xs) (.frz (.int j))) K = ((-(2 ^ 63) ≤ j ∧ j < 2 ^ 63 ∧ xs.length * j.toNat ≤ sizeLine) ∧ K (.lst (List.replicate j.toNat xs).flatten)) := wl_ite_s
theorem b_tm {xs : List D} {j : Int} {K : R → Prop} : wl (bopR .mul (.frz (.tuple xs)) (.frz (.int j))) K = ((xs ≠ [] ∧ 1 ≤ j ∧ j ≤ 1000 ∧ xs.length ≤ 1000) ∧ K (.frz (.tuple (List.replicate j.toNat xs).flatten))) := wl_ite_s
theorem c_eqi {i j : Int} {K : Bool → Prop} : wl (copR .eq (.frz (.int i)) (.frz (.int j))) K = K (decide (i = j)) := by
  show wl (if true = true then some (i == j) else none) K = _
  rw [if_pos rfl]
  rfl
theorem c_nei {i j : Int} {K : Bool → Prop} : wl (copR .ne (.frz (.int i)) (.frz (.int j))) K = K (!decide (i = j)) := by
  show wl (if true = true then some (!(i == j)) else none) K = _
  rw [if_pos rfl]
  rfl
theorem c_lt {i j : Int} {K : Bool → Prop} : wl (copR .lt (.frz (.int i)) (.frz (.int j))) K = K (decide (i < j)) := nr rfl
theorem c_le {i j : Int} {K : Bool → Prop} : wl (copR .le (.frz (.int i)) (.frz (.int j))) K = K (decide (i ≤ j)) := nr rfl
theorem c_gt {i j : Int} {K : Bool → Prop} : wl (copR .gt (.frz (.int i)) (.frz (.int j))) K = K (decide (j < i)) := nr rfl
theorem c_ge {i j : Int} {K : Bool → Prop} : wl (copR .ge (.frz (.int i)) (.frz (.int j))) K = K (decide (j ≤ i)) := nr rfl
theorem c_eq {x y : R} {K : Bool → Prop} : wl (copR .eq x y) K = ((SeqAt.shaped (toD x) = true ∧ SeqAt.shaped (toD y) = true) ∧ K (PyData.eqv (toD x) (toD y))) := by
  show wl (if _ then _ else _) K = _
  rw [wl_ite_s, Bool.and_eq_true]
theorem c_ne {x y : R} {K : Bool → Prop} : wl (copR .ne x y) K = ((SeqAt.shaped (toD x) = true ∧ SeqAt.shaped (toD y) = true) ∧ K (!PyData.eqv (toD x) (toD y))) := by
  show wl (if _ then _ else _) K = _
  rw [wl_ite_s, Bool.and_eq_true]
theorem toD_f {d : D} : toD (.frz d) = d := nr rfl
theorem toD_l {l : List D} : toD (.lst l) = .list l := nr rfl
/-! places -/
theorem id_t {ds : List D} {i : Int} {K : D → Prop} : wl (idxR (.frz (.tuple ds)) (.frz (.int i))) K = wl (atI ds i) K := nr rfl
theorem id_l {ds : List D} {i : Int} {K : D → Prop} : wl (idxR (.frz (.list ds)) (.frz (.int i))) K = wl (atI ds i) K := nr rfl
theorem id_o {ds : List D} {i : Int} {K : D → Prop} : wl (idxR (.lst ds) (.frz (.int i))) K = wl (atI ds i) K := nr rfl
theorem at_0 {α : Type} {a : α} {l : List α} : atI (a :: l) 0 = some a := by
  unfold atI ixN
  simp only [List.length_cons]
  rw [if_pos (by omega), if_pos (by omega)]; rfl
theorem at_n {α : Type} {l : List α} {k : Nat} : atI l (k : Int) = l[k]? := by
  unfold atI ixN
  rw [if_pos (by omega)]
  by_cases h : (k : Int) < l.length
  · rw [if_pos h]
    show l[(k : Int).toNat]? = _
    rw [Int.toNat_natCast]
  · rw [if_neg h, List.getElem?_eq_none (by omega)]; rfl
theorem at_k {α : Type} {a : α} {l : List α} {k : Nat} : atI (a :: l) ((k : Int) + 1) = atI l k := by
  rw [show (k : Int) + 1 = ((k + 1 : Nat) : Int) from rfl, at_n, at_n, List.getElem?_cons_succ]
theorem at_neg {α : Type} {l : List α} {k : Nat} (h : k < l.length) : atI l (-((k : Int) + 1)) = l[l.length - 1 - k]? := by
  unfold atI ixN
  rw [if_neg (by omega), if_pos (by omega)]
  show l[(-((k : Int) + 1) + l.length).toNat]? = _
  rw [show (-((k : Int) + 1) + l.length).toNat = l.length - 1 - k by omega]
theorem at_m {α β : Type} {f : α → β} {l : List α} {i : Int} : atI (l.map f) i = (atI l i).map f := by
  unfold atI
  rw [List.length_map]
  cases ixN l.length i with
  | none => rfl
  | some j => exact List.getElem?_map
/-- the item at a place -/
def ix {α : Type} [Inhabited α] (l : List α) (i : Int) : α := (atI l i).getD default
theorem at_ix {α : Type} [Inhabited α] {l : List α} {i : Int} (h : 0 ≤ i) (h' : i < l.length) : atI l i = some (ix l i) := by
  obtain ⟨k, rfl⟩ := Int.eq_ofNat_of_zero_le h
  unfold ix
  have e : l[k]? = some l[k] := List.getElem?_eq_getElem (by omega)
  rw [at_n, e]; rfl
theorem ix_get {α : Type} [Inhabited α] {l : List α} {k : Nat} (h : k < l.length) : ix l (k : Int) = l[k] := by
  unfold ix
  rw [at_n, List.getElem?_eq_getElem h]; rfl
theorem ix_mem {α : Type} [Inhabited α] {l : List α} {i : Int} (h : 0 ≤ i) (h' : i < l.length) : ix l i ∈ l := by
  obtain ⟨k, rfl⟩ := Int.eq_ofNat_of_zero_le h
  rw [ix_get (by omega)]
  exact List.getElem_mem _
theorem at_last {α : Type} {l : List α} (h : l ≠ []) : atI l (-1) = some (l.getLast h) := by
  have := List.length_pos_iff.mpr h
  rw [show (-1 : Int) = -(((0 : Nat) : Int) + 1) from rfl, at_neg this, Nat.sub_zero, ← List.getLast?_eq_getElem?, List.getLast?_eq_some_getLast h]
theorem wl_at {α : Type} [Inhabited α] {l : List α} {i : Int} {K : α → Prop} (h : 0 ≤ i) (h' : i < l.length) : wl (atI l i) K = K (ix l i) := by rw [at_ix h h']; rfl
theorem wl_atm {α β : Type} {f : α → β} {l : List α} {i : Int} {K : β → Prop} : wl (atI (l.map f) i) K = wl (atI l i) fun a => K (f a) := by rw [at_m, wl_map]
theorem wl_at0 {α : Type} {a : α} {l : List α} {K : α → Prop} : wl (atI (a :: l) 0) K = K a := by rw [at_0]; rfl
theorem wl_at1 {α : Type} {a b : α} {l : List α} {K : α → Prop} : wl (atI (a :: b :: l) 1) K = K b := by
  rw [show (1 : Int) = ((0 : Nat) : Int) + 1 from rfl, at_k]; exact wl_at0
theorem wl_at2 {α : Type} {a b c : α} {l : List α} {K : α → Prop} : wl (atI (a :: b :: c :: l) 2) K = K c := by
  rw [show (2 : Int) = ((1 : Nat) : Int) + 1 from rfl, at_k]; exact wl_at1
theorem wl_at3 {α : Type} {a b c d : α} {l : List α} {K : α → Prop} : wl (atI (a :: b :: c :: d :: l) 3) K = K d := by
  rw [show (3 : Int) = ((2 : Nat) : Int) + 1 from rfl, at_k]; exact wl_at2
/-! parts of lists -/
theorem sl_t {ds : List D} {l h : R} {K : R → Prop} : wl (slcR (.frz (.tuple ds)) l h) K = wl (optI l) fun l => wl (optI h) fun h => K (.frz (.tuple (cutD ds l h))) := by unfold slcR; simp only [wl_bind]; rfl
theorem sl_l {ds : List D} {l h : R} {K : R → Prop} : wl (slcR (.frz (.list ds)) l h) K = wl (optI l) fun l => wl (optI h) fun h => K (.lst (cutD ds l h)) := by unfold slcR; simp only [wl_bind]; rfl
theorem sl_o {ds : List D} {l h : R} {K : R → Prop} : wl (slcR (.lst ds) l h) K = wl (optI l) fun l => wl (optI h) fun h => K (.lst (cutD ds l h)) := by unfold slcR; simp only [wl_bind]; rfl
theorem oi_n {K : Option Int → Prop} : wl (optI (.frz .none)) K = K none := nr rfl
theorem oi_i {i : Int} {K : Option Int → Prop} : wl (optI (.frz (.int i))) K = K (some i) := nr rfl
/-- a part of a list, as a slice takes it -/
def sl {α : Type} (xs : List α) (lo hi : Option Int) : List α := (xs.drop (HT.sIx xs.length 0 lo)).take (HT.sIx xs.length xs.length hi - HT.sIx xs.length 0 lo)
theorem cut_m {α : Type} {f : α → D} {xs : List α} {lo hi : Option Int} : cutD (xs.map f) lo hi = (sl xs lo hi).map f := by
  unfold cutD sl; rw [List.length_map, ← List.map_drop, ← List.map_take]
theorem cut_id {xs : List D} {lo hi : Option Int} : cutD xs lo hi = sl xs lo hi := nr rfl
theorem sl_hi {α : Type} {xs : List α} {k : Int} (h : 0 ≤ k) : sl xs none (some k) = xs.take k.toNat := by
  obtain ⟨n, rfl⟩ := Int.eq_ofNat_of_zero_le h
  unfold sl
  rw [HT.sIx_none, HT.sIx_nat, List.drop_zero, Nat.sub_zero, Int.toNat_natCast]
  by_cases z : n ≤ xs.length
  · rw [Nat.min_eq_left z]
  · rw [Nat.min_eq_right (by omega), List.take_of_length_le (Nat.le_refl _), List.take_of_length_le (by omega)]
theorem sl_lo {α : Type} {xs : List α} {k : Int} (h : 0 ≤ k) : sl xs (some k) none = xs.drop k.toNat := by
  obtain ⟨n, rfl⟩ := Int.eq_ofNat_of_zero_le h
  unfold sl
  rw [HT.sIx_none, HT.sIx_nat, Int.toNat_natCast]
  by_cases z : n ≤ xs.length
  · rw [Nat.min_eq_left z, List.take_of_length_le (by rw [List.length_drop]; omega)]
  · rw [Nat.min_eq_right (by omega), Nat.sub_self, List.take_zero, List.drop_eq_nil_of_le (by omega)]
theorem sl_init {α : Type} {xs : List α} : sl xs none (some (-1)) = xs.dropLast := by
  unfold sl
  rw [HT.sIx_none, List.drop_zero, Nat.sub_zero, List.dropLast_eq_take]
  congr 1
  show (if (-1 : Int) < 0 then ((-1 : Int) + (xs.length : Int)).toNat else min (-1 : Int).toNat xs.length) = _
  rw [if_pos (by omega)]; omega
theorem sl_lohi {α : Type} {xs : List α} {i k : Int} (h : 0 ≤ i) (h' : 0 ≤ k) : sl xs (some i) (some k) = (xs.drop i.toNat).take (k.toNat - i.toNat) := by
  obtain ⟨n, rfl⟩ := Int.eq_ofNat_of_zero_le h
  obtain ⟨m, rfl⟩ := Int.eq_ofNat_of_zero_le h'
  unfold sl
  rw [HT.sIx_nat, HT.sIx_nat, Int.toNat_natCast, Int.toNat_natCast]
  by_cases z : n ≤ xs.length
  · rw [Nat.min_eq_left z]
    by_cases y : m ≤ xs.length
    · rw [Nat.min_eq_left y]
    · rw [Nat.min_eq_right (by omega), List.take_of_length_le (by rw [List.length_drop]; omega), List.take_of_length_le (by rw [List.length_drop]; omega)]
  · rw [Nat.min_eq_right (a := n) (by omega), List.drop_eq_nil_of_le (Nat.le_refl _), List.drop_eq_nil_of_le (by omega), List.take_nil, List.take_nil]
/-! builtins -/
theorem bl_len {x : R} {K : R → Prop} : wl (biR .len [x]) K = wl (lenR x) K := nr rfl
theorem len_l {ds : List D} {K : R → Prop} : wl (lenR (.lst ds)) K = K (.frz (.int ds.length)) := nr rfl
theorem len_f {ds : List D} {K : R → Prop} : wl (lenR (.frz (.list ds))) K = K (.frz (.int ds.length)) := nr rfl
theorem len_t {ds : List D} {K : R → Prop} : wl (lenR (.frz (.tuple ds))) K = K (.frz (.int ds.length)) := nr rfl
theorem len_s {z : Str} {K : R → Prop} : wl (lenR (.frz (.str z))) K = (z.length ≤ sizeLine ∧ K (.frz (.int z.length))) := wl_ite_s
theorem bl_maxs {x : R} {K : R → Prop} : wl (biR .maxs [x]) K = wl (foldR max x) K := nr rfl
theorem bl_mins {x : R} {K : R → Prop} : wl (biR .mins [x]) K = wl (foldR min x) K := nr rfl
theorem bl_max2 {i j : Int} {K : R → Prop} : wl (biR .max2 [.frz (.int i), .frz (.int j)]) K = K (.frz (.int (max i j))) := by
  show K (.frz (.int (if j > i then j else i))) = _
  congr 3; omega
theorem bl_min2 {i j : Int} {K : R → Prop} : wl (biR .min2 [.frz (.int i), .frz (.int j)]) K = K (.frz (.int (min i j))) := by
  show K (.frz (.int (if j < i then j else i))) = _
  congr 3; omega
theorem bl_abs {i : Int} {K : R → Prop} : wl (biR .abs [.frz (.int i)]) K = K (.frz (.int (i.natAbs : Int))) := by
  show K (.frz (.int (if i < 0 then -i else i))) = _
  congr 3; omega
theorem ints_map (xs : List Int) : ints? (xs.map .int) = some xs := by
  induction xs with
  | nil => rfl
  | cons x xs ih => rw [List.map_cons, ints?, ih]; rfl
theorem bools_map (xs : List Bool) : bools? (xs.map .bool) = some xs := by
  induction xs with
  | nil => rfl
  | cons x xs ih => rw [List.map_cons, bools?, ih]; rfl
theorem bl_sum {xs : List Int} {K : R → Prop} : wl (biR .sum [.lst (xs.map .int)]) K = K (.frz (.int xs.sum)) := by
  show wl ((ints? (xs.map .int)).map _) K = _
  rw [ints_map]; rfl
theorem bl_sumf {xs : List Int} {K : R → Prop} : wl (biR .sum [.frz (.list (xs.map .int))]) K = K (.frz (.int xs.sum)) := by
  show wl ((ints? (xs.map .int)).map _) K = _
  rw [ints_map]; rfl
theorem bl_all {xs : List Bool} {K : R → Prop} : wl (biR .all [.lst (xs.map .bool)]) K = K (.frz (.bool (xs.all id))) := by
  show wl ((bools? (xs.map .bool)).map _) K = _
  rw [bools_map]; rfl
theorem bl_any {xs : List Bool} {K : R → Prop} : wl (biR .any [.lst (xs.map .bool)]) K = K (.frz (.bool (xs.any id))) := by
  show wl ((bools? (xs.map .bool)).map _) K = _
  rw [bools_map]; rfl
theorem bl_listl {ds : List D} {K : R → Prop} : wl (biR .list [.lst ds]) K = K (.lst ds) := nr rfl
theorem bl_listf {ds : List D} {K : R → Prop} : wl (biR .list [.frz (.list ds)]) K = K (.lst ds) := nr rfl
theorem bl_listt {ds : List D} {K : R → Prop} : wl (biR .list [.frz (.tuple ds)]) K = K (.lst ds) := nr rfl
theorem bl_tupl {ds : List D} {K : R → Prop} : wl (biR .tuple [.lst ds]) K = K (.frz (.tuple ds)) := nr rfl
theorem bl_tupf {ds : List D} {K : R → Prop} : wl (biR .tuple [.frz (.list ds)]) K = K (.frz (.tuple ds)) := nr rfl
theorem bl_tupt {ds : List D} {K : R → Prop} : wl (biR .tuple [.frz (.tuple ds)]) K = K (.frz (.tuple ds)) := nr rfl
theorem bl_intb {b : Bool} {K : R → Prop} : wl (biR .int [.frz (.bool b)]) K = K (.frz (.int (if b then 1 else 0))) := nr rfl
theorem bl_inti {i : Int} {K : R → Prop} : wl (biR .int [.frz (.int i)]) K = K (.frz (.int i)) := nr rfl
theorem bl_str {i : Int} {K : R → Prop} : wl (biR .str [.frz (.int i)]) K = (i.natAbs.log2 < 1920 ∧ K (.frz (.str (toString i)))) := wl_ite_s
theorem bl_isi {ts : List Ty} {x : R} {K : R → Prop} : wl (biR (.isi ts) [x]) K = K (.frz (.bool (ts.any (isTy (toD x))))) := nr rfl
theorem bl_sorted {x : R} {K : R → Prop} : wl (biR .sorted [x]) K = wl (sortedR x) K := nr rfl
theorem bl_repr {x : R} {K : R → Prop} : wl (biR .repr [x]) K = wl (reprR x) K := nr rfl
/-- the greatest, the least of a list -/
def maxL : List Int → Int
  | [] => 0
  | n :: ns => ns.foldl max n
def minL : List Int → Int
  | [] => 0
  | n :: ns => ns.foldl min n
theorem fold_max {t : Bool} {xs : List Int} {x : R} (h : kids x = some (t, xs.map .int)) {K : R → Prop} : wl (foldR max x) K = (xs ≠ [] ∧ K (.frz (.int (maxL xs)))) := by
  unfold foldR
  rw [h, wl_bind, wl_some, wl_bind, ints_map, wl_some]
  cases xs with
  | nil => exact propext ⟨fun z => z.elim, fun z => absurd rfl z.1⟩
  | cons n ns => exact propext ⟨fun z => ⟨by simp, z⟩, fun z => z.2⟩
theorem fold_min {t : Bool} {xs : List Int} {x : R} (h : kids x = some (t, xs.map .int)) {K : R → Prop} : wl (foldR min x) K = (xs ≠ [] ∧ K (.frz (.int (minL xs)))) := by
  unfold foldR
  rw [h, wl_bind, wl_some, wl_bind, ints_map, wl_some]
  cases xs with
  | nil => exact propext ⟨fun z => z.elim, fun z => absurd rfl z.1⟩
  | cons n ns => exact propext ⟨fun z => ⟨by simp, z⟩, fun z => z.2⟩
theorem max_t {xs : List Int} {K : R → Prop} : wl (foldR max (.frz (.tuple (xs.map .int)))) K = (xs ≠ [] ∧ K (.frz (.int (maxL xs)))) := fold_max rfl
theorem max_l {xs : List Int} {K : R → Prop} : wl (foldR max (.frz (.list (xs.map .int)))) K = (xs ≠ [] ∧ K (.frz (.int (maxL xs)))) := fold_max rfl
theorem max_o {xs : List Int} {K : R → Prop} : wl (foldR max (.lst (xs.map .int))) K = (xs ≠ [] ∧ K (.frz (.int (maxL xs)))) := fold_max rfl
theorem min_t {xs : List Int} {K : R → Prop} : wl (foldR min (.frz (.tuple (xs.map .int)))) K = (xs ≠ [] ∧ K (.frz (.int (minL xs)))) := fold_min rfl
theorem min_l {xs : List Int} {K : R → Prop} : wl (foldR min (.frz (.list (xs.map .int)))) K = (xs ≠ [] ∧ K (.frz (.int (minL xs)))) := fold_min rfl
theorem min_o {xs : List Int} {K : R → Prop} : wl (foldR min (.lst (xs.map .int))) K = (xs ≠ [] ∧ K (.frz (.int (minL xs)))) := fold_min rfl
/-! ends of defs -/
section
variable {Q : R → Sto → Prop} {ρ : Sto} {a b c d e f g : Option Sl} {r : R}
theorem kd_n {n : Nat} : kD n Q .next ρ = Q (.frz .none) ((ρ.take n).map keepOut) := nr rfl
theorem kd_r {n : Nat} : kD n Q (.ret r) ρ = Q r ((ρ.take n).map keepOut) := nr rfl
theorem kd_r1 : kD 1 Q (.ret r) (a :: ρ) = Q r [keepOut a] := nr rfl
theorem kd_r2 : kD 2 Q (.ret r) (a :: b :: ρ) = Q r [keepOut a, keepOut b] := nr rfl
theorem kd_r3 : kD 3 Q (.ret r) (a :: b :: c :: ρ) = Q r [keepOut a, keepOut b, keepOut c] := nr rfl
theorem kd_r4 : kD 4 Q (.ret r) (a :: b :: c :: d :: ρ) = Q r [keepOut a, keepOut b, keepOut c, keepOut d] := nr rfl
theorem kd_r5 : kD 5 Q (.ret r) (a :: b :: c :: d :: e :: ρ) = Q r [keepOut a, keepOut b, keepOut c, keepOut d, keepOut e] := nr rfl
theorem kd_r6 : kD 6 Q (.ret r) (a :: b :: c :: d :: e :: f :: ρ) = Q r [keepOut a, keepOut b, keepOut c, keepOut d, keepOut e, keepOut f] := nr rfl
theorem kd_r7 : kD 7 Q (.ret r) (a :: b :: c :: d :: e :: f :: g :: ρ) = Q r [keepOut a, keepOut b, keepOut c, keepOut d, keepOut e, keepOut f, keepOut g] := nr rfl
theorem ko_n : keepOut none = none := nr rfl
theorem ko_f {d : D} : keepOut (some (.frz d)) = none := nr rfl
theorem ko_k {m : Md} {l : List D} : keepOut (some (.mut m true l)) = some (.mut m true l) := nr rfl
theorem ko_o {m : Md} {l : List D} : keepOut (some (.mut m false l)) = none := nr rfl
theorem ko_x {x : Option Sl} (h : fr x = true) : keepOut x = none := by
  unfold fr at h
  split at h <;> first | rfl | contradiction
end
/-! the turns' own slots -/
theorem wi_n (ρ : Sto) : wipeS ρ [] = ρ := nr rfl
theorem wi_c (ρ : Sto) (v : Nat) (vs : List Nat) : wipeS ρ (v :: vs) = (wipeS ρ vs).set v none := nr rfl
theorem sto_ext {ρ σ : Sto} (hl : ρ.length = σ.length) (h : ∀ j, getS ρ j = getS σ j) : ρ = σ := by
  refine List.ext_getElem? fun j => ?_
  have e := h j
  unfold getS at e
  by_cases l : j < ρ.length
  · rw [List.getElem?_eq_getElem l, List.getElem?_eq_getElem (show j < σ.length by omega)] at e ⊢
    exact congrArg some e
  · rw [List.getElem?_eq_none (by omega), List.getElem?_eq_none (by omega)]
theorem back_wipe (ρ : Sto) (vs : List Nat) : backS ρ (wipeS ρ vs) vs = ρ := by
  refine sto_ext (by rw [backS_len, wipeS_len]) fun j => ?_
  rw [getS_back (by rw [wipeS_len]), getS_wipe]
  by_cases h : j ∈ vs <;> simp [h]
end Rx
set_option Elab.async false
set_option linter.all false
/-! Rx30: calls, loops -/
namespace Rx
open PySem PySem.Spec L2
/-! ### calls -/
def wNs (n : Nat) (ρo : Sto) (A : Prop) : Prop := n ≤ ρo.length ∧ A
section
variable {a b c d e f g h : Option Sl} {A : Prop}
theorem ns_1 : wNs 1 [a] A = A := by simp [wNs]
theorem ns_2 : wNs 2 [a, b] A = A := by simp [wNs]
theorem ns_3 : wNs 3 [a, b, c] A = A := by simp [wNs]
theorem ns_4 : wNs 4 [a, b, c, d] A = A := by simp [wNs]
theorem ns_5 : wNs 5 [a, b, c, d, e] A = A := by simp [wNs]
theorem ns_6 : wNs 6 [a, b, c, d, e, f] A = A := by simp [wNs]
theorem ns_7 : wNs 7 [a, b, c, d, e, f, g] A = A := by simp [wNs]
theorem ns_8 : wNs 8 [a, b, c, d, e, f, g, h] A = A := by simp [wNs]
end
def wLt (t : Option Sl) (K : Bool → List D → Prop) : Prop := match t with
  | some (.mut .clean k l) => K k l
  | some (.mut .dirt k l) => K k l
  | _ => False
theorem lt_c {k : Bool} {l : List D} {K : Bool → List D → Prop} : wLt (some (.mut .clean k l)) K = K k l := rfl
theorem lt_d {k : Bool} {l : List D} {K : Bool → List D → Prop} : wLt (some (.mut .dirt k l)) K = K k l := rfl
def wBk (n : Nat) (ρo : Sto) (K : List D → Prop) : Prop := match ρo with
  | some (.mut _ _ l) :: o => n ≤ o.length + 1 ∧ K l
  | _ => False
section
variable {m : Md} {k : Bool} {l : List D} {b c d e f g h : Option Sl} {K : List D → Prop}
theorem bk_1 : wBk 1 [some (.mut m k l)] K = K l := by simp [wBk]
theorem bk_2 : wBk 2 [some (.mut m k l), b] K = K l := by simp [wBk]
theorem bk_3 : wBk 3 [some (.mut m k l), b, c] K = K l := by simp [wBk]
theorem bk_4 : wBk 4 [some (.mut m k l), b, c, d] K = K l := by simp [wBk]
theorem bk_5 : wBk 5 [some (.mut m k l), b, c, d, e] K = K l := by simp [wBk]
theorem bk_6 : wBk 6 [some (.mut m k l), b, c, d, e, f] K = K l := by simp [wBk]
theorem bk_7 : wBk 7 [some (.mut m k l), b, c, d, e, f, g] K = K l := by simp [wBk]
theorem bk_8 : wBk 8 [some (.mut m k l), b, c, d, e, f, g, h] K = K l := by simp [wBk]
end
def frzS (ds : List D) : Sto := ds.map fun d => some (.frz d)
theorem argH_f : ∀ (xs : List Opd) (ρ : Sto), argH ρ (List.replicate xs.length false) xs = (hards ρ xs).map fun p => (p.1.map some, p.2)
  | [], ρ => rfl
  | x :: xs, ρ => by
    rw [List.length_cons, List.replicate_succ, argH, hards]
    cases hard ρ x with
    | none => rfl
    | some p =>
      obtain ⟨d, ρ1⟩ := p
      simp only [Option.bind_some]
      rw [argH_f xs ρ1]
      cases hards ρ1 xs <;> rfl
theorem hards_len : ∀ {xs : List Opd} {ρ : Sto} {p : List D × Sto}, hards ρ xs = some p → p.1.length = xs.length
  | [], ρ, p, h => by cases h; rfl
  | x :: xs, ρ, p, h => by
    rw [hards] at h
    cases e : hard ρ x with
    | none => rw [e] at h; cases h
    | some q =>
      rw [e] at h
      obtain ⟨d, ρ1⟩ := q
      simp only [Option.bind_some] at h
      cases e' : hards ρ1 xs with
      | none => rw [e'] at h; cases h
      | some r =>
        rw [e'] at h
        cases h
        exact congrArg Nat.succ (hards_len e')
theorem lentOf_f : ∀ (ds : List D) (xs : List Opd), lentOf (ds.map some) xs = []
  | [], xs => by rw [List.map_nil]; cases xs <;> rfl
  | _ :: _, [] => by rw [List.map_cons, lentOf]; intros; contradiction; intros; contradiction
  | d :: ds, x :: xs => by rw [List.map_cons, lentOf, lentOf_f ds xs]; intro i z; cases z
theorem argM_f (ρ : Sto) : ∀ (ds : List D) (xs : List Opd), ds.length = xs.length → argM ρ (ds.map some) xs = some (frzS ds)
  | [], [], _ => rfl
  | d :: ds, x :: xs, h => by
    rw [List.map_cons, argM, argM_f ρ ds xs (Nat.succ.inj h)]; rfl
theorem argB_f (ρ : Sto) : ∀ (ds : List D) (xs : List Opd) (o : Sto), ds.length = xs.length → argB ρ (ds.map some) xs o = if ds.length ≤ o.length then some ρ else none
  | [], [], [], _ => rfl
  | [], [], _ :: _, _ => by rw [if_pos (by simp)]; rfl
  | d :: ds, x :: xs, [], h => by rw [if_neg (by simp)]; rfl
  | d :: ds, x :: xs, y :: o, h => by
    rw [List.map_cons, argB, argB_f ρ ds xs o (Nat.succ.inj h)]
    simp only [List.length_cons, Nat.add_le_add_iff_right]
theorem call_f {fi : Fi} {xs : List Opd} (hm : fi.modes = List.replicate xs.length false) (ρ : Sto) (Q : Opd → Sto → Prop) :
    wCall fi xs ρ Q = wHards ρ xs fun ds ρ1 => wp (fi.sf (frzS ds)) fun r ρo => wNs xs.length ρo (Q (.val r) ρ1) := by
  unfold wCall callF wHards
  rw [wp_lift, hm, argH_f]
  cases e : hards ρ xs with
  | none => rfl
  | some p =>
    have hl := hards_len e
    rw [Option.map_some, wl_some, wl_some]
    simp only [lentOf_f, distinct, if_true]
    rw [wp_lift, argM_f _ _ _ hl, wl_some, wp_bind]
    congr 1; funext r ρo
    rw [wp_lift, argB_f _ _ _ _ hl, wl_ite_s, hl]
    rfl
theorem argH_tf (x : Opd) (xs : List Opd) (ρ : Sto) : argH ρ (true :: List.replicate xs.length false) (x :: xs) = (hards ρ xs).map fun p => (none :: p.1.map some, p.2) := by
  rw [argH, argH_f]
  cases hards ρ xs <;> rfl
theorem call_t {fi : Fi} {xs : List Opd} {i : Nat} (hm : fi.modes = true :: List.replicate xs.length false) (ρ : Sto) (Q : Opd → Sto → Prop) :
    wCall fi (.slot i :: xs) ρ Q = wHards ρ xs fun ds ρ1 => wLt (getS ρ1 i) fun k l => wp (fi.sf (some (.mut .clean true l) :: frzS ds)) fun r ρo => wBk (xs.length + 1) ρo fun l' => Q (.val r) (ρ1.set i (some (.mut .dirt k l'))) := by
  unfold wCall callF wHards
  rw [wp_lift, hm, argH_tf]
  cases e : hards ρ xs with
  | none => rfl
  | some p =>
    have hl := hards_len e
    rw [Option.map_some, wl_some, wl_some]
    simp only [lentOf, lentOf_f, distinct, List.contains_nil, Bool.not_false, Bool.and_true, if_true]
    rw [wp_lift]
    have hM : argM p.2 (none :: p.1.map some) (.slot i :: xs) = match getS p.2 i with
        | some (.mut .clean _ l) => some (some (.mut .clean true l) :: frzS p.1)
        | some (.mut .dirt _ l) => some (some (.mut .clean true l) :: frzS p.1)
        | _ => none := by
      rw [argM, argM_f _ _ _ hl]
      cases getS p.2 i with
      | none => rfl
      | some t => cases t with
        | «mut» m k l => cases m <;> rfl
        | _ => rfl
    rw [hM]
    have fin : ∀ {m : Md} {k : Bool} {l : List D}, getS p.2 i = some (.mut m k l) →
        wp ((fi.sf (some (.mut .clean true l) :: frzS p.1)).bind fun r ρo => lift (argB p.2 (none :: p.1.map some) (.slot i :: xs) ρo) fun ρ2 => .ret (.val r) ρ2) Q =
        wp (fi.sf (some (.mut .clean true l) :: frzS p.1)) fun r ρo => wBk (xs.length + 1) ρo fun l' => Q (.val r) (p.2.set i (some (.mut .dirt k l'))) := by
      intro m k l hg
      rw [wp_bind]
      congr 1; funext r ρo
      rw [wp_lift]
      match ρo with
      | [] => rfl
      | none :: o => rfl
      | some (.frz _) :: o => rfl
      | some (.tmp _) :: o => rfl
      | some (.mut m' k' l') :: o =>
        rw [argB, hg]
        show wl (argB (p.2.set i (some (.mut .dirt k l'))) (p.1.map some) xs o) _ = _
        rw [argB_f _ _ _ _ hl, wl_ite_s]
        unfold wBk
        rw [← hl]
        exact propext ⟨fun z => ⟨Nat.succ_le_succ z.1, z.2⟩, fun z => ⟨Nat.le_of_succ_le_succ z.1, z.2⟩⟩
    cases hg : getS p.2 i with
    | none => rfl
    | some t => cases t with
      | «mut» m k l => cases m with
        | clean => exact fin hg
        | dirt => exact fin hg
        | lent => rfl
      | _ => rfl
/-! ### turns -/
section
variable {α : Type} {xs : List α} {F G : α → D} {elt : E} {tg : Tg} {ifs : List E} {own : List Nat} {ds : List D} {ρ : Sto} {Q : Opd → Sto → Prop}
/-- a turn of a comprehension -/
def wTurn (elt : E) (tg : Tg) (ifs : List E) (own : List Nat) (d : D) (ρ : Sto) (A : D → Sto → Prop) (B : Sto → Prop) : Prop :=
  wTg .tmp tg d ρ fun ρ1 => wTs ifs ρ1 fun b ρ2 => wIf b (wE elt ρ2 fun y ρ3 => wHard ρ3 y fun d ρ4 => A d (wipeS ρ4 own)) (B (wipeS ρ2 own))
theorem comp_core (Inv : List α → List D → Sto → Prop) (step : ∀ pre x post acc ρ, xs = pre ++ x :: post → Inv pre acc ρ → wTurn elt tg ifs own (F x) ρ (fun d ρ' => Inv (pre ++ [x]) (acc ++ [d]) ρ') (fun ρ' => Inv (pre ++ [x]) acc ρ')) :
    ∀ (post pre : List α) (acc : List D) (ρ : Sto), xs = pre ++ post → acc.length + post.length ≤ sizeLine → Inv pre acc ρ → wp (compLoop (evE elt) (evTs ifs) tg own (post.map F) acc ρ) fun acc ρ => Inv xs acc ρ
  | [], pre, acc, ρ, e, _, h => by
    rw [List.append_nil] at e
    subst e
    rw [List.map_nil, compLoop, wp_ret]
    exact h
  | x :: post, pre, acc, ρ, e, hl, h => by
    have st := step pre x post acc ρ e h
    unfold wTurn wTg wTs wE wHard at st
    rw [List.length_cons] at hl
    have e' : xs = (pre ++ [x]) ++ post := by rw [e]; simp
    rw [List.map_cons, compLoop, wp_lift]
    cases h1 : setTg .tmp tg (F x) ρ with
    | none => rw [h1] at st; exact st
    | some ρ1 =>
      rw [h1, wl_some] at st
      rw [wl_some, wp_bind]
      refine wp_mono st fun b ρ2 st2 => ?_
      cases b with
      | true =>
        rw [if_t] at st2
        rw [if_pos rfl, wp_bind]
        refine wp_mono st2 fun y ρ3 st3 => ?_
        rw [wp_lift]
        cases h3 : hard ρ3 y with
        | none => rw [h3] at st3; exact st3
        | some p =>
          rw [h3, wl_some] at st3
          rw [wl_some]
          show wp (if acc.length < sizeLine then _ else .stuck) _
          rw [if_pos (by omega)]
          exact comp_core Inv step post (pre ++ [x]) (acc ++ [p.1]) _ e' (by rw [List.length_append, List.length_singleton]; omega) st3
      | false =>
        rw [if_f] at st2
        rw [if_neg (by simp)]
        exact comp_core Inv step post (pre ++ [x]) acc _ e' (by omega) st2
theorem comp_inv (Inv : List α → List D → Sto → Prop) (hds : ds = xs.map F) (hl : xs.length ≤ sizeLine) (h0 : Inv [] [] (wipeS ρ own))
    (step : ∀ pre x post acc ρ, xs = pre ++ x :: post → Inv pre acc ρ → wTurn elt tg ifs own (F x) ρ (fun d ρ' => Inv (pre ++ [x]) (acc ++ [d]) ρ') (fun ρ' => Inv (pre ++ [x]) acc ρ'))
    (q : ∀ acc ρ', Inv xs acc ρ' → Q (.val (.lst acc)) (backS ρ ρ' own)) : wComp elt tg ifs own ds ρ Q := by
  subst hds
  unfold wComp
  exact wp_mono (comp_core Inv step xs [] [] _ rfl (by simpa using hl) h0) fun acc ρ' h => q acc ρ' h
theorem comp_filter (p : α → Bool) (hds : ds = xs.map F) (hl : xs.length ≤ sizeLine)
    (step : ∀ x ∈ xs, wTurn elt tg ifs own (F x) (wipeS ρ own) (fun d ρ' => p x = true ∧ d = G x ∧ ρ' = wipeS ρ own) (fun ρ' => p x = false ∧ ρ' = wipeS ρ own))
    (q : Q (.val (.lst ((xs.filter p).map G))) ρ) : wComp elt tg ifs own ds ρ Q := by
  refine comp_inv (fun pre acc ρ' => acc = (pre.filter p).map G ∧ ρ' = wipeS ρ own) hds hl ⟨rfl, rfl⟩ (fun pre x post acc ρ' e h => ?_) fun acc ρ' h => ?_
  · obtain ⟨rfl, rfl⟩ := h
    have st := step x (by rw [e]; simp)
    have m1 : ∀ d ρ', (p x = true ∧ d = G x ∧ ρ' = wipeS ρ own) → ((pre.filter p).map G ++ [d] = ((pre ++ [x]).filter p).map G ∧ ρ' = wipeS ρ own) := by
      rintro d ρ' ⟨h1, rfl, h2⟩
      exact ⟨by rw [List.filter_append, List.filter_cons, if_pos h1]; simp, h2⟩
    have m2 : ∀ ρ', (p x = false ∧ ρ' = wipeS ρ own) → ((pre.filter p).map G = ((pre ++ [x]).filter p).map G ∧ ρ' = wipeS ρ own) := by
      rintro ρ' ⟨h1, h2⟩
      exact ⟨by rw [List.filter_append, List.filter_cons, if_neg (by simp [h1])]; simp, h2⟩
    unfold wTurn wTg wTs wE wHard at st ⊢
    cases h1 : setTg .tmp tg (F x) (wipeS ρ own) with
    | none => rw [h1] at st; exact st
    | some ρ1 =>
      rw [h1, wl_some] at st
      rw [wl_some]
      refine wp_mono st fun b ρ2 st2 => ⟨fun k => ?_, fun k => m2 _ (st2.2 k)⟩
      refine wp_mono (st2.1 k) fun y ρ3 st3 => ?_
      cases h3 : hard ρ3 y with
      | none => rw [h3] at st3; exact st3
      | some r => rw [h3] at st3; exact m1 _ _ st3
  · obtain ⟨rfl, rfl⟩ := h
    rw [back_wipe]
    exact q
/-- .. where the store goes on among some stores -/
theorem comp_filter_s {ι : Type} (σ : ι → Sto) (i0 : ι) (p : α → Bool) (hds : ds = xs.map F) (hl : xs.length ≤ sizeLine) (h0 : wipeS ρ own = σ i0)
    (step : ∀ x ∈ xs, ∀ i, wTurn elt tg ifs own (F x) (σ i) (fun d ρ' => p x = true ∧ d = G x ∧ ∃ j, ρ' = σ j) (fun ρ' => p x = false ∧ ∃ j, ρ' = σ j))
    (q : ∀ i, Q (.val (.lst ((xs.filter p).map G))) (backS ρ (σ i) own)) : wComp elt tg ifs own ds ρ Q := by
  refine comp_inv (fun pre acc ρ' => acc = (pre.filter p).map G ∧ ∃ i, ρ' = σ i) hds hl ⟨rfl, i0, h0⟩ (fun pre x post acc ρ' e h => ?_) fun acc ρ' h => ?_
  · obtain ⟨rfl, i, rfl⟩ := h
    have st := step x (by rw [e]; simp) i
    have m1 : ∀ d ρ', (p x = true ∧ d = G x ∧ ∃ j, ρ' = σ j) → ((pre.filter p).map G ++ [d] = ((pre ++ [x]).filter p).map G ∧ ∃ j, ρ' = σ j) := by
      rintro d ρ' ⟨h1, rfl, h2⟩
      exact ⟨by rw [List.filter_append, List.filter_cons, if_pos h1]; simp, h2⟩
    have m2 : ∀ ρ', (p x = false ∧ ∃ j, ρ' = σ j) → ((pre.filter p).map G = ((pre ++ [x]).filter p).map G ∧ ∃ j, ρ' = σ j) := by
      rintro ρ' ⟨h1, h2⟩
      exact ⟨by rw [List.filter_append, List.filter_cons, if_neg (by simp [h1])]; simp, h2⟩
    unfold wTurn wTg wTs wE wHard at st ⊢
    cases h1 : setTg .tmp tg (F x) (σ i) with
    | none => rw [h1] at st; exact st
    | some ρ1 =>
      rw [h1, wl_some] at st
      rw [wl_some]
      refine wp_mono st fun b ρ2 st2 => ⟨fun k => ?_, fun k => m2 _ (st2.2 k)⟩
      refine wp_mono (st2.1 k) fun y ρ3 st3 => ?_
      cases h3 : hard ρ3 y with
      | none => rw [h3] at st3; exact st3
      | some r => rw [h3] at st3; exact m1 _ _ st3
  · obtain ⟨rfl, i, rfl⟩ := h
    exact q i
theorem comp_map_s {ι : Type} (σ : ι → Sto) (i0 : ι) (hds : ds = xs.map F) (hl : xs.length ≤ sizeLine) (h0 : wipeS ρ own = σ i0)
    (step : ∀ x ∈ xs, ∀ i, wTg .tmp tg (F x) (σ i) fun ρ1 => wE elt ρ1 fun y ρ2 => wHard ρ2 y fun d ρ3 => d = G x ∧ ∃ j, wipeS ρ3 own = σ j)
    (q : ∀ i, Q (.val (.lst (xs.map G))) (backS ρ (σ i) own)) : wComp elt tg [] own ds ρ Q := by
  refine comp_filter_s σ i0 (fun _ => true) hds hl h0 (fun x hx i => ?_) (fun i => by rw [List.filter_eq_self.mpr (fun _ _ => rfl)]; exact q i)
  have st := step x hx i
  unfold wTurn wTg at *
  cases h1 : setTg .tmp tg (F x) (σ i) with
  | none => rw [h1] at st; exact st
  | some ρ1 =>
    rw [h1, wl_some] at st
    rw [wl_some, ts_nil, if_t]
    unfold wE at *
    refine wp_mono st fun y ρ2 st2 => ?_
    unfold wHard at *
    cases h3 : hard ρ2 y with
    | none => rw [h3] at st2; exact st2
    | some r => rw [h3] at st2; exact ⟨rfl, st2⟩
theorem comp_map (hds : ds = xs.map F) (hl : xs.length ≤ sizeLine)
    (step : ∀ x ∈ xs, wTg .tmp tg (F x) (wipeS ρ own) fun ρ1 => wE elt ρ1 fun y ρ2 => wHard ρ2 y fun d ρ3 => d = G x ∧ wipeS ρ3 own = wipeS ρ own)
    (q : Q (.val (.lst (xs.map G))) ρ) : wComp elt tg [] own ds ρ Q := by
  refine comp_filter (fun _ => true) hds hl (fun x hx => ?_) (by rw [List.filter_eq_self.mpr (fun _ _ => rfl)]; exact q)
  have st := step x hx
  unfold wTurn wTg at *
  cases h1 : setTg .tmp tg (F x) (wipeS ρ own) with
  | none => rw [h1] at st; exact st
  | some ρ1 =>
    rw [h1, wl_some] at st
    rw [wl_some, ts_nil, if_t]
    unfold wE at *
    refine wp_mono st fun y ρ2 st2 => ?_
    unfold wHard at *
    cases h3 : hard ρ2 y with
    | none => rw [h3] at st2; exact st2
    | some r => rw [h3] at st2; exact ⟨rfl, st2⟩
end
section
variable {α : Type} {ys : List α} {F : α → D} {tg : Tg} {b : List S} {ds : List D} {ρ : Sto} {K : Fl → Sto → Prop}
theorem for_core (Inv : List α → Sto → Prop) (step : ∀ pre y post ρ, ys = pre ++ y :: post → Inv pre ρ → wTg .frz tg (F y) ρ fun ρ1 => wSs b ρ1 fun fl ρ2 => wFl fl (Inv (pre ++ [y]) ρ2) (K .next ρ2) fun r => K (.ret r) ρ2) (hK : ∀ ρ, Inv ys ρ → K .next ρ) :
    ∀ (post pre : List α) (ρ : Sto), ys = pre ++ post → Inv pre ρ → wFor tg b (post.map F) ρ K
  | [], pre, ρ, e, h => by
    rw [List.append_nil] at e
    subst e
    unfold wFor
    rw [List.map_nil, forL, wp_ret]
    exact hK ρ h
  | y :: post, pre, ρ, e, h => by
    have st := step pre y post ρ e h
    unfold wFor
    rw [List.map_cons, forL, wp_lift]
    unfold wTg wSs at st
    cases h1 : setTg .frz tg (F y) ρ with
    | none => rw [h1] at st; exact st
    | some ρ1 =>
      rw [h1, wl_some] at st
      rw [wl_some, wp_bind]
      refine wp_mono st fun fl ρ2 st2 => ?_
      have e' : ys = (pre ++ [y]) ++ post := by rw [e]; simp
      cases fl with
      | next => exact for_core Inv step hK post (pre ++ [y]) ρ2 e' st2
      | cont => exact for_core Inv step hK post (pre ++ [y]) ρ2 e' st2
      | brk => exact st2
      | ret r => exact st2
theorem for_inv (Inv : List α → Sto → Prop) (hds : ds = ys.map F) (h0 : Inv [] ρ)
    (step : ∀ pre y post ρ, ys = pre ++ y :: post → Inv pre ρ → wTg .frz tg (F y) ρ fun ρ1 => wSs b ρ1 fun fl ρ2 => wFl fl (Inv (pre ++ [y]) ρ2) (K .next ρ2) fun r => K (.ret r) ρ2) (hK : ∀ ρ, Inv ys ρ → K .next ρ) :
    wFor tg b ds ρ K := by
  subst hds
  exact for_core Inv step hK ys [] ρ rfl h0
/-- a loop's turns one by one -/
theorem for_nil : wFor tg b [] ρ K = K .next ρ := by unfold wFor; rw [forL, wp_ret]
theorem for_cons {d : D} : wFor tg b (d :: ds) ρ K = wTg .frz tg d ρ fun ρ1 => wSs b ρ1 fun fl ρ2 => wFl fl (wFor tg b ds ρ2 K) (K .next ρ2) fun r => K (.ret r) ρ2 := by
  unfold wFor wTg wSs
  rw [forL, wp_lift]
  congr 1; funext ρ1
  rw [wp_bind]
  congr 1; funext fl ρ2
  cases fl <;> rfl
/-- a while by a number that falls -/
theorem whl_inv {c : E} {n : Nat} (Inv : Nat → Sto → Prop)
    (step : ∀ m ρ, Inv m ρ → wE c ρ fun x ρ1 => wl (asBool ρ1 x) fun k => wSet true ρ1 fun ρ2 => wIf k (wSs b ρ2 fun fl ρ3 => wFl fl (∃ m', m' < m ∧ Inv m' ρ3) (K .next ρ3) fun r => K (.ret r) ρ3) (K .next ρ2)) :
    ∀ (m : Nat) (ρ : Sto), m < n → Inv m ρ → wWhl c b n ρ K := by
  induction n with
  | zero => intro m ρ h; omega
  | succ n ih =>
    intro m ρ hm h
    have st := step m ρ h
    unfold wWhl
    rw [whlN, wp_bind, evT, wp_bind]
    unfold wE wSet wSs at st
    refine wp_mono st fun x ρ1 st1 => ?_
    rw [wp_lift]
    cases h1 : asBool ρ1 x with
    | none => rw [h1] at st1; exact st1
    | some k =>
      rw [h1, wl_some] at st1
      rw [wl_some, wp_lift]
      cases h2 : settle true ρ1 with
      | none => rw [h2] at st1; exact st1
      | some ρ2 =>
        rw [h2, wl_some] at st1
        rw [wl_some, wp_ret]
        cases k with
        | false =>
          rw [if_f] at st1
          rw [if_neg (by simp), wp_ret]
          exact st1
        | true =>
          rw [if_t] at st1
          rw [if_pos rfl, wp_bind]
          refine wp_mono st1 fun fl ρ3 st3 => ?_
          cases fl with
          | next => obtain ⟨m', l, i⟩ := st3; exact ih m' ρ3 (by omega) i
          | cont => obtain ⟨m', l, i⟩ := st3; exact ih m' ρ3 (by omega) i
          | brk => exact st3
          | ret r => exact st3
end
/-! what is walked, as a list of things -/
theorem ints_zero (n : Nat) : itInts 0 n = (List.range n).map fun k => .int (k : Nat) := by
  unfold itInts; refine List.map_congr_left fun k _ => ?_
  show PyData.int (0 + (k : Int)) = _
  rw [Int.zero_add]
theorem zip_map {α β : Type} {f : α → D} {g : β → D} (xs : List α) (ys : List β) : itZip (xs.map f) (ys.map g) = (xs.zip ys).map fun p => .tuple [f p.1, g p.2] := by
  unfold itZip
  induction xs generalizing ys with
  | nil => rfl
  | cons x xs ih => cases ys with
    | nil => rfl
    | cons y ys => rw [List.map_cons, List.map_cons, List.zipWith_cons_cons, ih]; rfl
theorem enum_map {α : Type} {f : α → D} (xs : List α) : itEnum (xs.map f) = xs.zipIdx.map fun p => .tuple [.int (p.2 : Nat), f p.1] := by
  unfold itEnum
  rw [List.zipIdx_map, List.map_map]
  rfl
end Rx
set_option Elab.async false
set_option linter.all false
/-! Rx31: calls by the number of operands (printed by mk_calls.py) -/
namespace Rx
open PySem PySem.Spec L2
variable {fi : Fi} {ρ : Sto} {Q : Opd → Sto → Prop}
theorem ss_last (t : S) (ρ : Sto) (K : Fl → Sto → Prop) : wSs [t] ρ K = wS t ρ K := by
  rw [ss_cons]
  congr 1; funext f ρ1
  unfold nx
  cases f <;> first | exact ss_nil _ _ | rfl
theorem call_t1 (hm : fi.modes = [true]) {i : Nat} : wCall fi [.slot i] ρ Q = wLt (getS ρ i) fun k l => wp (fi.sf [some (.mut .clean true l)]) fun r ρo => wBk 1 ρo fun l2 => Q (.val r) (ρ.set i (some (.mut .dirt k l2))) := by
  rw [call_t (xs := []) hm]; simp only [hds_c, hds_n, frzS, List.map_cons, List.map_nil, List.length_cons, List.length_nil]
theorem call_f1 (hm : fi.modes = [false]) {x0 : Opd} : wCall fi [x0] ρ Q = wHard ρ x0 fun d0 ρ0 => wp (fi.sf [some (.frz d0)]) fun r ρo => wNs 1 ρo (Q (.val r) ρ0) := by
  rw [call_f (xs := [x0]) hm]; simp only [hds_c, hds_n, frzS, List.map_cons, List.map_nil, List.length_cons, List.length_nil]
theorem call_t2 (hm : fi.modes = [true, false]) {i : Nat} {x0 : Opd} : wCall fi [.slot i, x0] ρ Q = wHard ρ x0 fun d0 ρ0 => wLt (getS ρ0 i) fun k l => wp (fi.sf [some (.mut .clean true l), some (.frz d0)]) fun r ρo => wBk 2 ρo fun l2 => Q (.val r) (ρ0.set i (some (.mut .dirt k l2))) := by
  rw [call_t (xs := [x0]) hm]; simp only [hds_c, hds_n, frzS, List.map_cons, List.map_nil, List.length_cons, List.length_nil]
theorem call_f2 (hm : fi.modes = [false, false]) {x0 x1 : Opd} : wCall fi [x0, x1] ρ Q = wHard ρ x0 fun d0 ρ0 => wHard ρ0 x1 fun d1 ρ1 => wp (fi.sf [some (.frz d0), some (.frz d1)]) fun r ρo => wNs 2 ρo (Q (.val r) ρ1) := by
  rw [call_f (xs := [x0, x1]) hm]; simp only [hds_c, hds_n, frzS, List.map_cons, List.map_nil, List.length_cons, List.length_nil]
theorem call_t3 (hm : fi.modes = [true, false, false]) {i : Nat} {x0 x1 : Opd} : wCall fi [.slot i, x0, x1] ρ Q = wHard ρ x0 fun d0 ρ0 => wHard ρ0 x1 fun d1 ρ1 => wLt (getS ρ1 i) fun k l => wp (fi.sf [some (.mut .clean true l), some (.frz d0), some (.frz d1)]) fun r ρo => wBk 3 ρo fun l2 => Q (.val r) (ρ1.set i (some (.mut .dirt k l2))) := by
  rw [call_t (xs := [x0, x1]) hm]; simp only [hds_c, hds_n, frzS, List.map_cons, List.map_nil, List.length_cons, List.length_nil]
theorem call_f3 (hm : fi.modes = [false, false, false]) {x0 x1 x2 : Opd} : wCall fi [x0, x1, x2] ρ Q = wHard ρ x0 fun d0 ρ0 => wHard ρ0 x1 fun d1 ρ1 => wHard ρ1 x2 fun d2 ρ2 => wp (fi.sf [some (.frz d0), some (.frz d1), some (.frz d2)]) fun r ρo => wNs 3 ρo (Q (.val r) ρ2) := by
  rw [call_f (xs := [x0, x1, x2]) hm]; simp only [hds_c, hds_n, frzS, List.map_cons, List.map_nil, List.length_cons, List.length_nil]
theorem call_t4 (hm : fi.modes = [true, false, false, false]) {i : Nat} {x0 x1 x2 : Opd} : wCall fi [.slot i, x0, x1, x2] ρ Q = wHard ρ x0 fun d0 ρ0 => wHard ρ0 x1 fun d1 ρ1 => wHard ρ1 x2 fun d2 ρ2 => wLt (getS ρ2 i) fun k l => wp (fi.sf [some (.mut .clean true l), some (.frz d0), some (.frz d1), some (.frz d2)]) fun r ρo => wBk 4 ρo fun l2 => Q (.val r) (ρ2.set i (some (.mut .dirt k l2))) := by
  rw [call_t (xs := [x0, x1, x2]) hm]; simp only [hds_c, hds_n, frzS, List.map_cons, List.map_nil, List.length_cons, List.length_nil]
theorem call_f4 (hm : fi.modes = [false, false, false, false]) {x0 x1 x2 x3 : Opd} : wCall fi [x0, x1, x2, x3] ρ Q = wHard ρ x0 fun d0 ρ0 => wHard ρ0 x1 fun d1 ρ1 => wHard ρ1 x2 fun d2 ρ2 => wHard ρ2 x3 fun d3 ρ3 => wp (fi.sf [some (.frz d0), some (.frz d1), some (.frz d2), some (.frz d3)]) fun r ρo => wNs 4 ρo (Q (.val r) ρ3) := by
  rw [call_f (xs := [x0, x1, x2, x3]) hm]; simp only [hds_c, hds_n, frzS, List.map_cons, List.map_nil, List.length_cons, List.length_nil]
theorem call_t5 (hm : fi.modes = [true, false, false, false, false]) {i : Nat} {x0 x1 x2 x3 : Opd} : wCall fi [.slot i, x0, x1, x2, x3] ρ Q = wHard ρ x0 fun d0 ρ0 => wHard ρ0 x1 fun d1 ρ1 => wHard ρ1 x2 fun d2 ρ2 => wHard ρ2 x3 fun d3 ρ3 => wLt (getS ρ3 i) fun k l => wp (fi.sf [some (.mut .clean true l), some (.frz d0), some (.frz d1), some (.frz d2), some (.frz d3)]) fun r ρo => wBk 5 ρo fun l2 => Q (.val r) (ρ3.set i (some (.mut .dirt k l2))) := by
  rw [call_t (xs := [x0, x1, x2, x3]) hm]; simp only [hds_c, hds_n, frzS, List.map_cons, List.map_nil, List.length_cons, List.length_nil]
theorem call_f5 (hm : fi.modes = [false, false, false, false, false]) {x0 x1 x2 x3 x4 : Opd} : wCall fi [x0, x1, x2, x3, x4] ρ Q = wHard ρ x0 fun d0 ρ0 => wHard ρ0 x1 fun d1 ρ1 => wHard ρ1 x2 fun d2 ρ2 => wHard ρ2 x3 fun d3 ρ3 => wHard ρ3 x4 fun d4 ρ4 => wp (fi.sf [some (.frz d0), some (.frz d1), some (.frz d2), some (.frz d3), some (.frz d4)]) fun r ρo => wNs 5 ρo (Q (.val r) ρ4) := by
  rw [call_f (xs := [x0, x1, x2, x3, x4]) hm]; simp only [hds_c, hds_n, frzS, List.map_cons, List.map_nil, List.length_cons, List.length_nil]
theorem call_t6 (hm : fi.modes = [true, false, false, false, false, false]) {i : Nat} {x0 x1 x2 x3 x4 : Opd} : wCall fi [.slot i, x0, x1, x2, x3, x4] ρ Q = wHard ρ x0 fun d0 ρ0 => wHard ρ0 x1 fun d1 ρ1 => wHard ρ1 x2 fun d2 ρ2 => wHard ρ2 x3 fun d3 ρ3 => wHard ρ3 x4 fun d4 ρ4 => wLt (getS ρ4 i) fun k l => wp (fi.sf [some (.mut .clean true l), some (.frz d0), some (.frz d1), some (.frz d2), some (.frz d3), some (.frz d4)]) fun r ρo => wBk 6 ρo fun l2 => Q (.val r) (ρ4.set i (some (.mut .dirt k l2))) := by
  rw [call_t (xs := [x0, x1, x2, x3, x4]) hm]; simp only [hds_c, hds_n, frzS, List.map_cons, List.map_nil, List.length_cons, List.length_nil]
theorem call_f6 (hm : fi.modes = [false, false, false, false, false, false]) {x0 x1 x2 x3 x4 x5 : Opd} : wCall fi [x0, x1, x2, x3, x4, x5] ρ Q = wHard ρ x0 fun d0 ρ0 => wHard ρ0 x1 fun d1 ρ1 => wHard ρ1 x2 fun d2 ρ2 => wHard ρ2 x3 fun d3 ρ3 => wHard ρ3 x4 fun d4 ρ4 => wHard ρ4 x5 fun d5 ρ5 => wp (fi.sf [some (.frz d0), some (.frz d1), some (.frz d2), some (.frz d3), some (.frz d4), some (.frz d5)]) fun r ρo => wNs 6 ρo (Q (.val r) ρ5) := by
  rw [call_f (xs := [x0, x1, x2, x3, x4, x5]) hm]; simp only [hds_c, hds_n, frzS, List.map_cons, List.map_nil, List.length_cons, List.length_nil]
theorem call_t7 (hm : fi.modes = [true, false, false, false, false, false, false]) {i : Nat} {x0 x1 x2 x3 x4 x5 : Opd} : wCall fi [.slot i, x0, x1, x2, x3, x4, x5] ρ Q = wHard ρ x0 fun d0 ρ0 => wHard ρ0 x1 fun d1 ρ1 => wHard ρ1 x2 fun d2 ρ2 => wHard ρ2 x3 fun d3 ρ3 => wHard ρ3 x4 fun d4 ρ4 => wHard ρ4 x5 fun d5 ρ5 => wLt (getS ρ5 i) fun k l => wp (fi.sf [some (.mut .clean true l), some (.frz d0), some (.frz d1), some (.frz d2), some (.frz d3), some (.frz d4), some (.frz d5)]) fun r ρo => wBk 7 ρo fun l2 => Q (.val r) (ρ5.set i (some (.mut .dirt k l2))) := by
  rw [call_t (xs := [x0, x1, x2, x3, x4, x5]) hm]; simp only [hds_c, hds_n, frzS, List.map_cons, List.map_nil, List.length_cons, List.length_nil]
theorem call_f7 (hm : fi.modes = [false, false, false, false, false, false, false]) {x0 x1 x2 x3 x4 x5 x6 : Opd} : wCall fi [x0, x1, x2, x3, x4, x5, x6] ρ Q = wHard ρ x0 fun d0 ρ0 => wHard ρ0 x1 fun d1 ρ1 => wHard ρ1 x2 fun d2 ρ2 => wHard ρ2 x3 fun d3 ρ3 => wHard ρ3 x4 fun d4 ρ4 => wHard ρ4 x5 fun d5 ρ5 => wHard ρ5 x6 fun d6 ρ6 => wp (fi.sf [some (.frz d0), some (.frz d1), some (.frz d2), some (.frz d3), some (.frz d4), some (.frz d5), some (.frz d6)]) fun r ρo => wNs 7 ρo (Q (.val r) ρ6) := by
  rw [call_f (xs := [x0, x1, x2, x3, x4, x5, x6]) hm]; simp only [hds_c, hds_n, frzS, List.map_cons, List.map_nil, List.length_cons, List.length_nil]
theorem call_t8 (hm : fi.modes = [true, false, false, false, false, false, false, false]) {i : Nat} {x0 x1 x2 x3 x4 x5 x6 : Opd} : wCall fi [.slot i, x0, x1, x2, x3, x4, x5, x6] ρ Q = wHard ρ x0 fun d0 ρ0 => wHard ρ0 x1 fun d1 ρ1 => wHard ρ1 x2 fun d2 ρ2 => wHard ρ2 x3 fun d3 ρ3 => wHard ρ3 x4 fun d4 ρ4 => wHard ρ4 x5 fun d5 ρ5 => wHard ρ5 x6 fun d6 ρ6 => wLt (getS ρ6 i) fun k l => wp (fi.sf [some (.mut .clean true l), some (.frz d0), some (.frz d1), some (.frz d2), some (.frz d3), some (.frz d4), some (.frz d5), some (.frz d6)]) fun r ρo => wBk 8 ρo fun l2 => Q (.val r) (ρ6.set i (some (.mut .dirt k l2))) := by
  rw [call_t (xs := [x0, x1, x2, x3, x4, x5, x6]) hm]; simp only [hds_c, hds_n, frzS, List.map_cons, List.map_nil, List.length_cons, List.length_nil]
theorem call_f8 (hm : fi.modes = [false, false, false, false, false, false, false, false]) {x0 x1 x2 x3 x4 x5 x6 x7 : Opd} : wCall fi [x0, x1, x2, x3, x4, x5, x6, x7] ρ Q = wHard ρ x0 fun d0 ρ0 => wHard ρ0 x1 fun d1 ρ1 => wHard ρ1 x2 fun d2 ρ2 => wHard ρ2 x3 fun d3 ρ3 => wHard ρ3 x4 fun d4 ρ4 => wHard ρ4 x5 fun d5 ρ5 => wHard ρ5 x6 fun d6 ρ6 => wHard ρ6 x7 fun d7 ρ7 => wp (fi.sf [some (.frz d0), some (.frz d1), some (.frz d2), some (.frz d3), some (.frz d4), some (.frz d5), some (.frz d6), some (.frz d7)]) fun r ρo => wNs 8 ρo (Q (.val r) ρ7) := by
  rw [call_f (xs := [x0, x1, x2, x3, x4, x5, x6, x7]) hm]; simp only [hds_c, hds_n, frzS, List.map_cons, List.map_nil, List.length_cons, List.length_nil]
theorem call_t9 (hm : fi.modes = [true, false, false, false, false, false, false, false, false]) {i : Nat} {x0 x1 x2 x3 x4 x5 x6 x7 : Opd} : wCall fi [.slot i, x0, x1, x2, x3, x4, x5, x6, x7] ρ Q = wHard ρ x0 fun d0 ρ0 => wHard ρ0 x1 fun d1 ρ1 => wHard ρ1 x2 fun d2 ρ2 => wHard ρ2 x3 fun d3 ρ3 => wHard ρ3 x4 fun d4 ρ4 => wHard ρ4 x5 fun d5 ρ5 => wHard ρ5 x6 fun d6 ρ6 => wHard ρ6 x7 fun d7 ρ7 => wLt (getS ρ7 i) fun k l => wp (fi.sf [some (.mut .clean true l), some (.frz d0), some (.frz d1), some (.frz d2), some (.frz d3), some (.frz d4), some (.frz d5), some (.frz d6), some (.frz d7)]) fun r ρo => wBk 9 ρo fun l2 => Q (.val r) (ρ7.set i (some (.mut .dirt k l2))) := by
  rw [call_t (xs := [x0, x1, x2, x3, x4, x5, x6, x7]) hm]; simp only [hds_c, hds_n, frzS, List.map_cons, List.map_nil, List.length_cons, List.length_nil]
theorem call_f9 (hm : fi.modes = [false, false, false, false, false, false, false, false, false]) {x0 x1 x2 x3 x4 x5 x6 x7 x8 : Opd} : wCall fi [x0, x1, x2, x3, x4, x5, x6, x7, x8] ρ Q = wHard ρ x0 fun d0 ρ0 => wHard ρ0 x1 fun d1 ρ1 => wHard ρ1 x2 fun d2 ρ2 => wHard ρ2 x3 fun d3 ρ3 => wHard ρ3 x4 fun d4 ρ4 => wHard ρ4 x5 fun d5 ρ5 => wHard ρ5 x6 fun d6 ρ6 => wHard ρ6 x7 fun d7 ρ7 => wHard ρ7 x8 fun d8 ρ8 => wp (fi.sf [some (.frz d0), some (.frz d1), some (.frz d2), some (.frz d3), some (.frz d4), some (.frz d5), some (.frz d6), some (.frz d7), some (.frz d8)]) fun r ρo => wNs 9 ρo (Q (.val r) ρ8) := by
  rw [call_f (xs := [x0, x1, x2, x3, x4, x5, x6, x7, x8]) hm]; simp only [hds_c, hds_n, frzS, List.map_cons, List.map_nil, List.length_cons, List.length_nil]
theorem sz_lit {n : Nat} (h : n ≤ 16777216) : (n ≤ sizeLine) = True := eq_true h
theorem wl_ixN {n : Nat} {j : Int} {K : Nat → Prop} (h : 0 ≤ j) (h' : j.toNat < n) : wl (ixN n j) K = K j.toNat := by unfold ixN; rw [if_pos h, if_pos (by omega)]; rfl
theorem slo_f (d : D) : slOf (.frz d) = .frz d := nr rfl
theorem slo_l (l : List D) : slOf (.lst l) = .mut .clean false l := nr rfl
theorem sc_i (i : Int) : isScal (.int i) = true := nr rfl
theorem sc_b (i : Bool) : isScal (.bool i) = true := nr rfl
theorem sc_s (i : Str) : isScal (.str i) = true := nr rfl
theorem sc_n : isScal .none = true := nr rfl
theorem sc_l (l : List D) : isScal (.list l) = false := nr rfl
theorem sc_t (l : List D) : isScal (.tuple l) = false := nr rfl
theorem scr_f (d : D) : isScalR (.frz d) = isScal d := nr rfl
theorem scr_l (l : List D) : isScalR (.lst l) = false := nr rfl
theorem at_map {α : Type} [Inhabited α] {f : α → D} {l : List α} {i : Int} {K : D → Prop} : wl (atI (l.map f) i) K = ((-(l.length : Int) ≤ i ∧ i < l.length) ∧ K (f (ix l i))) := by
  rw [wl_atm]
  unfold ix
  cases h : atI l i with
  | none =>
    refine propext ⟨fun z => z.elim, fun z => ?_⟩
    unfold atI ixN at h
    have hb := z.1
    by_cases h0 : 0 ≤ i
    · rw [if_pos h0, if_pos hb.2] at h
      have e : l[i.toNat]? = none := h
      rw [List.getElem?_eq_getElem (show i.toNat < l.length by omega)] at e
      cases e
    · rw [if_neg h0, if_pos hb.1] at h
      have e : l[(i + l.length).toNat]? = none := h
      rw [List.getElem?_eq_getElem (show (i + l.length).toNat < l.length by omega)] at e
      cases e
  | some a =>
    refine propext ⟨fun z => ⟨?_, z⟩, fun z => z.2⟩
    unfold atI at h
    cases h' : ixN l.length i with
    | none => rw [h'] at h; cases h
    | some j => exact (ixN_seq h').2.2
theorem idx1 {a0 i : Int} {K : D → Prop} (h : 0 ≤ i) (h' : i < 1) (k : ∀ x : Int, (x = a0) → K (.int x)) : wl (atI [.int a0] i) K := by
  have e := at_map (f := PyData.int) (l := [a0]) (i := i) (K := K)
  rw [show [PyData.int a0] = List.map PyData.int [a0] from rfl, e]
  refine ⟨⟨by simp only [List.length_cons, List.length_nil]; omega, by simp only [List.length_cons, List.length_nil]; omega⟩, k _ ?_⟩
  have m := ix_mem (l := [a0]) h (by simp only [List.length_cons, List.length_nil]; omega)
  simpa only [List.mem_cons, List.not_mem_nil, or_false] using m
theorem idx2 {a0 a1 i : Int} {K : D → Prop} (h : 0 ≤ i) (h' : i < 2) (k : ∀ x : Int, (x = a0 ∨ x = a1) → K (.int x)) : wl (atI [.int a0, .int a1] i) K := by
  have e := at_map (f := PyData.int) (l := [a0, a1]) (i := i) (K := K)
  rw [show [PyData.int a0, PyData.int a1] = List.map PyData.int [a0, a1] from rfl, e]
  refine ⟨⟨by simp only [List.length_cons, List.length_nil]; omega, by simp only [List.length_cons, List.length_nil]; omega⟩, k _ ?_⟩
  have m := ix_mem (l := [a0, a1]) h (by simp only [List.length_cons, List.length_nil]; omega)
  simpa only [List.mem_cons, List.not_mem_nil, or_false] using m
theorem idx3 {a0 a1 a2 i : Int} {K : D → Prop} (h : 0 ≤ i) (h' : i < 3) (k : ∀ x : Int, (x = a0 ∨ x = a1 ∨ x = a2) → K (.int x)) : wl (atI [.int a0, .int a1, .int a2] i) K := by
  have e := at_map (f := PyData.int) (l := [a0, a1, a2]) (i := i) (K := K)
  rw [show [PyData.int a0, PyData.int a1, PyData.int a2] = List.map PyData.int [a0, a1, a2] from rfl, e]
  refine ⟨⟨by simp only [List.length_cons, List.length_nil]; omega, by simp only [List.length_cons, List.length_nil]; omega⟩, k _ ?_⟩
  have m := ix_mem (l := [a0, a1, a2]) h (by simp only [List.length_cons, List.length_nil]; omega)
  simpa only [List.mem_cons, List.not_mem_nil, or_false] using m
theorem idx4 {a0 a1 a2 a3 i : Int} {K : D → Prop} (h : 0 ≤ i) (h' : i < 4) (k : ∀ x : Int, (x = a0 ∨ x = a1 ∨ x = a2 ∨ x = a3) → K (.int x)) : wl (atI [.int a0, .int a1, .int a2, .int a3] i) K := by
  have e := at_map (f := PyData.int) (l := [a0, a1, a2, a3]) (i := i) (K := K)
  rw [show [PyData.int a0, PyData.int a1, PyData.int a2, PyData.int a3] = List.map PyData.int [a0, a1, a2, a3] from rfl, e]
  refine ⟨⟨by simp only [List.length_cons, List.length_nil]; omega, by simp only [List.length_cons, List.length_nil]; omega⟩, k _ ?_⟩
  have m := ix_mem (l := [a0, a1, a2, a3]) h (by simp only [List.length_cons, List.length_nil]; omega)
  simpa only [List.mem_cons, List.not_mem_nil, or_false] using m
theorem idx5 {a0 a1 a2 a3 a4 i : Int} {K : D → Prop} (h : 0 ≤ i) (h' : i < 5) (k : ∀ x : Int, (x = a0 ∨ x = a1 ∨ x = a2 ∨ x = a3 ∨ x = a4) → K (.int x)) : wl (atI [.int a0, .int a1, .int a2, .int a3, .int a4] i) K := by
  have e := at_map (f := PyData.int) (l := [a0, a1, a2, a3, a4]) (i := i) (K := K)
  rw [show [PyData.int a0, PyData.int a1, PyData.int a2, PyData.int a3, PyData.int a4] = List.map PyData.int [a0, a1, a2, a3, a4] from rfl, e]
  refine ⟨⟨by simp only [List.length_cons, List.length_nil]; omega, by simp only [List.length_cons, List.length_nil]; omega⟩, k _ ?_⟩
  have m := ix_mem (l := [a0, a1, a2, a3, a4]) h (by simp only [List.length_cons, List.length_nil]; omega)
  simpa only [List.mem_cons, List.not_mem_nil, or_false] using m
theorem idx6 {a0 a1 a2 a3 a4 a5 i : Int} {K : D → Prop} (h : 0 ≤ i) (h' : i < 6) (k : ∀ x : Int, (x = a0 ∨ x = a1 ∨ x = a2 ∨ x = a3 ∨ x = a4 ∨ x = a5) → K (.int x)) : wl (atI [.int a0, .int a1, .int a2, .int a3, .int a4, .int a5] i) K := by
  have e := at_map (f := PyData.int) (l := [a0, a1, a2, a3, a4, a5]) (i := i) (K := K)
  rw [show [PyData.int a0, PyData.int a1, PyData.int a2, PyData.int a3, PyData.int a4, PyData.int a5] = List.map PyData.int [a0, a1, a2, a3, a4, a5] from rfl, e]
  refine ⟨⟨by simp only [List.length_cons, List.length_nil]; omega, by simp only [List.length_cons, List.length_nil]; omega⟩, k _ ?_⟩
  have m := ix_mem (l := [a0, a1, a2, a3, a4, a5]) h (by simp only [List.length_cons, List.length_nil]; omega)
  simpa only [List.mem_cons, List.not_mem_nil, or_false] using m
theorem idx7 {a0 a1 a2 a3 a4 a5 a6 i : Int} {K : D → Prop} (h : 0 ≤ i) (h' : i < 7) (k : ∀ x : Int, (x = a0 ∨ x = a1 ∨ x = a2 ∨ x = a3 ∨ x = a4 ∨ x = a5 ∨ x = a6) → K (.int x)) : wl (atI [.int a0, .int a1, .int a2, .int a3, .int a4, .int a5, .int a6] i) K := by
  have e := at_map (f := PyData.int) (l := [a0, a1, a2, a3, a4, a5, a6]) (i := i) (K := K)
  rw [show [PyData.int a0, PyData.int a1, PyData.int a2, PyData.int a3, PyData.int a4, PyData.int a5, PyData.int a6] = List.map PyData.int [a0, a1, a2, a3, a4, a5, a6] from rfl, e]
  refine ⟨⟨by simp only [List.length_cons, List.length_nil]; omega, by simp only [List.length_cons, List.length_nil]; omega⟩, k _ ?_⟩
  have m := ix_mem (l := [a0, a1, a2, a3, a4, a5, a6]) h (by simp only [List.length_cons, List.length_nil]; omega)
  simpa only [List.mem_cons, List.not_mem_nil, or_false] using m
theorem idx8 {a0 a1 a2 a3 a4 a5 a6 a7 i : Int} {K : D → Prop} (h : 0 ≤ i) (h' : i < 8) (k : ∀ x : Int, (x = a0 ∨ x = a1 ∨ x = a2 ∨ x = a3 ∨ x = a4 ∨ x = a5 ∨ x = a6 ∨ x = a7) → K (.int x)) : wl (atI [.int a0, .int a1, .int a2, .int a3, .int a4, .int a5, .int a6, .int a7] i) K := by
  have e := at_map (f := PyData.int) (l := [a0, a1, a2, a3, a4, a5, a6, a7]) (i := i) (K := K)
  rw [show [PyData.int a0, PyData.int a1, PyData.int a2, PyData.int a3, PyData.int a4, PyData.int a5, PyData.int a6, PyData.int a7] = List.map PyData.int [a0, a1, a2, a3, a4, a5, a6, a7] from rfl, e]
  refine ⟨⟨by simp only [List.length_cons, List.length_nil]; omega, by simp only [List.length_cons, List.length_nil]; omega⟩, k _ ?_⟩
  have m := ix_mem (l := [a0, a1, a2, a3, a4, a5, a6, a7]) h (by simp only [List.length_cons, List.length_nil]; omega)
  simpa only [List.mem_cons, List.not_mem_nil, or_false] using m
theorem idx9 {a0 a1 a2 a3 a4 a5 a6 a7 a8 i : Int} {K : D → Prop} (h : 0 ≤ i) (h' : i < 9) (k : ∀ x : Int, (x = a0 ∨ x = a1 ∨ x = a2 ∨ x = a3 ∨ x = a4 ∨ x = a5 ∨ x = a6 ∨ x = a7 ∨ x = a8) → K (.int x)) : wl (atI [.int a0, .int a1, .int a2, .int a3, .int a4, .int a5, .int a6, .int a7, .int a8] i) K := by
  have e := at_map (f := PyData.int) (l := [a0, a1, a2, a3, a4, a5, a6, a7, a8]) (i := i) (K := K)
  rw [show [PyData.int a0, PyData.int a1, PyData.int a2, PyData.int a3, PyData.int a4, PyData.int a5, PyData.int a6, PyData.int a7, PyData.int a8] = List.map PyData.int [a0, a1, a2, a3, a4, a5, a6, a7, a8] from rfl, e]
  refine ⟨⟨by simp only [List.length_cons, List.length_nil]; omega, by simp only [List.length_cons, List.length_nil]; omega⟩, k _ ?_⟩
  have m := ix_mem (l := [a0, a1, a2, a3, a4, a5, a6, a7, a8]) h (by simp only [List.length_cons, List.length_nil]; omega)
  simpa only [List.mem_cons, List.not_mem_nil, or_false] using m
theorem lt_m {m : Md} {k : Bool} {l : List D} {K : Bool → List D → Prop} (h : m ≠ .lent) : wLt (some (.mut m k l)) K = K k l := by cases m <;> first | rfl | exact absurd rfl h
theorem turn_u (elt : E) (tg : Tg) (ifs : List E) (own : List Nat) (d : D) (ρ : Sto) (A : D → Sto → Prop) (B : Sto → Prop) : wTurn elt tg ifs own d ρ A B = wTg .tmp tg d ρ fun ρ1 => wTs ifs ρ1 fun b ρ2 => wIf b (wE elt ρ2 fun y ρ3 => wHard ρ3 y fun d ρ4 => A d (wipeS ρ4 own)) (B (wipeS ρ2 own)) := nr rfl
theorem ba_n (ρ0 ρ : Sto) : backS ρ0 ρ [] = ρ := nr rfl
theorem ba_c (ρ0 ρ : Sto) (v : Nat) (vs : List Nat) : backS ρ0 ρ (v :: vs) = (backS ρ0 ρ vs).set v (getS ρ0 v) := nr rfl
theorem len_bound {n : Nat} (h : n ≤ 1000000) : n ≤ sizeLine := Nat.le_trans h (by decide)
theorem szi {n : Nat} : (n ≤ sizeLine) = (n ≤ 16777216) := rfl
theorem szl {n : Nat} : (n < sizeLine) = (n < 16777216) := rfl
theorem any_map {α : Type} {xs : List α} {p : α → Bool} {K : R → Prop} : wl (biR .any [.lst (xs.map fun x => .bool (p x))]) K = K (.frz (.bool (xs.any p))) := by
  have e : (xs.map fun x => PyData.bool (p x)) = (xs.map p).map .bool := by rw [List.map_map]; rfl
  rw [e, bl_any, List.any_map]; rfl
theorem all_map {α : Type} {xs : List α} {p : α → Bool} {K : R → Prop} : wl (biR .all [.lst (xs.map fun x => .bool (p x))]) K = K (.frz (.bool (xs.all p))) := by
  have e : (xs.map fun x => PyData.bool (p x)) = (xs.map p).map .bool := by rw [List.map_map]; rfl
  rw [e, bl_all, List.all_map]; rfl
end Rx
set_option Elab.async false
set_option linter.all false
/-! Rx32: shapes, equality of data -/
namespace Rx
open PySem PySem.Spec L2
/-- data that may be compared: no deeper than k -/
def shp (k : Nat) (d : D) : Prop := d.canLay0 = true ∧ d.depth ≤ k
def shpL (k : Nat) (ds : List D) : Prop := ∀ d ∈ ds, shp k d
theorem canL_iff : ∀ ds : List D, PyData.canLayAll0 ds = true ↔ ∀ d ∈ ds, d.canLay0 = true
  | [] => by simp [PyData.canLayAll0]
  | d :: ds => by rw [PyData.canLayAll0, Bool.and_eq_true, canL_iff ds]; simp
theorem depL_iff {k : Nat} : ∀ ds : List D, PyData.depthAll ds ≤ k ↔ ∀ d ∈ ds, d.depth ≤ k
  | [] => by simp [PyData.depthAll]
  | d :: ds => by
    rw [PyData.depthAll]
    have := depL_iff (k := k) ds
    simp only [List.mem_cons, forall_eq_or_imp, ← this]; omega
theorem shp_int (k : Nat) (i : Int) : shp k (.int i) = True := eq_true ⟨rfl, Nat.zero_le _⟩
theorem shp_bool (k : Nat) (i : Bool) : shp k (.bool i) = True := eq_true ⟨rfl, Nat.zero_le _⟩
theorem shp_none (k : Nat) : shp k .none = True := eq_true ⟨rfl, Nat.zero_le _⟩
theorem shp_list (k : Nat) (ds : List D) : shp (k + 1) (.list ds) = shpL k ds := by
  unfold shp shpL shp
  rw [PyData.canLay0, PyData.depth, canL_iff, Nat.add_le_add_iff_right, depL_iff]
  exact propext ⟨fun z d hd => ⟨z.1 d hd, z.2 d hd⟩, fun z => ⟨fun d hd => (z d hd).1, fun d hd => (z d hd).2⟩⟩
theorem shp_tuple (k : Nat) (ds : List D) : shp (k + 1) (.tuple ds) = shpL k ds := by
  unfold shp shpL shp
  rw [PyData.canLay0, PyData.depth, canL_iff, Nat.add_le_add_iff_right, depL_iff]
  exact propext ⟨fun z d hd => ⟨z.1 d hd, z.2 d hd⟩, fun z => ⟨fun d hd => (z d hd).1, fun d hd => (z d hd).2⟩⟩
theorem shpl_nil (k : Nat) : shpL k [] = True := eq_true fun _ h => nomatch h
theorem shpl_cons (k : Nat) (d : D) (ds : List D) : shpL k (d :: ds) = (shp k d ∧ shpL k ds) := by unfold shpL; simp
theorem shpl_app (k : Nat) (as bs : List D) : shpL k (as ++ bs) = (shpL k as ∧ shpL k bs) := by
  unfold shpL
  exact propext ⟨fun z => ⟨fun d h => z d (List.mem_append_left _ h), fun d h => z d (List.mem_append_right _ h)⟩, fun z d h => (List.mem_append.mp h).elim (z.1 d) (z.2 d)⟩
theorem shpl_map {α : Type} (k : Nat) (f : α → D) (xs : List α) : shpL k (xs.map f) = ∀ x ∈ xs, shp k (f x) := by unfold shpL; simp
theorem shpl_mapt {α : Type} {k : Nat} {f : α → D} {xs : List α} (h : ∀ x, shp k (f x)) : shpL k (xs.map f) = True := eq_true (by rw [shpl_map]; exact fun x _ => h x)
theorem shaped_of {d : D} (h : shp 64 d) : SeqAt.shaped d = true := by unfold SeqAt.shaped; rw [h.1, Bool.true_and]; exact decide_eq_true h.2
theorem shaped_e (d : D) : (SeqAt.shaped d = true) = shp 64 d := by
  unfold SeqAt.shaped shp; rw [Bool.and_eq_true, decide_eq_true_eq]
theorem shp_mono {k n : Nat} {d : D} (h : shp k d) (l : k ≤ n) : shp n d := ⟨h.1, Nat.le_trans h.2 l⟩
def plainStr (s : Str) : Prop := shp 0 (.str s)
theorem shp_str {k : Nat} {s : Str} (h : plainStr s) : shp k (.str s) = True := eq_true (shp_mono h (Nat.zero_le _))
/-! equality, by what is written so -/
def Eqf {α : Type} (f : α → D) : Prop := ∀ x y, PyData.eqv (f x) (f y) = true ↔ x = y
theorem eqf_int : Eqf PyData.int := fun x y => by
  show (x == y) = true ↔ _
  exact beq_iff_eq
theorem eqv_ii (i j : Int) : PyData.eqv (.int i) (.int j) = decide (i = j) := by rw [PyData.eqv]; rfl
theorem eqvAll_map {α : Type} {f : α → D} (h : Eqf f) : ∀ xs ys : List α, PyData.eqvAll (xs.map f) (ys.map f) = true ↔ xs = ys
  | [], [] => by simp [PyData.eqvAll]
  | [], y :: ys => by simp [PyData.eqvAll]
  | x :: xs, [] => by simp [PyData.eqvAll]
  | x :: xs, y :: ys => by
    rw [List.map_cons, List.map_cons, PyData.eqvAll, Bool.and_eq_true, h x y, eqvAll_map h xs ys]
    simp
theorem eqf_list {α : Type} {f : α → D} (h : Eqf f) : Eqf fun xs : List α => PyData.list (xs.map f) := fun xs ys => by
  rw [PyData.eqv]; exact eqvAll_map h xs ys
theorem eqf_tuple {α : Type} {f : α → D} (h : Eqf f) : Eqf fun xs : List α => PyData.tuple (xs.map f) := fun xs ys => by
  rw [PyData.eqv]; exact eqvAll_map h xs ys
theorem eqf_ints : Eqf fun xs : List Int => PyData.list (xs.map .int) := eqf_list eqf_int
theorem eqf_intt : Eqf fun xs : List Int => PyData.tuple (xs.map .int) := eqf_tuple eqf_int
theorem eqf_inv {α : Type} {f : α → D} (h : Eqf f) {x y : α} : PyData.eqv (f x) (f y) = true ↔ x = y := h x y
theorem if_e {α : Type} {f : α → D} (h : Eqf f) {x y : α} {A B : Prop} : wIf (PyData.eqv (f x) (f y)) A B = ((x = y → A) ∧ (x ≠ y → B)) := by
  unfold wIf
  cases e : PyData.eqv (f x) (f y) with
  | true =>
    have := (h x y).mp e
    simp [this]
  | false =>
    have : ¬ x = y := fun z => by rw [(h x y).mpr z] at e; cases e
    simp [this]
/-- data that is told from other data by what it is -/
theorem eqv_refl_of {d : D} : (fun d : D => PyData.eqv d d = true) d ↔ PyData.eqv d d = true := Iff.rfl
mutual
theorem eqv_self : ∀ d : D, d.canLay0 = true → PyData.eqv d d = true
  | .none, _ => rfl
  | .bool b, _ => by rw [PyData.eqv]; exact beq_self_eq_true b
  | .int i, _ => by rw [PyData.eqv]; exact beq_self_eq_true i
  | .str s, _ => by rw [PyData.eqv]; exact beq_self_eq_true s
  | .list ds, h => by rw [PyData.canLay0] at h; rw [PyData.eqv]; exact eqvAll_self ds h
  | .tuple ds, h => by rw [PyData.canLay0] at h; rw [PyData.eqv]; exact eqvAll_self ds h
  | .dict _, h => by rw [PyData.canLay0] at h; cases h
theorem eqvAll_self : ∀ ds : List D, PyData.canLayAll0 ds = true → PyData.eqvAll ds ds = true
  | [], _ => rfl
  | d :: ds, h => by
    rw [PyData.canLayAll0, Bool.and_eq_true] at h
    rw [PyData.eqvAll, Bool.and_eq_true]
    exact ⟨eqv_self d h.1, eqvAll_self ds h.2⟩
end
theorem eqv_same {d e : D} (h : d = e) (s : shp 64 d) : PyData.eqv d e = true := by rw [← h]; exact eqv_self d s.1
theorem c_eqS {x y : R} {K : Bool → Prop} : wl (copR .eq x y) K = ((shp 64 (toD x) ∧ shp 64 (toD y)) ∧ K (PyData.eqv (toD x) (toD y))) := by rw [c_eq, shaped_e, shaped_e]
theorem c_neS {x y : R} {K : Bool → Prop} : wl (copR .ne x y) K = ((shp 64 (toD x) ∧ shp 64 (toD y)) ∧ K (!PyData.eqv (toD x) (toD y))) := by rw [c_ne, shaped_e, shaped_e]
theorem eqv_nil_l {α : Type} {f : α → D} {xs : List α} : PyData.eqv (.list (xs.map f)) (.list []) = decide (xs = []) := by
  cases xs <;> simp [PyData.eqv, PyData.eqvAll]
/-! legs and roads -/
structure Leg where
  full : Int
  least : Int
  most : Int
  deriving DecidableEq
instance : Inhabited Leg := ⟨⟨1, 1, 1⟩⟩
def legD (l : Leg) : D := .tuple [.int l.full, .int l.least, .int l.most]
def LegOk (l : Leg) : Prop := 1 ≤ l.least ∧ l.least ≤ l.most ∧ l.most ≤ l.full ∧ l.full ≤ 1000000
structure Road where
  legs : List Leg
  firsts : List Int
  deriving DecidableEq
instance : Inhabited Road := ⟨⟨[], []⟩⟩
def roadD (r : Road) : D := .tuple [.tuple (r.legs.map legD), .tuple (r.firsts.map .int)]
theorem shp_leg (k : Nat) (l : Leg) : shp (k + 1) (legD l) = True := by
  unfold legD; rw [shp_tuple]; simp only [shpl_cons, shpl_nil, shp_int, and_self]
theorem shp_road (k : Nat) (r : Road) : shp (k + 3) (roadD r) = True := by
  unfold roadD
  rw [shp_tuple, shpl_cons, shpl_cons, shpl_nil, shp_tuple, shp_tuple, shpl_mapt (fun x => by rw [shp_leg]; trivial), shpl_mapt (fun x => by rw [shp_int]; trivial)]
  simp
theorem eqf_leg : Eqf legD := fun x y => by
  unfold legD
  rw [PyData.eqv, PyData.eqvAll, PyData.eqvAll, PyData.eqvAll, PyData.eqvAll, Bool.and_eq_true, Bool.and_eq_true, Bool.and_eq_true, eqf_inv eqf_int, eqf_inv eqf_int, eqf_inv eqf_int]
  cases x; cases y
  simp
theorem eqf_road : Eqf roadD := fun x y => by
  unfold roadD
  rw [PyData.eqv, PyData.eqvAll, PyData.eqvAll, PyData.eqvAll, Bool.and_eq_true, Bool.and_eq_true, (eqf_tuple eqf_leg) x.legs y.legs, eqf_intt x.firsts y.firsts]
  cases x; cases y
  simp
end Rx
set_option Elab.async false
set_option linter.all false
/-! Rx33: a def that calls itself: so many times at most -/
namespace Rx
open PySem PySem.Spec PyProof.Rows L2
def stuckF (ms : List Bool) : Fi := ⟨ms, fun _ => .stuck⟩
theorem fnG_stuck {P : Program} {w : World} {K : PySem.W.Frag} {mg : Str → Option Value} {base : Heap} {k : Nat} {f : Addr} {fd : FuncData} {ps : List Str} {ms : List Bool} (hm : ms.length = ps.length) : FnG P w K mg base k f fd ps (SpecOf K (stuckF ms)) where
  len := fun vs H Q h => h.1.trans hm
  run := fun A outer s H args us vs Q _ _ _ _ _ h => by
    obtain ⟨_, G, ρa, r, ρo, _, _, e, _⟩ := h
    cases e
end Rx
set_option Elab.async false
set_option linter.all false
set_option maxRecDepth 100000
set_option maxHeartbeats 4000000
namespace Rx
open PySem PySem.Spec PyProof.Rows L2
def b_law_tape__1 : List S := [(.ret (.lst [(.bop .mul (.bi .abs [(.var 2)]) (.bi .int [(.cop .ge (.bi .abs [(.var 2)]) (.bop .pow (.const (.int 10)) (.const (.int 18))))])), (.bop .add (.bop .add (.bop .mod (.var 2) (.const (.int 2305843009213693951))) (.bop .mul (.const (.int 39373)) (.var 1))) (.const (.int 17))), (.const (.int 0))]))]
theorem u_law_tape__1 (s : Option Sl) (ρ : Sto) (K : Fl → Sto → Prop) : wSs b_law_tape__1 (s :: ρ) K = wS (.ret (.lst [(.bop .mul (.bi .abs [(.var 2)]) (.bi .int [(.cop .ge (.bi .abs [(.var 2)]) (.bop .pow (.const (.int 10)) (.const (.int 18))))])), (.bop .add (.bop .add (.bop .mod (.var 2) (.const (.int 2305843009213693951))) (.bop .mul (.const (.int 39373)) (.var 1))) (.const (.int 17))), (.const (.int 0))])) (s :: ρ) K := ss_last _ _ _
def b_law_tape : List S := (.setv 2 (.ife (.cop .lt (.var 1) (.bi .len [(.var 0)])) (.idx (.var 0) (.var 1)) (.const (.int 0)))) :: b_law_tape__1
theorem u_law_tape (s : Option Sl) (ρ : Sto) (K : Fl → Sto → Prop) : wSs b_law_tape (s :: ρ) K = wS (.setv 2 (.ife (.cop .lt (.var 1) (.bi .len [(.var 0)])) (.idx (.var 0) (.var 1)) (.const (.int 0)))) (s :: ρ) fun f ρ1 => nx f b_law_tape__1 ρ1 K := ss_cons _ _
def f_law_tape : Fi := ⟨[false, false], evDef 3 b_law_tape⟩
theorem o_law_tape (a0 a1 : Option Sl) (Q : R → Sto → Prop) : wp (f_law_tape.sf [a0, a1]) Q = wSs b_law_tape [a0, a1, none] (kD 2 Q) := w_def (n := 3) (body := b_law_tape) (ρa := [a0, a1]) (Q := Q)
theorem k_law_tape (x0 x1 : Opd) (ρ : Sto) (Q : Opd → Sto → Prop) : wCall f_law_tape [x0, x1] ρ Q = wHard ρ x0 fun d0 ρ0 => wHard ρ0 x1 fun d1 ρ1 => wp (f_law_tape.sf [some (.frz d0), some (.frz d1)]) fun r ρo => wNs 2 ρo (Q (.val r) ρ1) := call_f2 rfl
def b_law_draw_0a__2 : List S := [(.ret (.var 2))]
theorem u_law_draw_0a__2 (s : Option Sl) (ρ : Sto) (K : Fl → Sto → Prop) : wSs b_law_draw_0a__2 (s :: ρ) K = wS (.ret (.var 2)) (s :: ρ) K := ss_last _ _ _
def b_law_draw_0a__1 : List S := (.seti 0 (.const (.int 0)) (.bop .fdiv (.idx (.var 0) (.const (.int 0))) (.var 1))) :: b_law_draw_0a__2
theorem u_law_draw_0a__1 (s : Option Sl) (ρ : Sto) (K : Fl → Sto → Prop) : wSs b_law_draw_0a__1 (s :: ρ) K = wS (.seti 0 (.const (.int 0)) (.bop .fdiv (.idx (.var 0) (.const (.int 0))) (.var 1))) (s :: ρ) fun f ρ1 => nx f b_law_draw_0a__2 ρ1 K := ss_cons _ _
def b_law_draw_0a : List S := (.setv 2 (.bop .mod (.idx (.var 0) (.const (.int 0))) (.var 1))) :: b_law_draw_0a__1
theorem u_law_draw_0a (s : Option Sl) (ρ : Sto) (K : Fl → Sto → Prop) : wSs b_law_draw_0a (s :: ρ) K = wS (.setv 2 (.bop .mod (.idx (.var 0) (.const (.int 0))) (.var 1))) (s :: ρ) fun f ρ1 => nx f b_law_draw_0a__1 ρ1 K := ss_cons _ _
def b_law_draw__5 : List S := [(.ret (.bop .mod (.bop .fdiv (.bop .mod (.bop .add (.bop .add (.bop .mul (.var 4) (.const (.int 48271))) (.bop .mul (.var 5) (.const (.int 39373)))) (.var 3)) (.const (.int 2305843009213693921))) (.const (.int 64))) (.var 1)))]
theorem u_law_draw__5 (s : Option Sl) (ρ : Sto) (K : Fl → Sto → Prop) : wSs b_law_draw__5 (s :: ρ) K = wS (.ret (.bop .mod (.bop .fdiv (.bop .mod (.bop .add (.bop .add (.bop .mul (.var 4) (.const (.int 48271))) (.bop .mul (.var 5) (.const (.int 39373)))) (.var 3)) (.const (.int 2305843009213693921))) (.const (.int 64))) (.var 1))) (s :: ρ) K := ss_last _ _ _
def b_law_draw__4 : List S := (.setv 5 (.bop .mod (.bop .add (.bop .add (.bop .fdiv (.idx (.var 0) (.const (.int 1))) (.const (.int 2147483647))) (.bop .mul (.var 4) (.const (.int 40009)))) (.idx (.var 0) (.const (.int 2)))) (.const (.int 2305843009213693951)))) :: b_law_draw__5
theorem u_law_draw__4 (s : Option Sl) (ρ : Sto) (K : Fl → Sto → Prop) : wSs b_law_draw__4 (s :: ρ) K = wS (.setv 5 (.bop .mod (.bop .add (.bop .add (.bop .fdiv (.idx (.var 0) (.const (.int 1))) (.const (.int 2147483647))) (.bop .mul (.var 4) (.const (.int 40009)))) (.idx (.var 0) (.const (.int 2)))) (.const (.int 2305843009213693951)))) (s :: ρ) fun f ρ1 => nx f b_law_draw__5 ρ1 K := ss_cons _ _
def b_law_draw__3 : List S := (.setv 4 (.bop .mod (.bop .mul (.bop .add (.var 3) (.idx (.var 0) (.const (.int 2)))) (.bop .add (.bop .add (.bop .mod (.var 3) (.const (.int 40009))) (.const (.int 7))) (.idx (.var 0) (.const (.int 2))))) (.const (.int 2147483629)))) :: b_law_draw__4
theorem u_law_draw__3 (s : Option Sl) (ρ : Sto) (K : Fl → Sto → Prop) : wSs b_law_draw__3 (s :: ρ) K = wS (.setv 4 (.bop .mod (.bop .mul (.bop .add (.var 3) (.idx (.var 0) (.const (.int 2)))) (.bop .add (.bop .add (.bop .mod (.var 3) (.const (.int 40009))) (.const (.int 7))) (.idx (.var 0) (.const (.int 2))))) (.const (.int 2147483629)))) (s :: ρ) fun f ρ1 => nx f b_law_draw__4 ρ1 K := ss_cons _ _
def b_law_draw__2 : List S := (.setv 3 (.bop .mod (.bop .pow (.bop .add (.idx (.var 0) (.const (.int 1))) (.bop .mul (.const (.int 39373)) (.idx (.var 0) (.const (.int 2))))) (.const (.int 5))) (.const (.int 2147483647)))) :: b_law_draw__3
theorem u_law_draw__2 (s : Option Sl) (ρ : Sto) (K : Fl → Sto → Prop) : wSs b_law_draw__2 (s :: ρ) K = wS (.setv 3 (.bop .mod (.bop .pow (.bop .add (.idx (.var 0) (.const (.int 1))) (.bop .mul (.const (.int 39373)) (.idx (.var 0) (.const (.int 2))))) (.const (.int 5))) (.const (.int 2147483647)))) (s :: ρ) fun f ρ1 => nx f b_law_draw__3 ρ1 K := ss_cons _ _
def b_law_draw__1 : List S := (.seti 0 (.const (.int 2)) (.bop .add (.idx (.var 0) (.const (.int 2))) (.const (.int 1)))) :: b_law_draw__2
theorem u_law_draw__1 (s : Option Sl) (ρ : Sto) (K : Fl → Sto → Prop) : wSs b_law_draw__1 (s :: ρ) K = wS (.seti 0 (.const (.int 2)) (.bop .add (.idx (.var 0) (.const (.int 2))) (.const (.int 1)))) (s :: ρ) fun f ρ1 => nx f b_law_draw__2 ρ1 K := ss_cons _ _
def b_law_draw : List S := (.iff (.cop .gt (.idx (.var 0) (.const (.int 0))) (.const (.int 0))) b_law_draw_0a []) :: b_law_draw__1
theorem u_law_draw (s : Option Sl) (ρ : Sto) (K : Fl → Sto → Prop) : wSs b_law_draw (s :: ρ) K = wS (.iff (.cop .gt (.idx (.var 0) (.const (.int 0))) (.const (.int 0))) b_law_draw_0a []) (s :: ρ) fun f ρ1 => nx f b_law_draw__1 ρ1 K := ss_cons _ _
def f_law_draw : Fi := ⟨[true, false], evDef 6 b_law_draw⟩
theorem o_law_draw (a0 a1 : Option Sl) (Q : R → Sto → Prop) : wp (f_law_draw.sf [a0, a1]) Q = wSs b_law_draw [a0, a1, none, none, none, none] (kD 2 Q) := w_def (n := 6) (body := b_law_draw) (ρa := [a0, a1]) (Q := Q)
theorem k_law_draw (i : Nat) (x0 : Opd) (ρ : Sto) (Q : Opd → Sto → Prop) : wCall f_law_draw [.slot i, x0] ρ Q = wHard ρ x0 fun d0 ρ0 => wLt (getS ρ0 i) fun k l => wp (f_law_draw.sf [some (.mut .clean true l), some (.frz d0)]) fun r ρo => wBk 2 ρo fun l2 => Q (.val r) (ρ0.set i (some (.mut .dirt k l2))) := call_t2 rfl
def b_law_folded_1a : List S := [(.seti 2 (.bop .mod (.var 3) (.var 1)) (.bop .add (.idx (.var 2) (.bop .mod (.var 3) (.var 1))) (.bop .mul (.var 4) (.bop .add (.var 3) (.const (.int 2))))))]
theorem u_law_folded_1a (s : Option Sl) (ρ : Sto) (K : Fl → Sto → Prop) : wSs b_law_folded_1a (s :: ρ) K = wS (.seti 2 (.bop .mod (.var 3) (.var 1)) (.bop .add (.idx (.var 2) (.bop .mod (.var 3) (.var 1))) (.bop .mul (.var 4) (.bop .add (.var 3) (.const (.int 2)))))) (s :: ρ) K := ss_last _ _ _
def b_law_folded__2 : List S := [(.ret (.ife (.cop .ne (.var 2) (.lst [])) (.var 2) (.lst [(.const (.int 0))])))]
theorem u_law_folded__2 (s : Option Sl) (ρ : Sto) (K : Fl → Sto → Prop) : wSs b_law_folded__2 (s :: ρ) K = wS (.ret (.ife (.cop .ne (.var 2) (.lst [])) (.var 2) (.lst [(.const (.int 0))]))) (s :: ρ) K := ss_last _ _ _
def b_law_folded__1 : List S := (.forr (.tup [(.nm 3), (.nm 4)]) (.enum (.slc (.var 0) (.asI (.var 1)) (.asI (.const (.int 63))))) b_law_folded_1a) :: b_law_folded__2
theorem u_law_folded__1 (s : Option Sl) (ρ : Sto) (K : Fl → Sto → Prop) : wSs b_law_folded__1 (s :: ρ) K = wS (.forr (.tup [(.nm 3), (.nm 4)]) (.enum (.slc (.var 0) (.asI (.var 1)) (.asI (.const (.int 63))))) b_law_folded_1a) (s :: ρ) fun f ρ1 => nx f b_law_folded__2 ρ1 K := ss_cons _ _
def b_law_folded : List S := (.setv 2 (.bi .list [(.slc (.var 0) (.const .none) (.asI (.var 1)))])) :: b_law_folded__1
theorem u_law_folded (s : Option Sl) (ρ : Sto) (K : Fl → Sto → Prop) : wSs b_law_folded (s :: ρ) K = wS (.setv 2 (.bi .list [(.slc (.var 0) (.const .none) (.asI (.var 1)))])) (s :: ρ) fun f ρ1 => nx f b_law_folded__1 ρ1 K := ss_cons _ _
def f_law_folded : Fi := ⟨[false, false], evDef 5 b_law_folded⟩
theorem o_law_folded (a0 a1 : Option Sl) (Q : R → Sto → Prop) : wp (f_law_folded.sf [a0, a1]) Q = wSs b_law_folded [a0, a1, none, none, none] (kD 2 Q) := w_def (n := 5) (body := b_law_folded) (ρa := [a0, a1]) (Q := Q)
theorem k_law_folded (x0 x1 : Opd) (ρ : Sto) (Q : Opd → Sto → Prop) : wCall f_law_folded [x0, x1] ρ Q = wHard ρ x0 fun d0 ρ0 => wHard ρ0 x1 fun d1 ρ1 => wp (f_law_folded.sf [some (.frz d0), some (.frz d1)]) fun r ρo => wNs 2 ρo (Q (.val r) ρ1) := call_f2 rfl
def b_law_leg__3 : List S := [(.ret (.tup [(.bop .add (.var 2) (.var 4)), (.var 3), (.var 2)]))]
theorem u_law_leg__3 (s : Option Sl) (ρ : Sto) (K : Fl → Sto → Prop) : wSs b_law_leg__3 (s :: ρ) K = wS (.ret (.tup [(.bop .add (.var 2) (.var 4)), (.var 3), (.var 2)])) (s :: ρ) K := ss_last _ _ _
def b_law_leg__2 : List S := (.setv 4 (.idx (.lst [(.const (.int 0)), (.call f_law_draw [(.var 0), (.const (.int 9))]), (.call f_law_draw [(.var 0), (.const (.int 30))]), (.call f_law_draw [(.var 0), (.bop .mul (.const (.int 2)) (.var 2))]), (.const (.int 0)), (.const (.int 1))]) (.call f_law_draw [(.var 0), (.const (.int 6))]))) :: b_law_leg__3
theorem u_law_leg__2 (s : Option Sl) (ρ : Sto) (K : Fl → Sto → Prop) : wSs b_law_leg__2 (s :: ρ) K = wS (.setv 4 (.idx (.lst [(.const (.int 0)), (.call f_law_draw [(.var 0), (.const (.int 9))]), (.call f_law_draw [(.var 0), (.const (.int 30))]), (.call f_law_draw [(.var 0), (.bop .mul (.const (.int 2)) (.var 2))]), (.const (.int 0)), (.const (.int 1))]) (.call f_law_draw [(.var 0), (.const (.int 6))]))) (s :: ρ) fun f ρ1 => nx f b_law_leg__3 ρ1 K := ss_cons _ _
def b_law_leg__1 : List S := (.setv 3 (.idx (.lst [(.var 2), (.const (.int 1)), (.bop .add (.const (.int 1)) (.call f_law_draw [(.var 0), (.var 2)])), (.bop .add (.const (.int 1)) (.call f_law_draw [(.var 0), (.var 2)])), (.bi .max2 [(.const (.int 1)), (.bop .sub (.var 2) (.const (.int 2)))]), (.bop .add (.const (.int 1)) (.bop .fdiv (.var 2) (.const (.int 2))))]) (.var 1))) :: b_law_leg__2
theorem u_law_leg__1 (s : Option Sl) (ρ : Sto) (K : Fl → Sto → Prop) : wSs b_law_leg__1 (s :: ρ) K = wS (.setv 3 (.idx (.lst [(.var 2), (.const (.int 1)), (.bop .add (.const (.int 1)) (.call f_law_draw [(.var 0), (.var 2)])), (.bop .add (.const (.int 1)) (.call f_law_draw [(.var 0), (.var 2)])), (.bi .max2 [(.const (.int 1)), (.bop .sub (.var 2) (.const (.int 2)))]), (.bop .add (.const (.int 1)) (.bop .fdiv (.var 2) (.const (.int 2))))]) (.var 1))) (s :: ρ) fun f ρ1 => nx f b_law_leg__2 ρ1 K := ss_cons _ _
def b_law_leg : List S := (.par [1, 2] [(.call f_law_draw [(.var 0), (.const (.int 6))]), (.bop .add (.const (.int 1)) (.call f_law_draw [(.var 0), (.idx (.lst [(.const (.int 12)), (.const (.int 40)), (.bop .pow (.const (.int 10)) (.const (.int 5)))]) (.call f_law_draw [(.var 0), (.const (.int 3))]))]))]) :: b_law_leg__1
theorem u_law_leg (s : Option Sl) (ρ : Sto) (K : Fl → Sto → Prop) : wSs b_law_leg (s :: ρ) K = wS (.par [1, 2] [(.call f_law_draw [(.var 0), (.const (.int 6))]), (.bop .add (.const (.int 1)) (.call f_law_draw [(.var 0), (.idx (.lst [(.const (.int 12)), (.const (.int 40)), (.bop .pow (.const (.int 10)) (.const (.int 5)))]) (.call f_law_draw [(.var 0), (.const (.int 3))]))]))]) (s :: ρ) fun f ρ1 => nx f b_law_leg__1 ρ1 K := ss_cons _ _
def f_law_leg : Fi := ⟨[true], evDef 5 b_law_leg⟩
theorem o_law_leg (a0 : Option Sl) (Q : R → Sto → Prop) : wp (f_law_leg.sf [a0]) Q = wSs b_law_leg [a0, none, none, none, none] (kD 1 Q) := w_def (n := 5) (body := b_law_leg) (ρa := [a0]) (Q := Q)
theorem k_law_leg (i : Nat) (ρ : Sto) (Q : Opd → Sto → Prop) : wCall f_law_leg [.slot i] ρ Q = wLt (getS ρ i) fun k l => wp (f_law_leg.sf [some (.mut .clean true l)]) fun r ρo => wBk 1 ρo fun l2 => Q (.val r) (ρ.set i (some (.mut .dirt k l2))) := call_t1 rfl
def b_law_line__3 : List S := [(.ret (.tup [(.bi .tuple [(.var 4)]), (.bi .tuple [(.comp (.bop .sub (.var 5) (.call f_law_draw [(.var 0), (.var 6)])) (.nm 8) (.range1 (.var 2)) [] [7, 8])])]))]
theorem u_law_line__3 (s : Option Sl) (ρ : Sto) (K : Fl → Sto → Prop) : wSs b_law_line__3 (s :: ρ) K = wS (.ret (.tup [(.bi .tuple [(.var 4)]), (.bi .tuple [(.comp (.bop .sub (.var 5) (.call f_law_draw [(.var 0), (.var 6)])) (.nm 8) (.range1 (.var 2)) [] [7, 8])])])) (s :: ρ) K := ss_last _ _ _
def b_law_line__2 : List S := (.sett (.tup [(.nm 5), (.nm 6)]) (.tup [(.idx (.lst [(.const (.int 0)), (.neg (.bop .pow (.const (.int 10)) (.const (.int 6)))), (.const (.int 500))]) (.call f_law_draw [(.var 0), (.const (.int 3))])), (.idx (.lst [(.const (.int 1)), (.const (.int 10)), (.const (.int 200))]) (.call f_law_draw [(.var 0), (.const (.int 3))]))])) :: b_law_line__3
theorem u_law_line__2 (s : Option Sl) (ρ : Sto) (K : Fl → Sto → Prop) : wSs b_law_line__2 (s :: ρ) K = wS (.sett (.tup [(.nm 5), (.nm 6)]) (.tup [(.idx (.lst [(.const (.int 0)), (.neg (.bop .pow (.const (.int 10)) (.const (.int 6)))), (.const (.int 500))]) (.call f_law_draw [(.var 0), (.const (.int 3))])), (.idx (.lst [(.const (.int 1)), (.const (.int 10)), (.const (.int 200))]) (.call f_law_draw [(.var 0), (.const (.int 3))]))])) (s :: ρ) fun f ρ1 => nx f b_law_line__3 ρ1 K := ss_cons _ _
def b_law_line__1 : List S := (.setv 4 (.comp (.idx (.var 3) (.call f_law_draw [(.var 0), (.bi .len [(.var 3)])])) (.nm 8) (.range1 (.var 2)) [] [7, 8])) :: b_law_line__2
theorem u_law_line__1 (s : Option Sl) (ρ : Sto) (K : Fl → Sto → Prop) : wSs b_law_line__1 (s :: ρ) K = wS (.setv 4 (.comp (.idx (.var 3) (.call f_law_draw [(.var 0), (.bi .len [(.var 3)])])) (.nm 8) (.range1 (.var 2)) [] [7, 8])) (s :: ρ) fun f ρ1 => nx f b_law_line__2 ρ1 K := ss_cons _ _
def b_law_line : List S := (.sett (.tup [(.nm 2), (.nm 3)]) (.tup [(.bop .add (.const (.int 1)) (.call f_law_draw [(.var 0), (.var 1)])), (.comp (.call f_law_leg [(.var 0)]) (.nm 8) (.range1 (.bop .add (.const (.int 1)) (.call f_law_draw [(.var 0), (.const (.int 3))]))) [] [7, 8])])) :: b_law_line__1
theorem u_law_line (s : Option Sl) (ρ : Sto) (K : Fl → Sto → Prop) : wSs b_law_line (s :: ρ) K = wS (.sett (.tup [(.nm 2), (.nm 3)]) (.tup [(.bop .add (.const (.int 1)) (.call f_law_draw [(.var 0), (.var 1)])), (.comp (.call f_law_leg [(.var 0)]) (.nm 8) (.range1 (.bop .add (.const (.int 1)) (.call f_law_draw [(.var 0), (.const (.int 3))]))) [] [7, 8])])) (s :: ρ) fun f ρ1 => nx f b_law_line__1 ρ1 K := ss_cons _ _
def f_law_line : Fi := ⟨[true, false], evDef 9 b_law_line⟩
theorem o_law_line (a0 a1 : Option Sl) (Q : R → Sto → Prop) : wp (f_law_line.sf [a0, a1]) Q = wSs b_law_line [a0, a1, none, none, none, none, none, none, none] (kD 2 Q) := w_def (n := 9) (body := b_law_line) (ρa := [a0, a1]) (Q := Q)
theorem k_law_line (i : Nat) (x0 : Opd) (ρ : Sto) (Q : Opd → Sto → Prop) : wCall f_law_line [.slot i, x0] ρ Q = wHard ρ x0 fun d0 ρ0 => wLt (getS ρ0 i) fun k l => wp (f_law_line.sf [some (.mut .clean true l), some (.frz d0)]) fun r ρo => wBk 2 ρo fun l2 => Q (.val r) (ρ0.set i (some (.mut .dirt k l2))) := call_t2 rfl
def b_law_outs_2a__1 : List S := [(.app 6 (.bop .add (.idx (.var 6) (.neg (.const (.int 1)))) (.idx (.lst [(.const (.int 0)), (.call f_law_draw [(.var 0), (.const (.int 4))]), (.var 8), (.call f_law_draw [(.var 0), (.bop .add (.bop .mul (.const (.int 2)) (.var 3)) (.const (.int 2)))])]) (.call f_law_draw [(.var 0), (.const (.int 4))]))))]
theorem u_law_outs_2a__1 (s : Option Sl) (ρ : Sto) (K : Fl → Sto → Prop) : wSs b_law_outs_2a__1 (s :: ρ) K = wS (.app 6 (.bop .add (.idx (.var 6) (.neg (.const (.int 1)))) (.idx (.lst [(.const (.int 0)), (.call f_law_draw [(.var 0), (.const (.int 4))]), (.var 8), (.call f_law_draw [(.var 0), (.bop .add (.bop .mul (.const (.int 2)) (.var 3)) (.const (.int 2)))])]) (.call f_law_draw [(.var 0), (.const (.int 4))])))) (s :: ρ) K := ss_last _ _ _
def b_law_outs_2a : List S := (.setv 8 (.bop .add (.bop .sub (.var 3) (.var 5)) (.call f_law_draw [(.var 0), (.bop .add (.bop .sub (.var 5) (.var 4)) (.const (.int 1)))]))) :: b_law_outs_2a__1
theorem u_law_outs_2a (s : Option Sl) (ρ : Sto) (K : Fl → Sto → Prop) : wSs b_law_outs_2a (s :: ρ) K = wS (.setv 8 (.bop .add (.bop .sub (.var 3) (.var 5)) (.call f_law_draw [(.var 0), (.bop .add (.bop .sub (.var 5) (.var 4)) (.const (.int 1)))]))) (s :: ρ) fun f ρ1 => nx f b_law_outs_2a__1 ρ1 K := ss_cons _ _
def b_law_outs__3 : List S := [(.ret (.bi .tuple [(.var 6)]))]
theorem u_law_outs__3 (s : Option Sl) (ρ : Sto) (K : Fl → Sto → Prop) : wSs b_law_outs__3 (s :: ρ) K = wS (.ret (.bi .tuple [(.var 6)])) (s :: ρ) K := ss_last _ _ _
def b_law_outs__2 : List S := (.forr (.nm 7) (.range1 (.call f_law_draw [(.var 0), (.var 2)])) b_law_outs_2a) :: b_law_outs__3
theorem u_law_outs__2 (s : Option Sl) (ρ : Sto) (K : Fl → Sto → Prop) : wSs b_law_outs__2 (s :: ρ) K = wS (.forr (.nm 7) (.range1 (.call f_law_draw [(.var 0), (.var 2)])) b_law_outs_2a) (s :: ρ) fun f ρ1 => nx f b_law_outs__3 ρ1 K := ss_cons _ _
def b_law_outs__1 : List S := (.setv 6 (.lst [(.bop .add (.bi .maxs [(.idx (.var 1) (.const (.int 1)))]) (.call f_law_draw [(.var 0), (.idx (.lst [(.const (.int 1)), (.const (.int 9)), (.bop .add (.var 3) (.const (.int 9)))]) (.call f_law_draw [(.var 0), (.const (.int 3))]))]))])) :: b_law_outs__2
theorem u_law_outs__1 (s : Option Sl) (ρ : Sto) (K : Fl → Sto → Prop) : wSs b_law_outs__1 (s :: ρ) K = wS (.setv 6 (.lst [(.bop .add (.bi .maxs [(.idx (.var 1) (.const (.int 1)))]) (.call f_law_draw [(.var 0), (.idx (.lst [(.const (.int 1)), (.const (.int 9)), (.bop .add (.var 3) (.const (.int 9)))]) (.call f_law_draw [(.var 0), (.const (.int 3))]))]))])) (s :: ρ) fun f ρ1 => nx f b_law_outs__2 ρ1 K := ss_cons _ _
def b_law_outs : List S := (.sett (.tup [(.nm 3), (.nm 4), (.nm 5)]) (.idx (.idx (.var 1) (.const (.int 0))) (.call f_law_draw [(.var 0), (.bi .len [(.idx (.var 1) (.const (.int 0)))])]))) :: b_law_outs__1
theorem u_law_outs (s : Option Sl) (ρ : Sto) (K : Fl → Sto → Prop) : wSs b_law_outs (s :: ρ) K = wS (.sett (.tup [(.nm 3), (.nm 4), (.nm 5)]) (.idx (.idx (.var 1) (.const (.int 0))) (.call f_law_draw [(.var 0), (.bi .len [(.idx (.var 1) (.const (.int 0)))])]))) (s :: ρ) fun f ρ1 => nx f b_law_outs__1 ρ1 K := ss_cons _ _
def f_law_outs : Fi := ⟨[true, false, false], evDef 9 b_law_outs⟩
theorem o_law_outs (a0 a1 a2 : Option Sl) (Q : R → Sto → Prop) : wp (f_law_outs.sf [a0, a1, a2]) Q = wSs b_law_outs [a0, a1, a2, none, none, none, none, none, none] (kD 3 Q) := w_def (n := 9) (body := b_law_outs) (ρa := [a0, a1, a2]) (Q := Q)
theorem k_law_outs (i : Nat) (x0 x1 : Opd) (ρ : Sto) (Q : Opd → Sto → Prop) : wCall f_law_outs [.slot i, x0, x1] ρ Q = wHard ρ x0 fun d0 ρ0 => wHard ρ0 x1 fun d1 ρ1 => wLt (getS ρ1 i) fun k l => wp (f_law_outs.sf [some (.mut .clean true l), some (.frz d0), some (.frz d1)]) fun r ρo => wBk 3 ρo fun l2 => Q (.val r) (ρ1.set i (some (.mut .dirt k l2))) := call_t3 rfl
end Rx
set_option Elab.async false
set_option linter.all false
set_option maxHeartbeats 4000000
/-! SpD1: the laws' own drawing -/
namespace Rx
open PySem PySem.Spec L2
set_option maxRecDepth 100000
local macro_rules | `(tactic| simp_all? only [$xs,*]) => `(tactic| simp only [↓e_const, ↓e_bop, ↓e_neg, ↓e_cop, ↓e_ch2, ↓e_isN, ↓e_notN, ↓e_not, ↓e_and, ↓e_or, ↓e_ife, ↓e_idx, ↓e_slc, ↓e_asI, ↓e_rev, ↓e_tup, ↓e_lst, ↓e_call, ↓e_callk, ↓e_bi, ↓e_comp, ↓es_nil, ↓es_cons, ↓ts_nil, ↓ts_cons, ↓it_seq, ↓it_range1, ↓it_range2, ↓it_enum, ↓it_revd, ↓it_zipt, ↓it_zipf, ↓ss_nil, ↓ss_last, ↓s_setv, ↓s_sett, ↓s_par, ↓s_ext, ↓s_mt0, ↓mt0_l, ↓mt0_rev, ↓mt0_clr, ↓s_aug, ↓aug_i, ↓aug_l, ↓augL_l, ↓seti_l, ↓own_l, ↓s_seti, ↓s_expr, ↓app_l, ↓s_app, ↓s_iff, ↓s_whl, ↓s_for, ↓ret_v, ↓ret_s, ↓retS_l, ↓s_ret, ↓s_retN, ↓s_brk, ↓s_cont, ↓s_pass, ↓s_never, ↓nx_n, ↓nx_r, ↓nx_b, ↓nx_c, ↓fl_n, ↓fl_c, ↓fl_b, ↓fl_r, ↓vl_v, ↓vl_s, ↓putr_f, ↓putr_l, ↓tg_n, ↓tg_t, ↓tgs_n, ↓tgs_c, ↓pa_n, ↓pa_c, ↓par_n, ↓par_v, ↓par_s, ↓rd_v, ↓rd_s, ↓rdS_m, ↓ri_v, ↓hd_f, ↓hd_l, ↓hd_s, ↓hs_c, ↓hs_l, ↓hds_n, ↓hds_c, ↓rds_n, ↓rds_c, ↓ab_v, ↓sq_l, ↓sq_t, ↓pd_n, ↓pd_c, ↓ix_z, ↓ix_s, ↓if_t, ↓if_f, ↓if_n, ↓if_d, ↓no_n, ↓no_i, ↓no_b, ↓no_s, ↓no_t, ↓no_l, ↓no_r, ↓bi_add, ↓bi_sub, ↓bi_mul, ↓bi_div, ↓bi_mod, ↓bi_pow, ↓wl_ixN, ↓b_ii, ↓b_ss, ↓b_ll, ↓b_lf, ↓b_fl, ↓b_ff, ↓b_tt, ↓b_lm, ↓b_tm, ↓c_eqi, ↓c_nei, ↓c_lt, ↓c_le, ↓c_gt, ↓c_ge, ↓id_t, ↓id_l, ↓id_o, ↓wl_at0, ↓wl_at1, ↓wl_at2, ↓wl_at3, ↓at_map, ↓sl_t, ↓sl_l, ↓sl_o, ↓oi_n, ↓oi_i, ↓bl_len, ↓len_l, ↓len_f, ↓len_t, ↓len_s, ↓bl_maxs, ↓bl_mins, ↓bl_max2, ↓bl_min2, ↓bl_abs, ↓bl_sum, ↓bl_sumf, ↓bl_all, ↓bl_any, ↓any_map, ↓all_map, ↓bl_listl, ↓bl_listf, ↓bl_listt, ↓bl_tupl, ↓bl_tupf, ↓bl_tupt, ↓bl_intb, ↓bl_inti, ↓bl_str, ↓bl_isi, ↓bl_sorted, ↓bl_repr, ↓max_t, ↓max_l, ↓max_o, ↓min_t, ↓min_l, ↓min_o, ↓kd_r1, ↓kd_r2, ↓kd_r3, ↓kd_r4, ↓kd_r5, ↓kd_r6, ↓kd_r7, ↓ns_1, ↓ns_2, ↓ns_3, ↓ns_4, ↓ns_5, ↓ns_6, ↓ns_7, ↓ns_8, ↓lt_c, ↓lt_d, ↓bk_1, ↓bk_2, ↓bk_3, ↓bk_4, ↓bk_5, ↓bk_6, ↓bk_7, ↓bk_8, ↓wp_ret, ↓wl_some, ↓turn_u, ↓Vf_0, ↓Vt_0, ↓Vm_0, ↓Vf_1, ↓Vt_1, ↓Vm_1, ↓Vf_2, ↓Vt_2, ↓Vm_2, ↓Vf_3, ↓Vt_3, ↓Vm_3, ↓Vf_4, ↓Vt_4, ↓Vm_4, ↓Vf_5, ↓Vt_5, ↓Vm_5, ↓Vf_6, ↓Vt_6, ↓Vm_6, ↓Vf_7, ↓Vt_7, ↓Vm_7, ↓Vf_8, ↓Vt_8, ↓Vm_8, ↓Vf_9, ↓Vt_9, ↓Vm_9, ↓Vf_10, ↓Vt_10, ↓Vm_10, ↓Vf_11, ↓Vt_11, ↓Vm_11, ↓Vf_12, ↓Vt_12, ↓Vm_12, ↓Vf_13, ↓Vt_13, ↓Vm_13, ↓Vf_14, ↓Vt_14, ↓Vm_14, ↓Vf_15, ↓Vt_15, ↓Vm_15, ↓Vf_16, ↓Vt_16, ↓Vm_16, ↓Vf_17, ↓Vt_17, ↓Vm_17, ↓Vf_18, ↓Vt_18, ↓Vm_18, ↓Vf_19, ↓Vt_19, ↓Vm_19, ↓Vf_20, ↓Vt_20, ↓Vm_20, ↓Vf_21, ↓Vt_21, ↓Vm_21, ↓Vf_22, ↓Vt_22, ↓Vm_22, ↓Vf_23, ↓Vt_23, ↓Vm_23, ↓Vf_24, ↓Vt_24, ↓Vm_24, ↓Vf_25, ↓Vt_25, ↓Vm_25, ↓Vf_26, ↓Vt_26, ↓Vm_26, ↓Vf_27, ↓Vt_27, ↓Vm_27, ↓Vf_28, ↓Vt_28, ↓Vm_28, ↓Vf_29, ↓Vt_29, ↓Vm_29, ↓Vf_30, ↓Vt_30, ↓Vm_30, ↓Vf_31, ↓Vt_31, ↓Vm_31, e_const, e_bop, e_neg, e_cop, e_ch2, e_isN, e_notN, e_not, e_and, e_or, e_ife, e_idx, e_slc, e_asI, e_rev, e_tup, e_lst, e_call, e_callk, e_bi, e_comp, es_nil, es_cons, ts_nil, ts_cons, it_seq, it_range1, it_range2, it_enum, it_revd, it_zipt, it_zipf, ss_nil, ss_last, s_setv, s_sett, s_par, s_ext, s_mt0, mt0_l, mt0_rev, mt0_clr, s_aug, aug_i, aug_l, augL_l, seti_l, own_l, s_seti, s_expr, app_l, s_app, s_iff, s_whl, s_for, ret_v, ret_s, retS_l, s_ret, s_retN, s_brk, s_cont, s_pass, s_never, nx_n, nx_r, nx_b, nx_c, fl_n, fl_c, fl_b, fl_r, vl_v, vl_s, putr_f, putr_l, tg_n, tg_t, tgs_n, tgs_c, pa_n, pa_c, par_n, par_v, par_s, rd_v, rd_s, rdS_m, ri_v, hd_f, hd_l, hd_s, hs_c, hs_l, hds_n, hds_c, rds_n, rds_c, ab_v, sq_l, sq_t, pd_n, pd_c, ix_z, ix_s, if_t, if_f, if_n, if_d, no_n, no_i, no_b, no_s, no_t, no_l, no_r, bi_add, bi_sub, bi_mul, bi_div, bi_mod, bi_pow, wl_ixN, b_ii, b_ss, b_ll, b_lf, b_fl, b_ff, b_tt, b_lm, b_tm, c_eqi, c_nei, c_lt, c_le, c_gt, c_ge, id_t, id_l, id_o, wl_at0, wl_at1, wl_at2, wl_at3, at_map, sl_t, sl_l, sl_o, oi_n, oi_i, bl_len, len_l, len_f, len_t, len_s, bl_maxs, bl_mins, bl_max2, bl_min2, bl_abs, bl_sum, bl_sumf, bl_all, bl_any, any_map, all_map, bl_listl, bl_listf, bl_listt, bl_tupl, bl_tupf, bl_tupt, bl_intb, bl_inti, bl_str, bl_isi, bl_sorted, bl_repr, max_t, max_l, max_o, min_t, min_l, min_o, kd_r1, kd_r2, kd_r3, kd_r4, kd_r5, kd_r6, kd_r7, ns_1, ns_2, ns_3, ns_4, ns_5, ns_6, ns_7, ns_8, lt_c, lt_d, bk_1, bk_2, bk_3, bk_4, bk_5, bk_6, bk_7, bk_8, wp_ret, wl_some, turn_u, Vf_0, Vt_0, Vm_0, Vf_1, Vt_1, Vm_1, Vf_2, Vt_2, Vm_2, Vf_3, Vt_3, Vm_3, Vf_4, Vt_4, Vm_4, Vf_5, Vt_5, Vm_5, Vf_6, Vt_6, Vm_6, Vf_7, Vt_7, Vm_7, Vf_8, Vt_8, Vm_8, Vf_9, Vt_9, Vm_9, Vf_10, Vt_10, Vm_10, Vf_11, Vt_11, Vm_11, Vf_12, Vt_12, Vm_12, Vf_13, Vt_13, Vm_13, Vf_14, Vt_14, Vm_14, Vf_15, Vt_15, Vm_15, Vf_16, Vt_16, Vm_16, Vf_17, Vt_17, Vm_17, Vf_18, Vt_18, Vm_18, Vf_19, Vt_19, Vm_19, Vf_20, Vt_20, Vm_20, Vf_21, Vt_21, Vm_21, Vf_22, Vt_22, Vm_22, Vf_23, Vt_23, Vm_23, Vf_24, Vt_24, Vm_24, Vf_25, Vt_25, Vm_25, Vf_26, Vt_26, Vm_26, Vf_27, Vt_27, Vm_27, Vf_28, Vt_28, Vm_28, Vf_29, Vt_29, Vm_29, Vf_30, Vt_30, Vm_30, Vf_31, Vt_31, Vm_31, put_k, set_c, set_d, set_b, set_f, cln_nil, cln_n, cln_f, cln_m, cln_l, cln_d, szi, szl, dv_t, pw_t, sml_l, sml_r, decide_eq_true_eq, Int.reduceMul, Int.reduceMod, Int.reduceAdd, Int.reduceSub, Int.reduceDiv, Int.reduceNeg, Int.natAbs_zero, un_nil, un_n, un_f, un_m, fz_nil, fz_n, fz_f, fz_m, fz_l, fz_d, nl_nil, nl_n, nl_f, nl_m, nl_l, nl_d, mf_nil, mf_n, mf_f, mf_m, mf_l, mf_d, df_nil, df_n, df_f, df_m, df_l, df_d, ik_n, ik_f, ik_m, ko_n, ko_f, ko_k, ko_o, eqv_ii, cut_m, enum_map, zip_map, ints_zero, wi_n, wi_c, ba_n, ba_c, toD_f, toD_l, slo_f, slo_l, sc_i, sc_b, sc_s, sc_n, sc_l, sc_t, scr_f, scr_l, Bool.and_self, Bool.true_and, Bool.and_true, List.all_cons, List.all_nil, Int.toNat_natCast, Int.natCast_nonneg, Int.reduceLT, Int.reduceLE, Int.cast_ofNat_Int, c_eqS, c_neS, shp_int, shp_bool, shp_none, shp_list, shp_tuple, shpl_nil, shpl_cons, shpl_app, shpl_map, shp_leg, shp_road, implies_true, and_self, List.length_cons, List.length_nil, List.length_map, List.cons_append, List.nil_append, Nat.reduceAdd, Nat.reduceLT, Nat.reduceLeDiff, Nat.zero_add, Int.reduceNeg, Int.reducePow, Int.reduceToNat, true_and, and_true, reduceIte, eq_self, decide_true, decide_false, Bool.not_true, Bool.not_false, Bool.false_eq_true, Bool.true_eq_false, false_implies, forall_const, not_true_eq_false, not_false_eq_true, G_0, L_0, G_1, L_1, G_2, L_2, G_3, L_3, G_4, L_4, G_5, L_5, G_6, L_6, G_7, L_7, G_8, L_8, G_9, L_9, G_10, L_10, G_11, L_11, G_12, L_12, G_13, L_13, G_14, L_14, G_15, L_15, G_16, L_16, G_17, L_17, G_18, L_18, G_19, L_19, G_20, L_20, G_21, L_21, G_22, L_22, G_23, L_23, G_24, L_24, G_25, L_25, G_26, L_26, G_27, L_27, G_28, L_28, G_29, L_29, G_30, L_30, G_31, L_31, $xs,*])
local macro_rules | `(tactic| simp_all? [$xs,*]) => `(tactic| simp only [↓e_const, ↓e_bop, ↓e_neg, ↓e_cop, ↓e_ch2, ↓e_isN, ↓e_notN, ↓e_not, ↓e_and, ↓e_or, ↓e_ife, ↓e_idx, ↓e_slc, ↓e_asI, ↓e_rev, ↓e_tup, ↓e_lst, ↓e_call, ↓e_callk, ↓e_bi, ↓e_comp, ↓es_nil, ↓es_cons, ↓ts_nil, ↓ts_cons, ↓it_seq, ↓it_range1, ↓it_range2, ↓it_enum, ↓it_revd, ↓it_zipt, ↓it_zipf, ↓ss_nil, ↓ss_last, ↓s_setv, ↓s_sett, ↓s_par, ↓s_ext, ↓s_mt0, ↓mt0_l, ↓mt0_rev, ↓mt0_clr, ↓s_aug, ↓aug_i, ↓aug_l, ↓augL_l, ↓seti_l, ↓own_l, ↓s_seti, ↓s_expr, ↓app_l, ↓s_app, ↓s_iff, ↓s_whl, ↓s_for, ↓ret_v, ↓ret_s, ↓retS_l, ↓s_ret, ↓s_retN, ↓s_brk, ↓s_cont, ↓s_pass, ↓s_never, ↓nx_n, ↓nx_r, ↓nx_b, ↓nx_c, ↓fl_n, ↓fl_c, ↓fl_b, ↓fl_r, ↓vl_v, ↓vl_s, ↓putr_f, ↓putr_l, ↓tg_n, ↓tg_t, ↓tgs_n, ↓tgs_c, ↓pa_n, ↓pa_c, ↓par_n, ↓par_v, ↓par_s, ↓rd_v, ↓rd_s, ↓rdS_m, ↓ri_v, ↓hd_f, ↓hd_l, ↓hd_s, ↓hs_c, ↓hs_l, ↓hds_n, ↓hds_c, ↓rds_n, ↓rds_c, ↓ab_v, ↓sq_l, ↓sq_t, ↓pd_n, ↓pd_c, ↓ix_z, ↓ix_s, ↓if_t, ↓if_f, ↓if_n, ↓if_d, ↓no_n, ↓no_i, ↓no_b, ↓no_s, ↓no_t, ↓no_l, ↓no_r, ↓bi_add, ↓bi_sub, ↓bi_mul, ↓bi_div, ↓bi_mod, ↓bi_pow, ↓wl_ixN, ↓b_ii, ↓b_ss, ↓b_ll, ↓b_lf, ↓b_fl, ↓b_ff, ↓b_tt, ↓b_lm, ↓b_tm, ↓c_eqi, ↓c_nei, ↓c_lt, ↓c_le, ↓c_gt, ↓c_ge, ↓id_t, ↓id_l, ↓id_o, ↓wl_at0, ↓wl_at1, ↓wl_at2, ↓wl_at3, ↓at_map, ↓sl_t, ↓sl_l, ↓sl_o, ↓oi_n, ↓oi_i, ↓bl_len, ↓len_l, ↓len_f, ↓len_t, ↓len_s, ↓bl_maxs, ↓bl_mins, ↓bl_max2, ↓bl_min2, ↓bl_abs, ↓bl_sum, ↓bl_sumf, ↓bl_all, ↓bl_any, ↓any_map, ↓all_map, ↓bl_listl, ↓bl_listf, ↓bl_listt, ↓bl_tupl, ↓bl_tupf, ↓bl_tupt, ↓bl_intb, ↓bl_inti, ↓bl_str, ↓bl_isi, ↓bl_sorted, ↓bl_repr, ↓max_t, ↓max_l, ↓max_o, ↓min_t, ↓min_l, ↓min_o, ↓kd_r1, ↓kd_r2, ↓kd_r3, ↓kd_r4, ↓kd_r5, ↓kd_r6, ↓kd_r7, ↓ns_1, ↓ns_2, ↓ns_3, ↓ns_4, ↓ns_5, ↓ns_6, ↓ns_7, ↓ns_8, ↓lt_c, ↓lt_d, ↓bk_1, ↓bk_2, ↓bk_3, ↓bk_4, ↓bk_5, ↓bk_6, ↓bk_7, ↓bk_8, ↓wp_ret, ↓wl_some, ↓turn_u, ↓Vf_0, ↓Vt_0, ↓Vm_0, ↓Vf_1, ↓Vt_1, ↓Vm_1, ↓Vf_2, ↓Vt_2, ↓Vm_2, ↓Vf_3, ↓Vt_3, ↓Vm_3, ↓Vf_4, ↓Vt_4, ↓Vm_4, ↓Vf_5, ↓Vt_5, ↓Vm_5, ↓Vf_6, ↓Vt_6, ↓Vm_6, ↓Vf_7, ↓Vt_7, ↓Vm_7, ↓Vf_8, ↓Vt_8, ↓Vm_8, ↓Vf_9, ↓Vt_9, ↓Vm_9, ↓Vf_10, ↓Vt_10, ↓Vm_10, ↓Vf_11, ↓Vt_11, ↓Vm_11, ↓Vf_12, ↓Vt_12, ↓Vm_12, ↓Vf_13, ↓Vt_13, ↓Vm_13, ↓Vf_14, ↓Vt_14, ↓Vm_14, ↓Vf_15, ↓Vt_15, ↓Vm_15, ↓Vf_16, ↓Vt_16, ↓Vm_16, ↓Vf_17, ↓Vt_17, ↓Vm_17, ↓Vf_18, ↓Vt_18, ↓Vm_18, ↓Vf_19, ↓Vt_19, ↓Vm_19, ↓Vf_20, ↓Vt_20, ↓Vm_20, ↓Vf_21, ↓Vt_21, ↓Vm_21, ↓Vf_22, ↓Vt_22, ↓Vm_22, ↓Vf_23, ↓Vt_23, ↓Vm_23, ↓Vf_24, ↓Vt_24, ↓Vm_24, ↓Vf_25, ↓Vt_25, ↓Vm_25, ↓Vf_26, ↓Vt_26, ↓Vm_26, ↓Vf_27, ↓Vt_27, ↓Vm_27, ↓Vf_28, ↓Vt_28, ↓Vm_28, ↓Vf_29, ↓Vt_29, ↓Vm_29, ↓Vf_30, ↓Vt_30, ↓Vm_30, ↓Vf_31, ↓Vt_31, ↓Vm_31, e_const, e_bop, e_neg, e_cop, e_ch2, e_isN, e_notN, e_not, e_and, e_or, e_ife, e_idx, e_slc, e_asI, e_rev, e_tup, e_lst, e_call, e_callk, e_bi, e_comp, es_nil, es_cons, ts_nil, ts_cons, it_seq, it_range1, it_range2, it_enum, it_revd, it_zipt, it_zipf, ss_nil, ss_last, s_setv, s_sett, s_par, s_ext, s_mt0, mt0_l, mt0_rev, mt0_clr, s_aug, aug_i, aug_l, augL_l, seti_l, own_l, s_seti, s_expr, app_l, s_app, s_iff, s_whl, s_for, ret_v, ret_s, retS_l, s_ret, s_retN, s_brk, s_cont, s_pass, s_never, nx_n, nx_r, nx_b, nx_c, fl_n, fl_c, fl_b, fl_r, vl_v, vl_s, putr_f, putr_l, tg_n, tg_t, tgs_n, tgs_c, pa_n, pa_c, par_n, par_v, par_s, rd_v, rd_s, rdS_m, ri_v, hd_f, hd_l, hd_s, hs_c, hs_l, hds_n, hds_c, rds_n, rds_c, ab_v, sq_l, sq_t, pd_n, pd_c, ix_z, ix_s, if_t, if_f, if_n, if_d, no_n, no_i, no_b, no_s, no_t, no_l, no_r, bi_add, bi_sub, bi_mul, bi_div, bi_mod, bi_pow, wl_ixN, b_ii, b_ss, b_ll, b_lf, b_fl, b_ff, b_tt, b_lm, b_tm, c_eqi, c_nei, c_lt, c_le, c_gt, c_ge, id_t, id_l, id_o, wl_at0, wl_at1, wl_at2, wl_at3, at_map, sl_t, sl_l, sl_o, oi_n, oi_i, bl_len, len_l, len_f, len_t, len_s, bl_maxs, bl_mins, bl_max2, bl_min2, bl_abs, bl_sum, bl_sumf, bl_all, bl_any, any_map, all_map, bl_listl, bl_listf, bl_listt, bl_tupl, bl_tupf, bl_tupt, bl_intb, bl_inti, bl_str, bl_isi, bl_sorted, bl_repr, max_t, max_l, max_o, min_t, min_l, min_o, kd_r1, kd_r2, kd_r3, kd_r4, kd_r5, kd_r6, kd_r7, ns_1, ns_2, ns_3, ns_4, ns_5, ns_6, ns_7, ns_8, lt_c, lt_d, bk_1, bk_2, bk_3, bk_4, bk_5, bk_6, bk_7, bk_8, wp_ret, wl_some, turn_u, Vf_0, Vt_0, Vm_0, Vf_1, Vt_1, Vm_1, Vf_2, Vt_2, Vm_2, Vf_3, Vt_3, Vm_3, Vf_4, Vt_4, Vm_4, Vf_5, Vt_5, Vm_5, Vf_6, Vt_6, Vm_6, Vf_7, Vt_7, Vm_7, Vf_8, Vt_8, Vm_8, Vf_9, Vt_9, Vm_9, Vf_10, Vt_10, Vm_10, Vf_11, Vt_11, Vm_11, Vf_12, Vt_12, Vm_12, Vf_13, Vt_13, Vm_13, Vf_14, Vt_14, Vm_14, Vf_15, Vt_15, Vm_15, Vf_16, Vt_16, Vm_16, Vf_17, Vt_17, Vm_17, Vf_18, Vt_18, Vm_18, Vf_19, Vt_19, Vm_19, Vf_20, Vt_20, Vm_20, Vf_21, Vt_21, Vm_21, Vf_22, Vt_22, Vm_22, Vf_23, Vt_23, Vm_23, Vf_24, Vt_24, Vm_24, Vf_25, Vt_25, Vm_25, Vf_26, Vt_26, Vm_26, Vf_27, Vt_27, Vm_27, Vf_28, Vt_28, Vm_28, Vf_29, Vt_29, Vm_29, Vf_30, Vt_30, Vm_30, Vf_31, Vt_31, Vm_31, put_k, set_c, set_d, set_b, set_f, cln_nil, cln_n, cln_f, cln_m, cln_l, cln_d, szi, szl, dv_t, pw_t, sml_l, sml_r, decide_eq_true_eq, Int.reduceMul, Int.reduceMod, Int.reduceAdd, Int.reduceSub, Int.reduceDiv, Int.reduceNeg, Int.natAbs_zero, un_nil, un_n, un_f, un_m, fz_nil, fz_n, fz_f, fz_m, fz_l, fz_d, nl_nil, nl_n, nl_f, nl_m, nl_l, nl_d, mf_nil, mf_n, mf_f, mf_m, mf_l, mf_d, df_nil, df_n, df_f, df_m, df_l, df_d, ik_n, ik_f, ik_m, ko_n, ko_f, ko_k, ko_o, eqv_ii, cut_m, enum_map, zip_map, ints_zero, wi_n, wi_c, ba_n, ba_c, toD_f, toD_l, slo_f, slo_l, sc_i, sc_b, sc_s, sc_n, sc_l, sc_t, scr_f, scr_l, Bool.and_self, Bool.true_and, Bool.and_true, List.all_cons, List.all_nil, Int.toNat_natCast, Int.natCast_nonneg, Int.reduceLT, Int.reduceLE, Int.cast_ofNat_Int, c_eqS, c_neS, shp_int, shp_bool, shp_none, shp_list, shp_tuple, shpl_nil, shpl_cons, shpl_app, shpl_map, shp_leg, shp_road, implies_true, and_self, List.length_cons, List.length_nil, List.length_map, List.cons_append, List.nil_append, Nat.reduceAdd, Nat.reduceLT, Nat.reduceLeDiff, Nat.zero_add, Int.reduceNeg, Int.reducePow, Int.reduceToNat, true_and, and_true, reduceIte, eq_self, decide_true, decide_false, Bool.not_true, Bool.not_false, Bool.false_eq_true, Bool.true_eq_false, false_implies, forall_const, not_true_eq_false, not_false_eq_true, G_0, L_0, G_1, L_1, G_2, L_2, G_3, L_3, G_4, L_4, G_5, L_5, G_6, L_6, G_7, L_7, G_8, L_8, G_9, L_9, G_10, L_10, G_11, L_11, G_12, L_12, G_13, L_13, G_14, L_14, G_15, L_15, G_16, L_16, G_17, L_17, G_18, L_18, G_19, L_19, G_20, L_20, G_21, L_21, G_22, L_22, G_23, L_23, G_24, L_24, G_25, L_25, G_26, L_26, G_27, L_27, G_28, L_28, G_29, L_29, G_30, L_30, G_31, L_31, cln_x, un_x, fz_x, nl_x, mf_x, df_x, ik_x, ko_x, $xs,*])
structure Tp where
  a : Int
  b : Int
  c : Int
  ha : 0 ≤ a
  hb : 0 ≤ b ∧ b < 2 ^ 62
  hc : 0 ≤ c
def tp (t : Tp) : List D := [.int t.a, .int t.b, .int t.c]
/-- a tape in a slot of another's, of one's own -/
abbrev tS (t : Tp) : Option Sl := some (.mut .clean true (tp t))
abbrev tO (t : Tp) : Option Sl := some (.mut .clean false (tp t))
theorem tp_sc (t : Tp) : (tp t).all isScal = true := rfl
theorem draw_w {t : Tp} {n : Int} {Q : R → Sto → Prop} (hn : 0 < n) (hn' : n < 2 ^ 64) (hc : t.c < 2 ^ 40) (h : ∀ i t', 0 ≤ i → i < n → t'.c ≤ t.c + 1 → Q (.frz (.int i)) [tS t', none]) :
    wp (f_law_draw.sf [tS t, some (.frz (.int n))]) Q := by
  obtain ⟨a, b, c, ha, hb, hc0⟩ := t
  simp only [tS, tp] at h hc ⊢
  simp_all? only [o_law_draw, ↓u_law_draw_0a__2, ↓u_law_draw_0a__1, ↓u_law_draw_0a, ↓u_law_draw__5, ↓u_law_draw__4, ↓u_law_draw__3, ↓u_law_draw__2, ↓u_law_draw__1, ↓u_law_draw]
  refine ⟨fun h0 => ⟨hn, dv_of hn hn', h (a % n) ⟨a / n, b, c, Int.ediv_nonneg ha (by omega), hb, hc0⟩ (Int.emod_nonneg _ (by omega)) (Int.emod_lt_of_pos _ hn) (by show c ≤ c + 1; omega)⟩, fun h0 => ?_⟩
  have eb : (b + 39373 * (c + 1)).natAbs < 2 ^ 64 := by omega
  generalize (b + 39373 * (c + 1)) ^ 5 = z0
  have ex : 0 ≤ z0 % 2147483647 ∧ z0 % 2147483647 < 2147483647 := by omega
  generalize z0 % 2147483647 = x at ex
  generalize (x + (c + 1)) * (x % 40009 + 7 + (c + 1)) = y0
  have ey : 0 ≤ y0 % 2147483629 ∧ y0 % 2147483629 < 2147483629 := by omega
  generalize y0 % 2147483629 = y at ey
  generalize b / 2147483647 + y * 40009 + (c + 1) = w0
  have ew : 0 ≤ w0 % 2305843009213693951 ∧ w0 % 2305843009213693951 < 2305843009213693951 := by omega
  generalize w0 % 2305843009213693951 = w at ew
  generalize (y * 48271 + w * 39373 + x) % 2305843009213693921 / 64 = v
  refine ⟨⟨by omega, by omega, eb⟩, .inl (by omega), hn, h (v % n) ⟨a, b, c + 1, ha, hb, by omega⟩ (Int.emod_nonneg _ (by omega)) (Int.emod_lt_of_pos _ hn) (by show c + 1 ≤ c + 1; omega)⟩
theorem tape_w {cs : List Int} {k : Nat} (hk : k < cs.length) (hk' : k < 100) {Q : R → Sto → Prop} (h : ∀ t : Tp, t.c = 0 → Q (.lst (tp t)) [none, none]) :
    wp (f_law_tape.sf [some (.frz (.list (cs.map .int))), some (.frz (.int k))]) Q := by
  simp_all? only [o_law_tape, ↓u_law_tape__1, ↓u_law_tape, List.length_map]
  refine ⟨fun _ => ?_, fun z => absurd (show (k : Int) < cs.length by omega) z⟩
  generalize ix cs k = x
  refine ⟨⟨by omega, by omega⟩, .inr (by split <;> omega), h ⟨(x.natAbs : Int) * (if 1000000000000000000 ≤ (x.natAbs : Int) then 1 else 0), x % 2305843009213693951 + 39373 * k + 17, 0, ?_, by omega, by omega⟩ rfl⟩
  split <;> omega
theorem leg_w {t : Tp} {Q : R → Sto → Prop} (hc : t.c + 10 ≤ 2 ^ 40) (h : ∀ l t', LegOk l → l.full ≤ 300000 → t'.c ≤ t.c + 10 → Q (.frz (legD l)) [tS t']) :
    wp (f_law_leg.sf [tS t]) Q := by
  simp_all? only [o_law_leg, ↓u_law_leg__3, ↓u_law_leg__2, ↓u_law_leg__1, ↓u_law_leg, k_law_draw]
  (refine draw_w (by omega) (by omega) (by omega) fun i1 t1 ai1 bi1 ct1 => ?_); simp_all? only [o_law_leg, ↓u_law_leg__3, ↓u_law_leg__2, ↓u_law_leg__1, ↓u_law_leg, k_law_draw]
  (refine draw_w (by omega) (by omega) (by omega) fun i2 t2 ai2 bi2 ct2 => ?_); simp_all? only [o_law_leg, ↓u_law_leg__3, ↓u_law_leg__2, ↓u_law_leg__1, ↓u_law_leg, k_law_draw]
  refine idx3 ai2 bi2 fun x hx => ?_
  (refine draw_w (by omega) (by omega) (by omega) fun i3 t3 ai3 bi3 ct3 => ?_); simp_all? only [o_law_leg, ↓u_law_leg__3, ↓u_law_leg__2, ↓u_law_leg__1, ↓u_law_leg, k_law_draw]
  (refine draw_w (by omega) (by omega) (by omega) fun i4 t4 ai4 bi4 ct4 => ?_); simp_all? only [o_law_leg, ↓u_law_leg__3, ↓u_law_leg__2, ↓u_law_leg__1, ↓u_law_leg, k_law_draw]
  (refine draw_w (by omega) (by omega) (by omega) fun i5 t5 ai5 bi5 ct5 => ?_); simp_all? only [o_law_leg, ↓u_law_leg__3, ↓u_law_leg__2, ↓u_law_leg__1, ↓u_law_leg, k_law_draw]
  refine idx6 ai1 bi1 fun y hy => ?_
  (refine draw_w (by omega) (by omega) (by omega) fun i6 t6 ai6 bi6 ct6 => ?_); simp_all? only [o_law_leg, ↓u_law_leg__3, ↓u_law_leg__2, ↓u_law_leg__1, ↓u_law_leg, k_law_draw]
  (refine draw_w (by omega) (by omega) (by omega) fun i7 t7 ai7 bi7 ct7 => ?_); simp_all? only [o_law_leg, ↓u_law_leg__3, ↓u_law_leg__2, ↓u_law_leg__1, ↓u_law_leg, k_law_draw]
  (refine draw_w (by omega) (by omega) (by omega) fun i8 t8 ai8 bi8 ct8 => ?_); simp_all? only [o_law_leg, ↓u_law_leg__3, ↓u_law_leg__2, ↓u_law_leg__1, ↓u_law_leg, k_law_draw]
  (refine draw_w (by omega) (by omega) (by omega) fun i9 t9 ai9 bi9 ct9 => ?_); simp_all? only [o_law_leg, ↓u_law_leg__3, ↓u_law_leg__2, ↓u_law_leg__1, ↓u_law_leg, k_law_draw]
  refine idx6 ai9 bi9 fun z hz => ?_
  simp_all? only [o_law_leg, ↓u_law_leg__3, ↓u_law_leg__2, ↓u_law_leg__1, ↓u_law_leg, k_law_draw]
  exact h ⟨1 + i3 + z, y, 1 + i3⟩ t9 ⟨by show 1 ≤ y; omega, by show y ≤ 1 + i3; omega, by show 1 + i3 ≤ 1 + i3 + z; omega, by show 1 + i3 + z ≤ 1000000; omega⟩ (by show 1 + i3 + z ≤ 300000; omega) (by omega)
end Rx
set_option Elab.async false
set_option linter.all false
set_option maxHeartbeats 4000000
/-! SpD2: roads drawn -/
namespace Rx
open PySem PySem.Spec L2
set_option maxRecDepth 100000
local macro_rules | `(tactic| simp_all? only [$xs,*]) => `(tactic| simp only [↓e_const, ↓e_bop, ↓e_neg, ↓e_cop, ↓e_ch2, ↓e_isN, ↓e_notN, ↓e_not, ↓e_and, ↓e_or, ↓e_ife, ↓e_idx, ↓e_slc, ↓e_asI, ↓e_rev, ↓e_tup, ↓e_lst, ↓e_call, ↓e_callk, ↓e_bi, ↓e_comp, ↓es_nil, ↓es_cons, ↓ts_nil, ↓ts_cons, ↓it_seq, ↓it_range1, ↓it_range2, ↓it_enum, ↓it_revd, ↓it_zipt, ↓it_zipf, ↓ss_nil, ↓ss_last, ↓s_setv, ↓s_sett, ↓s_par, ↓s_ext, ↓s_mt0, ↓mt0_l, ↓mt0_rev, ↓mt0_clr, ↓s_aug, ↓aug_i, ↓aug_l, ↓augL_l, ↓seti_l, ↓own_l, ↓s_seti, ↓s_expr, ↓app_l, ↓s_app, ↓s_iff, ↓s_whl, ↓s_for, ↓ret_v, ↓ret_s, ↓retS_l, ↓s_ret, ↓s_retN, ↓s_brk, ↓s_cont, ↓s_pass, ↓s_never, ↓nx_n, ↓nx_r, ↓nx_b, ↓nx_c, ↓fl_n, ↓fl_c, ↓fl_b, ↓fl_r, ↓vl_v, ↓vl_s, ↓putr_f, ↓putr_l, ↓tg_n, ↓tg_t, ↓tgs_n, ↓tgs_c, ↓pa_n, ↓pa_c, ↓par_n, ↓par_v, ↓par_s, ↓rd_v, ↓rd_s, ↓rdS_m, ↓ri_v, ↓hd_f, ↓hd_l, ↓hd_s, ↓hs_c, ↓hs_l, ↓hds_n, ↓hds_c, ↓rds_n, ↓rds_c, ↓ab_v, ↓sq_l, ↓sq_t, ↓pd_n, ↓pd_c, ↓ix_z, ↓ix_s, ↓if_t, ↓if_f, ↓if_n, ↓if_d, ↓no_n, ↓no_i, ↓no_b, ↓no_s, ↓no_t, ↓no_l, ↓no_r, ↓bi_add, ↓bi_sub, ↓bi_mul, ↓bi_div, ↓bi_mod, ↓bi_pow, ↓wl_ixN, ↓b_ii, ↓b_ss, ↓b_ll, ↓b_lf, ↓b_fl, ↓b_ff, ↓b_tt, ↓b_lm, ↓b_tm, ↓c_eqi, ↓c_nei, ↓c_lt, ↓c_le, ↓c_gt, ↓c_ge, ↓id_t, ↓id_l, ↓id_o, ↓wl_at0, ↓wl_at1, ↓wl_at2, ↓wl_at3, ↓at_map, ↓sl_t, ↓sl_l, ↓sl_o, ↓oi_n, ↓oi_i, ↓bl_len, ↓len_l, ↓len_f, ↓len_t, ↓len_s, ↓bl_maxs, ↓bl_mins, ↓bl_max2, ↓bl_min2, ↓bl_abs, ↓bl_sum, ↓bl_sumf, ↓bl_all, ↓bl_any, ↓any_map, ↓all_map, ↓bl_listl, ↓bl_listf, ↓bl_listt, ↓bl_tupl, ↓bl_tupf, ↓bl_tupt, ↓bl_intb, ↓bl_inti, ↓bl_str, ↓bl_isi, ↓bl_sorted, ↓bl_repr, ↓max_t, ↓max_l, ↓max_o, ↓min_t, ↓min_l, ↓min_o, ↓kd_r1, ↓kd_r2, ↓kd_r3, ↓kd_r4, ↓kd_r5, ↓kd_r6, ↓kd_r7, ↓ns_1, ↓ns_2, ↓ns_3, ↓ns_4, ↓ns_5, ↓ns_6, ↓ns_7, ↓ns_8, ↓lt_c, ↓lt_d, ↓bk_1, ↓bk_2, ↓bk_3, ↓bk_4, ↓bk_5, ↓bk_6, ↓bk_7, ↓bk_8, ↓wp_ret, ↓wl_some, ↓turn_u, ↓Vf_0, ↓Vt_0, ↓Vm_0, ↓Vf_1, ↓Vt_1, ↓Vm_1, ↓Vf_2, ↓Vt_2, ↓Vm_2, ↓Vf_3, ↓Vt_3, ↓Vm_3, ↓Vf_4, ↓Vt_4, ↓Vm_4, ↓Vf_5, ↓Vt_5, ↓Vm_5, ↓Vf_6, ↓Vt_6, ↓Vm_6, ↓Vf_7, ↓Vt_7, ↓Vm_7, ↓Vf_8, ↓Vt_8, ↓Vm_8, ↓Vf_9, ↓Vt_9, ↓Vm_9, ↓Vf_10, ↓Vt_10, ↓Vm_10, ↓Vf_11, ↓Vt_11, ↓Vm_11, ↓Vf_12, ↓Vt_12, ↓Vm_12, ↓Vf_13, ↓Vt_13, ↓Vm_13, ↓Vf_14, ↓Vt_14, ↓Vm_14, ↓Vf_15, ↓Vt_15, ↓Vm_15, ↓Vf_16, ↓Vt_16, ↓Vm_16, ↓Vf_17, ↓Vt_17, ↓Vm_17, ↓Vf_18, ↓Vt_18, ↓Vm_18, ↓Vf_19, ↓Vt_19, ↓Vm_19, ↓Vf_20, ↓Vt_20, ↓Vm_20, ↓Vf_21, ↓Vt_21, ↓Vm_21, ↓Vf_22, ↓Vt_22, ↓Vm_22, ↓Vf_23, ↓Vt_23, ↓Vm_23, ↓Vf_24, ↓Vt_24, ↓Vm_24, ↓Vf_25, ↓Vt_25, ↓Vm_25, ↓Vf_26, ↓Vt_26, ↓Vm_26, ↓Vf_27, ↓Vt_27, ↓Vm_27, ↓Vf_28, ↓Vt_28, ↓Vm_28, ↓Vf_29, ↓Vt_29, ↓Vm_29, ↓Vf_30, ↓Vt_30, ↓Vm_30, ↓Vf_31, ↓Vt_31, ↓Vm_31, e_const, e_bop, e_neg, e_cop, e_ch2, e_isN, e_notN, e_not, e_and, e_or, e_ife, e_idx, e_slc, e_asI, e_rev, e_tup, e_lst, e_call, e_callk, e_bi, e_comp, es_nil, es_cons, ts_nil, ts_cons, it_seq, it_range1, it_range2, it_enum, it_revd, it_zipt, it_zipf, ss_nil, ss_last, s_setv, s_sett, s_par, s_ext, s_mt0, mt0_l, mt0_rev, mt0_clr, s_aug, aug_i, aug_l, augL_l, seti_l, own_l, s_seti, s_expr, app_l, s_app, s_iff, s_whl, s_for, ret_v, ret_s, retS_l, s_ret, s_retN, s_brk, s_cont, s_pass, s_never, nx_n, nx_r, nx_b, nx_c, fl_n, fl_c, fl_b, fl_r, vl_v, vl_s, putr_f, putr_l, tg_n, tg_t, tgs_n, tgs_c, pa_n, pa_c, par_n, par_v, par_s, rd_v, rd_s, rdS_m, ri_v, hd_f, hd_l, hd_s, hs_c, hs_l, hds_n, hds_c, rds_n, rds_c, ab_v, sq_l, sq_t, pd_n, pd_c, ix_z, ix_s, if_t, if_f, if_n, if_d, no_n, no_i, no_b, no_s, no_t, no_l, no_r, bi_add, bi_sub, bi_mul, bi_div, bi_mod, bi_pow, wl_ixN, b_ii, b_ss, b_ll, b_lf, b_fl, b_ff, b_tt, b_lm, b_tm, c_eqi, c_nei, c_lt, c_le, c_gt, c_ge, id_t, id_l, id_o, wl_at0, wl_at1, wl_at2, wl_at3, at_map, sl_t, sl_l, sl_o, oi_n, oi_i, bl_len, len_l, len_f, len_t, len_s, bl_maxs, bl_mins, bl_max2, bl_min2, bl_abs, bl_sum, bl_sumf, bl_all, bl_any, any_map, all_map, bl_listl, bl_listf, bl_listt, bl_tupl, bl_tupf, bl_tupt, bl_intb, bl_inti, bl_str, bl_isi, bl_sorted, bl_repr, max_t, max_l, max_o, min_t, min_l, min_o, kd_r1, kd_r2, kd_r3, kd_r4, kd_r5, kd_r6, kd_r7, ns_1, ns_2, ns_3, ns_4, ns_5, ns_6, ns_7, ns_8, lt_c, lt_d, bk_1, bk_2, bk_3, bk_4, bk_5, bk_6, bk_7, bk_8, wp_ret, wl_some, turn_u, Vf_0, Vt_0, Vm_0, Vf_1, Vt_1, Vm_1, Vf_2, Vt_2, Vm_2, Vf_3, Vt_3, Vm_3, Vf_4, Vt_4, Vm_4, Vf_5, Vt_5, Vm_5, Vf_6, Vt_6, Vm_6, Vf_7, Vt_7, Vm_7, Vf_8, Vt_8, Vm_8, Vf_9, Vt_9, Vm_9, Vf_10, Vt_10, Vm_10, Vf_11, Vt_11, Vm_11, Vf_12, Vt_12, Vm_12, Vf_13, Vt_13, Vm_13, Vf_14, Vt_14, Vm_14, Vf_15, Vt_15, Vm_15, Vf_16, Vt_16, Vm_16, Vf_17, Vt_17, Vm_17, Vf_18, Vt_18, Vm_18, Vf_19, Vt_19, Vm_19, Vf_20, Vt_20, Vm_20, Vf_21, Vt_21, Vm_21, Vf_22, Vt_22, Vm_22, Vf_23, Vt_23, Vm_23, Vf_24, Vt_24, Vm_24, Vf_25, Vt_25, Vm_25, Vf_26, Vt_26, Vm_26, Vf_27, Vt_27, Vm_27, Vf_28, Vt_28, Vm_28, Vf_29, Vt_29, Vm_29, Vf_30, Vt_30, Vm_30, Vf_31, Vt_31, Vm_31, put_k, set_c, set_d, set_b, set_f, cln_nil, cln_n, cln_f, cln_m, cln_l, cln_d, szi, szl, dv_t, pw_t, sml_l, sml_r, decide_eq_true_eq, Int.reduceMul, Int.reduceMod, Int.reduceAdd, Int.reduceSub, Int.reduceDiv, Int.reduceNeg, Int.natAbs_zero, un_nil, un_n, un_f, un_m, fz_nil, fz_n, fz_f, fz_m, fz_l, fz_d, nl_nil, nl_n, nl_f, nl_m, nl_l, nl_d, mf_nil, mf_n, mf_f, mf_m, mf_l, mf_d, df_nil, df_n, df_f, df_m, df_l, df_d, ik_n, ik_f, ik_m, ko_n, ko_f, ko_k, ko_o, eqv_ii, cut_m, enum_map, zip_map, ints_zero, wi_n, wi_c, ba_n, ba_c, toD_f, toD_l, slo_f, slo_l, sc_i, sc_b, sc_s, sc_n, sc_l, sc_t, scr_f, scr_l, Bool.and_self, Bool.true_and, Bool.and_true, List.all_cons, List.all_nil, Int.toNat_natCast, Int.natCast_nonneg, Int.reduceLT, Int.reduceLE, Int.cast_ofNat_Int, c_eqS, c_neS, shp_int, shp_bool, shp_none, shp_list, shp_tuple, shpl_nil, shpl_cons, shpl_app, shpl_map, shp_leg, shp_road, implies_true, and_self, List.length_cons, List.length_nil, List.length_map, List.cons_append, List.nil_append, Nat.reduceAdd, Nat.reduceLT, Nat.reduceLeDiff, Nat.zero_add, Int.reduceNeg, Int.reducePow, Int.reduceToNat, true_and, and_true, reduceIte, eq_self, decide_true, decide_false, Bool.not_true, Bool.not_false, Bool.false_eq_true, Bool.true_eq_false, false_implies, forall_const, not_true_eq_false, not_false_eq_true, G_0, L_0, G_1, L_1, G_2, L_2, G_3, L_3, G_4, L_4, G_5, L_5, G_6, L_6, G_7, L_7, G_8, L_8, G_9, L_9, G_10, L_10, G_11, L_11, G_12, L_12, G_13, L_13, G_14, L_14, G_15, L_15, G_16, L_16, G_17, L_17, G_18, L_18, G_19, L_19, G_20, L_20, G_21, L_21, G_22, L_22, G_23, L_23, G_24, L_24, G_25, L_25, G_26, L_26, G_27, L_27, G_28, L_28, G_29, L_29, G_30, L_30, G_31, L_31, $xs,*])
local macro_rules | `(tactic| simp_all? [$xs,*]) => `(tactic| simp only [↓e_const, ↓e_bop, ↓e_neg, ↓e_cop, ↓e_ch2, ↓e_isN, ↓e_notN, ↓e_not, ↓e_and, ↓e_or, ↓e_ife, ↓e_idx, ↓e_slc, ↓e_asI, ↓e_rev, ↓e_tup, ↓e_lst, ↓e_call, ↓e_callk, ↓e_bi, ↓e_comp, ↓es_nil, ↓es_cons, ↓ts_nil, ↓ts_cons, ↓it_seq, ↓it_range1, ↓it_range2, ↓it_enum, ↓it_revd, ↓it_zipt, ↓it_zipf, ↓ss_nil, ↓ss_last, ↓s_setv, ↓s_sett, ↓s_par, ↓s_ext, ↓s_mt0, ↓mt0_l, ↓mt0_rev, ↓mt0_clr, ↓s_aug, ↓aug_i, ↓aug_l, ↓augL_l, ↓seti_l, ↓own_l, ↓s_seti, ↓s_expr, ↓app_l, ↓s_app, ↓s_iff, ↓s_whl, ↓s_for, ↓ret_v, ↓ret_s, ↓retS_l, ↓s_ret, ↓s_retN, ↓s_brk, ↓s_cont, ↓s_pass, ↓s_never, ↓nx_n, ↓nx_r, ↓nx_b, ↓nx_c, ↓fl_n, ↓fl_c, ↓fl_b, ↓fl_r, ↓vl_v, ↓vl_s, ↓putr_f, ↓putr_l, ↓tg_n, ↓tg_t, ↓tgs_n, ↓tgs_c, ↓pa_n, ↓pa_c, ↓par_n, ↓par_v, ↓par_s, ↓rd_v, ↓rd_s, ↓rdS_m, ↓ri_v, ↓hd_f, ↓hd_l, ↓hd_s, ↓hs_c, ↓hs_l, ↓hds_n, ↓hds_c, ↓rds_n, ↓rds_c, ↓ab_v, ↓sq_l, ↓sq_t, ↓pd_n, ↓pd_c, ↓ix_z, ↓ix_s, ↓if_t, ↓if_f, ↓if_n, ↓if_d, ↓no_n, ↓no_i, ↓no_b, ↓no_s, ↓no_t, ↓no_l, ↓no_r, ↓bi_add, ↓bi_sub, ↓bi_mul, ↓bi_div, ↓bi_mod, ↓bi_pow, ↓wl_ixN, ↓b_ii, ↓b_ss, ↓b_ll, ↓b_lf, ↓b_fl, ↓b_ff, ↓b_tt, ↓b_lm, ↓b_tm, ↓c_eqi, ↓c_nei, ↓c_lt, ↓c_le, ↓c_gt, ↓c_ge, ↓id_t, ↓id_l, ↓id_o, ↓wl_at0, ↓wl_at1, ↓wl_at2, ↓wl_at3, ↓at_map, ↓sl_t, ↓sl_l, ↓sl_o, ↓oi_n, ↓oi_i, ↓bl_len, ↓len_l, ↓len_f, ↓len_t, ↓len_s, ↓bl_maxs, ↓bl_mins, ↓bl_max2, ↓bl_min2, ↓bl_abs, ↓bl_sum, ↓bl_sumf, ↓bl_all, ↓bl_any, ↓any_map, ↓all_map, ↓bl_listl, ↓bl_listf, ↓bl_listt, ↓bl_tupl, ↓bl_tupf, ↓bl_tupt, ↓bl_intb, ↓bl_inti, ↓bl_str, ↓bl_isi, ↓bl_sorted, ↓bl_repr, ↓max_t, ↓max_l, ↓max_o, ↓min_t, ↓min_l, ↓min_o, ↓kd_r1, ↓kd_r2, ↓kd_r3, ↓kd_r4, ↓kd_r5, ↓kd_r6, ↓kd_r7, ↓ns_1, ↓ns_2, ↓ns_3, ↓ns_4, ↓ns_5, ↓ns_6, ↓ns_7, ↓ns_8, ↓lt_c, ↓lt_d, ↓bk_1, ↓bk_2, ↓bk_3, ↓bk_4, ↓bk_5, ↓bk_6, ↓bk_7, ↓bk_8, ↓wp_ret, ↓wl_some, ↓turn_u, ↓Vf_0, ↓Vt_0, ↓Vm_0, ↓Vf_1, ↓Vt_1, ↓Vm_1, ↓Vf_2, ↓Vt_2, ↓Vm_2, ↓Vf_3, ↓Vt_3, ↓Vm_3, ↓Vf_4, ↓Vt_4, ↓Vm_4, ↓Vf_5, ↓Vt_5, ↓Vm_5, ↓Vf_6, ↓Vt_6, ↓Vm_6, ↓Vf_7, ↓Vt_7, ↓Vm_7, ↓Vf_8, ↓Vt_8, ↓Vm_8, ↓Vf_9, ↓Vt_9, ↓Vm_9, ↓Vf_10, ↓Vt_10, ↓Vm_10, ↓Vf_11, ↓Vt_11, ↓Vm_11, ↓Vf_12, ↓Vt_12, ↓Vm_12, ↓Vf_13, ↓Vt_13, ↓Vm_13, ↓Vf_14, ↓Vt_14, ↓Vm_14, ↓Vf_15, ↓Vt_15, ↓Vm_15, ↓Vf_16, ↓Vt_16, ↓Vm_16, ↓Vf_17, ↓Vt_17, ↓Vm_17, ↓Vf_18, ↓Vt_18, ↓Vm_18, ↓Vf_19, ↓Vt_19, ↓Vm_19, ↓Vf_20, ↓Vt_20, ↓Vm_20, ↓Vf_21, ↓Vt_21, ↓Vm_21, ↓Vf_22, ↓Vt_22, ↓Vm_22, ↓Vf_23, ↓Vt_23, ↓Vm_23, ↓Vf_24, ↓Vt_24, ↓Vm_24, ↓Vf_25, ↓Vt_25, ↓Vm_25, ↓Vf_26, ↓Vt_26, ↓Vm_26, ↓Vf_27, ↓Vt_27, ↓Vm_27, ↓Vf_28, ↓Vt_28, ↓Vm_28, ↓Vf_29, ↓Vt_29, ↓Vm_29, ↓Vf_30, ↓Vt_30, ↓Vm_30, ↓Vf_31, ↓Vt_31, ↓Vm_31, e_const, e_bop, e_neg, e_cop, e_ch2, e_isN, e_notN, e_not, e_and, e_or, e_ife, e_idx, e_slc, e_asI, e_rev, e_tup, e_lst, e_call, e_callk, e_bi, e_comp, es_nil, es_cons, ts_nil, ts_cons, it_seq, it_range1, it_range2, it_enum, it_revd, it_zipt, it_zipf, ss_nil, ss_last, s_setv, s_sett, s_par, s_ext, s_mt0, mt0_l, mt0_rev, mt0_clr, s_aug, aug_i, aug_l, augL_l, seti_l, own_l, s_seti, s_expr, app_l, s_app, s_iff, s_whl, s_for, ret_v, ret_s, retS_l, s_ret, s_retN, s_brk, s_cont, s_pass, s_never, nx_n, nx_r, nx_b, nx_c, fl_n, fl_c, fl_b, fl_r, vl_v, vl_s, putr_f, putr_l, tg_n, tg_t, tgs_n, tgs_c, pa_n, pa_c, par_n, par_v, par_s, rd_v, rd_s, rdS_m, ri_v, hd_f, hd_l, hd_s, hs_c, hs_l, hds_n, hds_c, rds_n, rds_c, ab_v, sq_l, sq_t, pd_n, pd_c, ix_z, ix_s, if_t, if_f, if_n, if_d, no_n, no_i, no_b, no_s, no_t, no_l, no_r, bi_add, bi_sub, bi_mul, bi_div, bi_mod, bi_pow, wl_ixN, b_ii, b_ss, b_ll, b_lf, b_fl, b_ff, b_tt, b_lm, b_tm, c_eqi, c_nei, c_lt, c_le, c_gt, c_ge, id_t, id_l, id_o, wl_at0, wl_at1, wl_at2, wl_at3, at_map, sl_t, sl_l, sl_o, oi_n, oi_i, bl_len, len_l, len_f, len_t, len_s, bl_maxs, bl_mins, bl_max2, bl_min2, bl_abs, bl_sum, bl_sumf, bl_all, bl_any, any_map, all_map, bl_listl, bl_listf, bl_listt, bl_tupl, bl_tupf, bl_tupt, bl_intb, bl_inti, bl_str, bl_isi, bl_sorted, bl_repr, max_t, max_l, max_o, min_t, min_l, min_o, kd_r1, kd_r2, kd_r3, kd_r4, kd_r5, kd_r6, kd_r7, ns_1, ns_2, ns_3, ns_4, ns_5, ns_6, ns_7, ns_8, lt_c, lt_d, bk_1, bk_2, bk_3, bk_4, bk_5, bk_6, bk_7, bk_8, wp_ret, wl_some, turn_u, Vf_0, Vt_0, Vm_0, Vf_1, Vt_1, Vm_1, Vf_2, Vt_2, Vm_2, Vf_3, Vt_3, Vm_3, Vf_4, Vt_4, Vm_4, Vf_5, Vt_5, Vm_5, Vf_6, Vt_6, Vm_6, Vf_7, Vt_7, Vm_7, Vf_8, Vt_8, Vm_8, Vf_9, Vt_9, Vm_9, Vf_10, Vt_10, Vm_10, Vf_11, Vt_11, Vm_11, Vf_12, Vt_12, Vm_12, Vf_13, Vt_13, Vm_13, Vf_14, Vt_14, Vm_14, Vf_15, Vt_15, Vm_15, Vf_16, Vt_16, Vm_16, Vf_17, Vt_17, Vm_17, Vf_18, Vt_18, Vm_18, Vf_19, Vt_19, Vm_19, Vf_20, Vt_20, Vm_20, Vf_21, Vt_21, Vm_21, Vf_22, Vt_22, Vm_22, Vf_23, Vt_23, Vm_23, Vf_24, Vt_24, Vm_24, Vf_25, Vt_25, Vm_25, Vf_26, Vt_26, Vm_26, Vf_27, Vt_27, Vm_27, Vf_28, Vt_28, Vm_28, Vf_29, Vt_29, Vm_29, Vf_30, Vt_30, Vm_30, Vf_31, Vt_31, Vm_31, put_k, set_c, set_d, set_b, set_f, cln_nil, cln_n, cln_f, cln_m, cln_l, cln_d, szi, szl, dv_t, pw_t, sml_l, sml_r, decide_eq_true_eq, Int.reduceMul, Int.reduceMod, Int.reduceAdd, Int.reduceSub, Int.reduceDiv, Int.reduceNeg, Int.natAbs_zero, un_nil, un_n, un_f, un_m, fz_nil, fz_n, fz_f, fz_m, fz_l, fz_d, nl_nil, nl_n, nl_f, nl_m, nl_l, nl_d, mf_nil, mf_n, mf_f, mf_m, mf_l, mf_d, df_nil, df_n, df_f, df_m, df_l, df_d, ik_n, ik_f, ik_m, ko_n, ko_f, ko_k, ko_o, eqv_ii, cut_m, enum_map, zip_map, ints_zero, wi_n, wi_c, ba_n, ba_c, toD_f, toD_l, slo_f, slo_l, sc_i, sc_b, sc_s, sc_n, sc_l, sc_t, scr_f, scr_l, Bool.and_self, Bool.true_and, Bool.and_true, List.all_cons, List.all_nil, Int.toNat_natCast, Int.natCast_nonneg, Int.reduceLT, Int.reduceLE, Int.cast_ofNat_Int, c_eqS, c_neS, shp_int, shp_bool, shp_none, shp_list, shp_tuple, shpl_nil, shpl_cons, shpl_app, shpl_map, shp_leg, shp_road, implies_true, and_self, List.length_cons, List.length_nil, List.length_map, List.cons_append, List.nil_append, Nat.reduceAdd, Nat.reduceLT, Nat.reduceLeDiff, Nat.zero_add, Int.reduceNeg, Int.reducePow, Int.reduceToNat, true_and, and_true, reduceIte, eq_self, decide_true, decide_false, Bool.not_true, Bool.not_false, Bool.false_eq_true, Bool.true_eq_false, false_implies, forall_const, not_true_eq_false, not_false_eq_true, G_0, L_0, G_1, L_1, G_2, L_2, G_3, L_3, G_4, L_4, G_5, L_5, G_6, L_6, G_7, L_7, G_8, L_8, G_9, L_9, G_10, L_10, G_11, L_11, G_12, L_12, G_13, L_13, G_14, L_14, G_15, L_15, G_16, L_16, G_17, L_17, G_18, L_18, G_19, L_19, G_20, L_20, G_21, L_21, G_22, L_22, G_23, L_23, G_24, L_24, G_25, L_25, G_26, L_26, G_27, L_27, G_28, L_28, G_29, L_29, G_30, L_30, G_31, L_31, cln_x, un_x, fz_x, nl_x, mf_x, df_x, ik_x, ko_x, $xs,*])
/-- a comprehension whose turns draw -/
theorem comp_draws {α β : Type} {xs : List α} {F : α → D} {elt : E} {tg : Tg} {ifs : List E} {own : List Nat} {ds : List D} {ρ : Sto} {Q : Opd → Sto → Prop} (G : β → D) (P : β → Prop) (cost : Int) (σ : Md → Tp → Sto) (m0 : Md) (t0 : Tp)
    (hds : ds = xs.map F) (hl : xs.length ≤ sizeLine) (hc : 0 ≤ cost) (hm0 : m0 ≠ .lent) (h0 : wipeS ρ own = σ m0 t0)
    (step : ∀ (x : α) (m : Md) (t : Tp), x ∈ xs → m ≠ .lent → t.c ≤ t0.c + cost * xs.length - cost → wTurn elt tg ifs own (F x) (σ m t) (fun d ρ' => ∃ (y : β) (t' : Tp), d = G y ∧ P y ∧ t'.c ≤ t.c + cost ∧ ρ' = σ .dirt t') (fun _ => False))
    (q : ∀ (ys : List β) (t' : Tp) (m' : Md), ys.length = xs.length → (∀ y ∈ ys, P y) → t'.c ≤ t0.c + cost * xs.length → m' ≠ .lent → (xs ≠ [] → m' = .dirt) → (m0 = .dirt → m' = .dirt) → Q (.val (.lst (ys.map G))) (backS ρ (σ m' t') own)) : wComp elt tg ifs own ds ρ Q := by
  refine comp_inv (fun pre acc ρ' => ∃ (ys : List β) (t' : Tp) (m' : Md), acc = ys.map G ∧ ys.length = pre.length ∧ (∀ y ∈ ys, P y) ∧ t'.c ≤ t0.c + cost * pre.length ∧ m' ≠ .lent ∧ (pre ≠ [] → m' = .dirt) ∧ (m0 = .dirt → m' = .dirt) ∧ ρ' = σ m' t') hds hl ⟨[], t0, m0, rfl, rfl, (fun y hy => nomatch hy), by simp, hm0, (fun z => absurd rfl z), id, h0⟩ ?_ ?_
  · rintro pre x post acc ρ' e ⟨ys, t', m', rfl, hlen, hP, hcc, hm, hd, hd0, rfl⟩
    have hxl : pre.length + 1 ≤ xs.length := by rw [e]; simp
    have hb : t'.c ≤ t0.c + cost * xs.length - cost := by
      have : cost * (pre.length : Int) + cost ≤ cost * xs.length := by
        have := Int.mul_le_mul_of_nonneg_left (show (pre.length : Int) + 1 ≤ xs.length by omega) hc
        rwa [Int.mul_add, Int.mul_one] at this
      omega
    have st := step x m' t' (by rw [e]; simp) hm hb
    have m1 : ∀ d ρ', (∃ (y : β) (t'' : Tp), d = G y ∧ P y ∧ t''.c ≤ t'.c + cost ∧ ρ' = σ .dirt t'') → (∃ (zs : List β) (t'' : Tp) (m'' : Md), ys.map G ++ [d] = zs.map G ∧ zs.length = (pre ++ [x]).length ∧ (∀ y ∈ zs, P y) ∧ t''.c ≤ t0.c + cost * ((pre ++ [x]).length : Nat) ∧ m'' ≠ .lent ∧ ((pre ++ [x]) ≠ [] → m'' = .dirt) ∧ (m0 = .dirt → m'' = .dirt) ∧ ρ' = σ m'' t'') := by
      rintro d ρ' ⟨y, t'', rfl, hy, hc', rfl⟩
      refine ⟨ys ++ [y], t'', .dirt, by simp, by simp [hlen], fun z hz => ?_, ?_, nofun, fun _ => rfl, fun _ => rfl, rfl⟩
      · rcases List.mem_append.mp hz with hz | hz
        · exact hP z hz
        · rw [List.mem_singleton.mp hz]; exact hy
      · rw [List.length_append, List.length_singleton, Int.natCast_add, Int.mul_add, show ((1 : Nat) : Int) = 1 from rfl, Int.mul_one]
        omega
    unfold wTurn wTg wTs wE wHard at st ⊢
    cases h1 : setTg .tmp tg (F x) (σ m' t') with
    | none => rw [h1] at st; exact st
    | some ρ1 =>
      rw [h1, wl_some] at st
      rw [wl_some]
      refine wp_mono st fun b ρ2 st2 => ⟨fun k => ?_, fun k => (st2.2 k).elim⟩
      refine wp_mono (st2.1 k) fun y ρ3 st3 => ?_
      cases h3 : hard ρ3 y with
      | none => rw [h3] at st3; exact st3
      | some r => rw [h3] at st3; exact m1 _ _ st3
  · rintro acc ρ' ⟨ys, t', m', rfl, hlen, hP, hcc, hm, hd, hd0, rfl⟩
    exact q ys t' m' hlen hP hcc hm hd hd0
theorem line_w {t : Tp} {n : Int} {Q : R → Sto → Prop} (hn : 1 ≤ n) (hn' : n ≤ 12) (hc : t.c + 100 ≤ 2 ^ 40)
    (h : ∀ r t', r.legs.length = r.firsts.length → 1 ≤ r.legs.length → r.legs.length ≤ n → (∀ l ∈ r.legs, LegOk l ∧ l.full ≤ 300000) → (∀ f ∈ r.firsts, -1000200 ≤ f ∧ f ≤ 500) → t'.c ≤ t.c + 100 → Q (.frz (roadD r)) [tS t', none]) :
    wp (f_law_line.sf [tS t, some (.frz (.int n))]) Q := by
  simp_all? only [o_law_line, ↓u_law_line__3, ↓u_law_line__2, ↓u_law_line__1, ↓u_law_line, k_law_draw, k_law_leg]
  (refine draw_w (by omega) (by omega) (by omega) fun i1 t1 ai1 bi1 ct1 => ?_); simp_all? only [o_law_line, ↓u_law_line__3, ↓u_law_line__2, ↓u_law_line__1, ↓u_law_line, k_law_draw, k_law_leg]
  (refine draw_w (by omega) (by omega) (by omega) fun i2 t2 ai2 bi2 ct2 => ?_); simp_all? only [o_law_line, ↓u_law_line__3, ↓u_law_line__2, ↓u_law_line__1, ↓u_law_line, k_law_draw, k_law_leg]
  refine ⟨⟨by omega, by omega⟩, comp_draws legD (fun l => LegOk l ∧ l.full ≤ 300000) 10 (fun m t => [some (.mut m true (tp t)), some (.frz (.int n)), none, none, none, none, none, none, none]) .dirt t2 rfl (len_bound (by rw [List.length_range]; omega)) (by omega) nofun rfl ?_ ?_⟩
  · intro x m t3 hx hm hc3
    rw [List.length_range] at hc3
    simp_all? only [k_law_leg, lt_m hm]
    refine leg_w (by omega) fun l t4 hl hf hc4 => ?_
    simp_all? only [ns_1]
    exact ⟨l, t4, rfl, ⟨hl, hf⟩, by omega, rfl⟩
  intro kinds t3 m3 hkl hk hc3 hm3 _ hd
  cases hd rfl
  rw [List.length_range] at hkl hc3
  simp_all? only [o_law_line, ↓u_law_line__3, ↓u_law_line__2, ↓u_law_line__1, ↓u_law_line, k_law_draw, k_law_leg, tp_sc]
  have hkl' : (kinds.length : Int) = 1 + i2 := by omega
  refine ⟨⟨by omega, by omega⟩, comp_draws legD (fun l => LegOk l ∧ l.full ≤ 300000) 1 (fun m t => [some (.mut m true (tp t)), some (.frz (.int n)), some (.frz (.int (1 + i1))), some (.frz (.list (kinds.map legD))), none, none, none, none, none]) .clean t3 rfl (len_bound (by rw [List.length_range]; omega)) (by omega) nofun rfl ?_ ?_⟩
  · intro x m t4 hx hm hc4
    rw [List.length_range] at hc4
    simp_all? only [k_law_draw, lt_m hm]
    refine draw_w (by omega) (by omega) (by omega) fun i5 t5 a5 b5 c5 => ?_
    simp_all? only [ns_1]
    exact ⟨⟨by omega, by omega⟩, _, t5, rfl, hk _ (ix_mem a5 (by omega)), by omega, rfl⟩
  intro lanes t4 m4 hll hlk hc4 hm4 hd4 _
  cases hd4 (by rw [Ne, List.range_eq_nil]; omega)
  rw [List.length_range] at hll hc4
  simp_all? only [o_law_line, ↓u_law_line__3, ↓u_law_line__2, ↓u_law_line__1, ↓u_law_line, k_law_draw, k_law_leg, tp_sc]
  (refine draw_w (by omega) (by omega) (by omega) fun i6 t6 ai6 bi6 ct6 => ?_); simp_all? only [o_law_line, ↓u_law_line__3, ↓u_law_line__2, ↓u_law_line__1, ↓u_law_line, k_law_draw]
  refine idx3 ai6 bi6 fun base hb => ?_
  (refine draw_w (by omega) (by omega) (by omega) fun i7 t7 ai7 bi7 ct7 => ?_); simp_all? only [o_law_line, ↓u_law_line__3, ↓u_law_line__2, ↓u_law_line__1, ↓u_law_line, k_law_draw]
  refine idx3 ai7 bi7 fun wide hw => ?_
  refine ⟨⟨by omega, by omega⟩, comp_draws PyData.int (fun f => -1000200 ≤ f ∧ f ≤ 500) 1 (fun m t => [some (.mut m true (tp t)), some (.frz (.int n)), some (.frz (.int (1 + i1))), some (.frz (.list (kinds.map legD))), some (.mut .clean false (lanes.map legD)), some (.frz (.int base)), some (.frz (.int wide)), none, none]) .clean t7 rfl (len_bound (by rw [List.length_range]; omega)) (by omega) nofun rfl ?_ ?_⟩
  · intro x m t8 hx hm hc8
    rw [List.length_range] at hc8
    simp_all? only [k_law_draw, lt_m hm]
    refine draw_w (by omega) (by omega) (by omega) fun i9 t9 a9 b9 c9 => ?_
    simp_all? only [ns_1]
    exact ⟨_, t9, rfl, by omega, by omega, rfl⟩
  intro firsts t8 m8 hfl hfk hc8 hm8 hd8 _
  cases hd8 (by rw [Ne, List.range_eq_nil]; omega)
  rw [List.length_range] at hfl hc8
  simp_all? only [o_law_line, ↓u_law_line__3, ↓u_law_line__2, ↓u_law_line__1, ↓u_law_line]
  exact h ⟨lanes, firsts⟩ t8 (by show lanes.length = firsts.length; omega) (by show 1 ≤ lanes.length; omega) (by show (lanes.length : Int) ≤ n; omega) hlk hfk (by omega)
end Rx
set_option Elab.async false
set_option linter.all false
set_option maxHeartbeats 4000000
/-! SpD3: setting-outs drawn, cells folded -/
namespace Rx
open PySem PySem.Spec L2
set_option maxRecDepth 100000
local macro_rules | `(tactic| simp_all? only [$xs,*]) => `(tactic| simp only [↓e_const, ↓e_bop, ↓e_neg, ↓e_cop, ↓e_ch2, ↓e_isN, ↓e_notN, ↓e_not, ↓e_and, ↓e_or, ↓e_ife, ↓e_idx, ↓e_slc, ↓e_asI, ↓e_rev, ↓e_tup, ↓e_lst, ↓e_call, ↓e_callk, ↓e_bi, ↓e_comp, ↓es_nil, ↓es_cons, ↓ts_nil, ↓ts_cons, ↓it_seq, ↓it_range1, ↓it_range2, ↓it_enum, ↓it_revd, ↓it_zipt, ↓it_zipf, ↓ss_nil, ↓ss_last, ↓s_setv, ↓s_sett, ↓s_par, ↓s_ext, ↓s_mt0, ↓mt0_l, ↓mt0_rev, ↓mt0_clr, ↓s_aug, ↓aug_i, ↓aug_l, ↓augL_l, ↓seti_l, ↓own_l, ↓s_seti, ↓s_expr, ↓app_l, ↓s_app, ↓s_iff, ↓s_whl, ↓s_for, ↓ret_v, ↓ret_s, ↓retS_l, ↓s_ret, ↓s_retN, ↓s_brk, ↓s_cont, ↓s_pass, ↓s_never, ↓nx_n, ↓nx_r, ↓nx_b, ↓nx_c, ↓fl_n, ↓fl_c, ↓fl_b, ↓fl_r, ↓vl_v, ↓vl_s, ↓putr_f, ↓putr_l, ↓tg_n, ↓tg_t, ↓tgs_n, ↓tgs_c, ↓pa_n, ↓pa_c, ↓par_n, ↓par_v, ↓par_s, ↓rd_v, ↓rd_s, ↓rdS_m, ↓ri_v, ↓hd_f, ↓hd_l, ↓hd_s, ↓hs_c, ↓hs_l, ↓hds_n, ↓hds_c, ↓rds_n, ↓rds_c, ↓ab_v, ↓sq_l, ↓sq_t, ↓pd_n, ↓pd_c, ↓ix_z, ↓ix_s, ↓if_t, ↓if_f, ↓if_n, ↓if_d, ↓no_n, ↓no_i, ↓no_b, ↓no_s, ↓no_t, ↓no_l, ↓no_r, ↓bi_add, ↓bi_sub, ↓bi_mul, ↓bi_div, ↓bi_mod, ↓bi_pow, ↓wl_ixN, ↓b_ii, ↓b_ss, ↓b_ll, ↓b_lf, ↓b_fl, ↓b_ff, ↓b_tt, ↓b_lm, ↓b_tm, ↓c_eqi, ↓c_nei, ↓c_lt, ↓c_le, ↓c_gt, ↓c_ge, ↓id_t, ↓id_l, ↓id_o, ↓wl_at0, ↓wl_at1, ↓wl_at2, ↓wl_at3, ↓at_map, ↓sl_t, ↓sl_l, ↓sl_o, ↓oi_n, ↓oi_i, ↓bl_len, ↓len_l, ↓len_f, ↓len_t, ↓len_s, ↓bl_maxs, ↓bl_mins, ↓bl_max2, ↓bl_min2, ↓bl_abs, ↓bl_sum, ↓bl_sumf, ↓bl_all, ↓bl_any, ↓any_map, ↓all_map, ↓bl_listl, ↓bl_listf, ↓bl_listt, ↓bl_tupl, ↓bl_tupf, ↓bl_tupt, ↓bl_intb, ↓bl_inti, ↓bl_str, ↓bl_isi, ↓bl_sorted, ↓bl_repr, ↓max_t, ↓max_l, ↓max_o, ↓min_t, ↓min_l, ↓min_o, ↓kd_r1, ↓kd_r2, ↓kd_r3, ↓kd_r4, ↓kd_r5, ↓kd_r6, ↓kd_r7, ↓ns_1, ↓ns_2, ↓ns_3, ↓ns_4, ↓ns_5, ↓ns_6, ↓ns_7, ↓ns_8, ↓lt_c, ↓lt_d, ↓bk_1, ↓bk_2, ↓bk_3, ↓bk_4, ↓bk_5, ↓bk_6, ↓bk_7, ↓bk_8, ↓wp_ret, ↓wl_some, ↓turn_u, ↓Vf_0, ↓Vt_0, ↓Vm_0, ↓Vf_1, ↓Vt_1, ↓Vm_1, ↓Vf_2, ↓Vt_2, ↓Vm_2, ↓Vf_3, ↓Vt_3, ↓Vm_3, ↓Vf_4, ↓Vt_4, ↓Vm_4, ↓Vf_5, ↓Vt_5, ↓Vm_5, ↓Vf_6, ↓Vt_6, ↓Vm_6, ↓Vf_7, ↓Vt_7, ↓Vm_7, ↓Vf_8, ↓Vt_8, ↓Vm_8, ↓Vf_9, ↓Vt_9, ↓Vm_9, ↓Vf_10, ↓Vt_10, ↓Vm_10, ↓Vf_11, ↓Vt_11, ↓Vm_11, ↓Vf_12, ↓Vt_12, ↓Vm_12, ↓Vf_13, ↓Vt_13, ↓Vm_13, ↓Vf_14, ↓Vt_14, ↓Vm_14, ↓Vf_15, ↓Vt_15, ↓Vm_15, ↓Vf_16, ↓Vt_16, ↓Vm_16, ↓Vf_17, ↓Vt_17, ↓Vm_17, ↓Vf_18, ↓Vt_18, ↓Vm_18, ↓Vf_19, ↓Vt_19, ↓Vm_19, ↓Vf_20, ↓Vt_20, ↓Vm_20, ↓Vf_21, ↓Vt_21, ↓Vm_21, ↓Vf_22, ↓Vt_22, ↓Vm_22, ↓Vf_23, ↓Vt_23, ↓Vm_23, ↓Vf_24, ↓Vt_24, ↓Vm_24, ↓Vf_25, ↓Vt_25, ↓Vm_25, ↓Vf_26, ↓Vt_26, ↓Vm_26, ↓Vf_27, ↓Vt_27, ↓Vm_27, ↓Vf_28, ↓Vt_28, ↓Vm_28, ↓Vf_29, ↓Vt_29, ↓Vm_29, ↓Vf_30, ↓Vt_30, ↓Vm_30, ↓Vf_31, ↓Vt_31, ↓Vm_31, e_const, e_bop, e_neg, e_cop, e_ch2, e_isN, e_notN, e_not, e_and, e_or, e_ife, e_idx, e_slc, e_asI, e_rev, e_tup, e_lst, e_call, e_callk, e_bi, e_comp, es_nil, es_cons, ts_nil, ts_cons, it_seq, it_range1, it_range2, it_enum, it_revd, it_zipt, it_zipf, ss_nil, ss_last, s_setv, s_sett, s_par, s_ext, s_mt0, mt0_l, mt0_rev, mt0_clr, s_aug, aug_i, aug_l, augL_l, seti_l, own_l, s_seti, s_expr, app_l, s_app, s_iff, s_whl, s_for, ret_v, ret_s, retS_l, s_ret, s_retN, s_brk, s_cont, s_pass, s_never, nx_n, nx_r, nx_b, nx_c, fl_n, fl_c, fl_b, fl_r, vl_v, vl_s, putr_f, putr_l, tg_n, tg_t, tgs_n, tgs_c, pa_n, pa_c, par_n, par_v, par_s, rd_v, rd_s, rdS_m, ri_v, hd_f, hd_l, hd_s, hs_c, hs_l, hds_n, hds_c, rds_n, rds_c, ab_v, sq_l, sq_t, pd_n, pd_c, ix_z, ix_s, if_t, if_f, if_n, if_d, no_n, no_i, no_b, no_s, no_t, no_l, no_r, bi_add, bi_sub, bi_mul, bi_div, bi_mod, bi_pow, wl_ixN, b_ii, b_ss, b_ll, b_lf, b_fl, b_ff, b_tt, b_lm, b_tm, c_eqi, c_nei, c_lt, c_le, c_gt, c_ge, id_t, id_l, id_o, wl_at0, wl_at1, wl_at2, wl_at3, at_map, sl_t, sl_l, sl_o, oi_n, oi_i, bl_len, len_l, len_f, len_t, len_s, bl_maxs, bl_mins, bl_max2, bl_min2, bl_abs, bl_sum, bl_sumf, bl_all, bl_any, any_map, all_map, bl_listl, bl_listf, bl_listt, bl_tupl, bl_tupf, bl_tupt, bl_intb, bl_inti, bl_str, bl_isi, bl_sorted, bl_repr, max_t, max_l, max_o, min_t, min_l, min_o, kd_r1, kd_r2, kd_r3, kd_r4, kd_r5, kd_r6, kd_r7, ns_1, ns_2, ns_3, ns_4, ns_5, ns_6, ns_7, ns_8, lt_c, lt_d, bk_1, bk_2, bk_3, bk_4, bk_5, bk_6, bk_7, bk_8, wp_ret, wl_some, turn_u, Vf_0, Vt_0, Vm_0, Vf_1, Vt_1, Vm_1, Vf_2, Vt_2, Vm_2, Vf_3, Vt_3, Vm_3, Vf_4, Vt_4, Vm_4, Vf_5, Vt_5, Vm_5, Vf_6, Vt_6, Vm_6, Vf_7, Vt_7, Vm_7, Vf_8, Vt_8, Vm_8, Vf_9, Vt_9, Vm_9, Vf_10, Vt_10, Vm_10, Vf_11, Vt_11, Vm_11, Vf_12, Vt_12, Vm_12, Vf_13, Vt_13, Vm_13, Vf_14, Vt_14, Vm_14, Vf_15, Vt_15, Vm_15, Vf_16, Vt_16, Vm_16, Vf_17, Vt_17, Vm_17, Vf_18, Vt_18, Vm_18, Vf_19, Vt_19, Vm_19, Vf_20, Vt_20, Vm_20, Vf_21, Vt_21, Vm_21, Vf_22, Vt_22, Vm_22, Vf_23, Vt_23, Vm_23, Vf_24, Vt_24, Vm_24, Vf_25, Vt_25, Vm_25, Vf_26, Vt_26, Vm_26, Vf_27, Vt_27, Vm_27, Vf_28, Vt_28, Vm_28, Vf_29, Vt_29, Vm_29, Vf_30, Vt_30, Vm_30, Vf_31, Vt_31, Vm_31, put_k, set_c, set_d, set_b, set_f, cln_nil, cln_n, cln_f, cln_m, cln_l, cln_d, szi, szl, dv_t, pw_t, sml_l, sml_r, decide_eq_true_eq, Int.reduceMul, Int.reduceMod, Int.reduceAdd, Int.reduceSub, Int.reduceDiv, Int.reduceNeg, Int.natAbs_zero, un_nil, un_n, un_f, un_m, fz_nil, fz_n, fz_f, fz_m, fz_l, fz_d, nl_nil, nl_n, nl_f, nl_m, nl_l, nl_d, mf_nil, mf_n, mf_f, mf_m, mf_l, mf_d, df_nil, df_n, df_f, df_m, df_l, df_d, ik_n, ik_f, ik_m, ko_n, ko_f, ko_k, ko_o, eqv_ii, cut_m, enum_map, zip_map, ints_zero, wi_n, wi_c, ba_n, ba_c, toD_f, toD_l, slo_f, slo_l, sc_i, sc_b, sc_s, sc_n, sc_l, sc_t, scr_f, scr_l, Bool.and_self, Bool.true_and, Bool.and_true, List.all_cons, List.all_nil, Int.toNat_natCast, Int.natCast_nonneg, Int.reduceLT, Int.reduceLE, Int.cast_ofNat_Int, c_eqS, c_neS, shp_int, shp_bool, shp_none, shp_list, shp_tuple, shpl_nil, shpl_cons, shpl_app, shpl_map, shp_leg, shp_road, implies_true, and_self, List.length_cons, List.length_nil, List.length_map, List.cons_append, List.nil_append, Nat.reduceAdd, Nat.reduceLT, Nat.reduceLeDiff, Nat.zero_add, Int.reduceNeg, Int.reducePow, Int.reduceToNat, true_and, and_true, reduceIte, eq_self, decide_true, decide_false, Bool.not_true, Bool.not_false, Bool.false_eq_true, Bool.true_eq_false, false_implies, forall_const, not_true_eq_false, not_false_eq_true, G_0, L_0, G_1, L_1, G_2, L_2, G_3, L_3, G_4, L_4, G_5, L_5, G_6, L_6, G_7, L_7, G_8, L_8, G_9, L_9, G_10, L_10, G_11, L_11, G_12, L_12, G_13, L_13, G_14, L_14, G_15, L_15, G_16, L_16, G_17, L_17, G_18, L_18, G_19, L_19, G_20, L_20, G_21, L_21, G_22, L_22, G_23, L_23, G_24, L_24, G_25, L_25, G_26, L_26, G_27, L_27, G_28, L_28, G_29, L_29, G_30, L_30, G_31, L_31, $xs,*])
local macro_rules | `(tactic| simp_all? [$xs,*]) => `(tactic| simp only [↓e_const, ↓e_bop, ↓e_neg, ↓e_cop, ↓e_ch2, ↓e_isN, ↓e_notN, ↓e_not, ↓e_and, ↓e_or, ↓e_ife, ↓e_idx, ↓e_slc, ↓e_asI, ↓e_rev, ↓e_tup, ↓e_lst, ↓e_call, ↓e_callk, ↓e_bi, ↓e_comp, ↓es_nil, ↓es_cons, ↓ts_nil, ↓ts_cons, ↓it_seq, ↓it_range1, ↓it_range2, ↓it_enum, ↓it_revd, ↓it_zipt, ↓it_zipf, ↓ss_nil, ↓ss_last, ↓s_setv, ↓s_sett, ↓s_par, ↓s_ext, ↓s_mt0, ↓mt0_l, ↓mt0_rev, ↓mt0_clr, ↓s_aug, ↓aug_i, ↓aug_l, ↓augL_l, ↓seti_l, ↓own_l, ↓s_seti, ↓s_expr, ↓app_l, ↓s_app, ↓s_iff, ↓s_whl, ↓s_for, ↓ret_v, ↓ret_s, ↓retS_l, ↓s_ret, ↓s_retN, ↓s_brk, ↓s_cont, ↓s_pass, ↓s_never, ↓nx_n, ↓nx_r, ↓nx_b, ↓nx_c, ↓fl_n, ↓fl_c, ↓fl_b, ↓fl_r, ↓vl_v, ↓vl_s, ↓putr_f, ↓putr_l, ↓tg_n, ↓tg_t, ↓tgs_n, ↓tgs_c, ↓pa_n, ↓pa_c, ↓par_n, ↓par_v, ↓par_s, ↓rd_v, ↓rd_s, ↓rdS_m, ↓ri_v, ↓hd_f, ↓hd_l, ↓hd_s, ↓hs_c, ↓hs_l, ↓hds_n, ↓hds_c, ↓rds_n, ↓rds_c, ↓ab_v, ↓sq_l, ↓sq_t, ↓pd_n, ↓pd_c, ↓ix_z, ↓ix_s, ↓if_t, ↓if_f, ↓if_n, ↓if_d, ↓no_n, ↓no_i, ↓no_b, ↓no_s, ↓no_t, ↓no_l, ↓no_r, ↓bi_add, ↓bi_sub, ↓bi_mul, ↓bi_div, ↓bi_mod, ↓bi_pow, ↓wl_ixN, ↓b_ii, ↓b_ss, ↓b_ll, ↓b_lf, ↓b_fl, ↓b_ff, ↓b_tt, ↓b_lm, ↓b_tm, ↓c_eqi, ↓c_nei, ↓c_lt, ↓c_le, ↓c_gt, ↓c_ge, ↓id_t, ↓id_l, ↓id_o, ↓wl_at0, ↓wl_at1, ↓wl_at2, ↓wl_at3, ↓at_map, ↓sl_t, ↓sl_l, ↓sl_o, ↓oi_n, ↓oi_i, ↓bl_len, ↓len_l, ↓len_f, ↓len_t, ↓len_s, ↓bl_maxs, ↓bl_mins, ↓bl_max2, ↓bl_min2, ↓bl_abs, ↓bl_sum, ↓bl_sumf, ↓bl_all, ↓bl_any, ↓any_map, ↓all_map, ↓bl_listl, ↓bl_listf, ↓bl_listt, ↓bl_tupl, ↓bl_tupf, ↓bl_tupt, ↓bl_intb, ↓bl_inti, ↓bl_str, ↓bl_isi, ↓bl_sorted, ↓bl_repr, ↓max_t, ↓max_l, ↓max_o, ↓min_t, ↓min_l, ↓min_o, ↓kd_r1, ↓kd_r2, ↓kd_r3, ↓kd_r4, ↓kd_r5, ↓kd_r6, ↓kd_r7, ↓ns_1, ↓ns_2, ↓ns_3, ↓ns_4, ↓ns_5, ↓ns_6, ↓ns_7, ↓ns_8, ↓lt_c, ↓lt_d, ↓bk_1, ↓bk_2, ↓bk_3, ↓bk_4, ↓bk_5, ↓bk_6, ↓bk_7, ↓bk_8, ↓wp_ret, ↓wl_some, ↓turn_u, ↓Vf_0, ↓Vt_0, ↓Vm_0, ↓Vf_1, ↓Vt_1, ↓Vm_1, ↓Vf_2, ↓Vt_2, ↓Vm_2, ↓Vf_3, ↓Vt_3, ↓Vm_3, ↓Vf_4, ↓Vt_4, ↓Vm_4, ↓Vf_5, ↓Vt_5, ↓Vm_5, ↓Vf_6, ↓Vt_6, ↓Vm_6, ↓Vf_7, ↓Vt_7, ↓Vm_7, ↓Vf_8, ↓Vt_8, ↓Vm_8, ↓Vf_9, ↓Vt_9, ↓Vm_9, ↓Vf_10, ↓Vt_10, ↓Vm_10, ↓Vf_11, ↓Vt_11, ↓Vm_11, ↓Vf_12, ↓Vt_12, ↓Vm_12, ↓Vf_13, ↓Vt_13, ↓Vm_13, ↓Vf_14, ↓Vt_14, ↓Vm_14, ↓Vf_15, ↓Vt_15, ↓Vm_15, ↓Vf_16, ↓Vt_16, ↓Vm_16, ↓Vf_17, ↓Vt_17, ↓Vm_17, ↓Vf_18, ↓Vt_18, ↓Vm_18, ↓Vf_19, ↓Vt_19, ↓Vm_19, ↓Vf_20, ↓Vt_20, ↓Vm_20, ↓Vf_21, ↓Vt_21, ↓Vm_21, ↓Vf_22, ↓Vt_22, ↓Vm_22, ↓Vf_23, ↓Vt_23, ↓Vm_23, ↓Vf_24, ↓Vt_24, ↓Vm_24, ↓Vf_25, ↓Vt_25, ↓Vm_25, ↓Vf_26, ↓Vt_26, ↓Vm_26, ↓Vf_27, ↓Vt_27, ↓Vm_27, ↓Vf_28, ↓Vt_28, ↓Vm_28, ↓Vf_29, ↓Vt_29, ↓Vm_29, ↓Vf_30, ↓Vt_30, ↓Vm_30, ↓Vf_31, ↓Vt_31, ↓Vm_31, e_const, e_bop, e_neg, e_cop, e_ch2, e_isN, e_notN, e_not, e_and, e_or, e_ife, e_idx, e_slc, e_asI, e_rev, e_tup, e_lst, e_call, e_callk, e_bi, e_comp, es_nil, es_cons, ts_nil, ts_cons, it_seq, it_range1, it_range2, it_enum, it_revd, it_zipt, it_zipf, ss_nil, ss_last, s_setv, s_sett, s_par, s_ext, s_mt0, mt0_l, mt0_rev, mt0_clr, s_aug, aug_i, aug_l, augL_l, seti_l, own_l, s_seti, s_expr, app_l, s_app, s_iff, s_whl, s_for, ret_v, ret_s, retS_l, s_ret, s_retN, s_brk, s_cont, s_pass, s_never, nx_n, nx_r, nx_b, nx_c, fl_n, fl_c, fl_b, fl_r, vl_v, vl_s, putr_f, putr_l, tg_n, tg_t, tgs_n, tgs_c, pa_n, pa_c, par_n, par_v, par_s, rd_v, rd_s, rdS_m, ri_v, hd_f, hd_l, hd_s, hs_c, hs_l, hds_n, hds_c, rds_n, rds_c, ab_v, sq_l, sq_t, pd_n, pd_c, ix_z, ix_s, if_t, if_f, if_n, if_d, no_n, no_i, no_b, no_s, no_t, no_l, no_r, bi_add, bi_sub, bi_mul, bi_div, bi_mod, bi_pow, wl_ixN, b_ii, b_ss, b_ll, b_lf, b_fl, b_ff, b_tt, b_lm, b_tm, c_eqi, c_nei, c_lt, c_le, c_gt, c_ge, id_t, id_l, id_o, wl_at0, wl_at1, wl_at2, wl_at3, at_map, sl_t, sl_l, sl_o, oi_n, oi_i, bl_len, len_l, len_f, len_t, len_s, bl_maxs, bl_mins, bl_max2, bl_min2, bl_abs, bl_sum, bl_sumf, bl_all, bl_any, any_map, all_map, bl_listl, bl_listf, bl_listt, bl_tupl, bl_tupf, bl_tupt, bl_intb, bl_inti, bl_str, bl_isi, bl_sorted, bl_repr, max_t, max_l, max_o, min_t, min_l, min_o, kd_r1, kd_r2, kd_r3, kd_r4, kd_r5, kd_r6, kd_r7, ns_1, ns_2, ns_3, ns_4, ns_5, ns_6, ns_7, ns_8, lt_c, lt_d, bk_1, bk_2, bk_3, bk_4, bk_5, bk_6, bk_7, bk_8, wp_ret, wl_some, turn_u, Vf_0, Vt_0, Vm_0, Vf_1, Vt_1, Vm_1, Vf_2, Vt_2, Vm_2, Vf_3, Vt_3, Vm_3, Vf_4, Vt_4, Vm_4, Vf_5, Vt_5, Vm_5, Vf_6, Vt_6, Vm_6, Vf_7, Vt_7, Vm_7, Vf_8, Vt_8, Vm_8, Vf_9, Vt_9, Vm_9, Vf_10, Vt_10, Vm_10, Vf_11, Vt_11, Vm_11, Vf_12, Vt_12, Vm_12, Vf_13, Vt_13, Vm_13, Vf_14, Vt_14, Vm_14, Vf_15, Vt_15, Vm_15, Vf_16, Vt_16, Vm_16, Vf_17, Vt_17, Vm_17, Vf_18, Vt_18, Vm_18, Vf_19, Vt_19, Vm_19, Vf_20, Vt_20, Vm_20, Vf_21, Vt_21, Vm_21, Vf_22, Vt_22, Vm_22, Vf_23, Vt_23, Vm_23, Vf_24, Vt_24, Vm_24, Vf_25, Vt_25, Vm_25, Vf_26, Vt_26, Vm_26, Vf_27, Vt_27, Vm_27, Vf_28, Vt_28, Vm_28, Vf_29, Vt_29, Vm_29, Vf_30, Vt_30, Vm_30, Vf_31, Vt_31, Vm_31, put_k, set_c, set_d, set_b, set_f, cln_nil, cln_n, cln_f, cln_m, cln_l, cln_d, szi, szl, dv_t, pw_t, sml_l, sml_r, decide_eq_true_eq, Int.reduceMul, Int.reduceMod, Int.reduceAdd, Int.reduceSub, Int.reduceDiv, Int.reduceNeg, Int.natAbs_zero, un_nil, un_n, un_f, un_m, fz_nil, fz_n, fz_f, fz_m, fz_l, fz_d, nl_nil, nl_n, nl_f, nl_m, nl_l, nl_d, mf_nil, mf_n, mf_f, mf_m, mf_l, mf_d, df_nil, df_n, df_f, df_m, df_l, df_d, ik_n, ik_f, ik_m, ko_n, ko_f, ko_k, ko_o, eqv_ii, cut_m, enum_map, zip_map, ints_zero, wi_n, wi_c, ba_n, ba_c, toD_f, toD_l, slo_f, slo_l, sc_i, sc_b, sc_s, sc_n, sc_l, sc_t, scr_f, scr_l, Bool.and_self, Bool.true_and, Bool.and_true, List.all_cons, List.all_nil, Int.toNat_natCast, Int.natCast_nonneg, Int.reduceLT, Int.reduceLE, Int.cast_ofNat_Int, c_eqS, c_neS, shp_int, shp_bool, shp_none, shp_list, shp_tuple, shpl_nil, shpl_cons, shpl_app, shpl_map, shp_leg, shp_road, implies_true, and_self, List.length_cons, List.length_nil, List.length_map, List.cons_append, List.nil_append, Nat.reduceAdd, Nat.reduceLT, Nat.reduceLeDiff, Nat.zero_add, Int.reduceNeg, Int.reducePow, Int.reduceToNat, true_and, and_true, reduceIte, eq_self, decide_true, decide_false, Bool.not_true, Bool.not_false, Bool.false_eq_true, Bool.true_eq_false, false_implies, forall_const, not_true_eq_false, not_false_eq_true, G_0, L_0, G_1, L_1, G_2, L_2, G_3, L_3, G_4, L_4, G_5, L_5, G_6, L_6, G_7, L_7, G_8, L_8, G_9, L_9, G_10, L_10, G_11, L_11, G_12, L_12, G_13, L_13, G_14, L_14, G_15, L_15, G_16, L_16, G_17, L_17, G_18, L_18, G_19, L_19, G_20, L_20, G_21, L_21, G_22, L_22, G_23, L_23, G_24, L_24, G_25, L_25, G_26, L_26, G_27, L_27, G_28, L_28, G_29, L_29, G_30, L_30, G_31, L_31, cln_x, un_x, fz_x, nl_x, mf_x, df_x, ik_x, ko_x, $xs,*])
theorem foldl_max_ge (xs : List Int) : ∀ n, n ≤ xs.foldl max n ∧ ∀ x ∈ xs, x ≤ xs.foldl max n := by
  induction xs with
  | nil => exact fun n => ⟨Int.le_refl _, fun x hx => nomatch hx⟩
  | cons y ys ih =>
    intro n
    obtain ⟨h1, h2⟩ := ih (max n y)
    rw [List.foldl_cons]
    refine ⟨by omega, fun x hx => ?_⟩
    rcases List.mem_cons.mp hx with rfl | hx
    · omega
    · exact h2 x hx
theorem foldl_max_mem (xs : List Int) : ∀ n, xs.foldl max n = n ∨ xs.foldl max n ∈ xs := by
  induction xs with
  | nil => exact fun n => .inl rfl
  | cons y ys ih =>
    intro n
    rw [List.foldl_cons]
    rcases ih (max n y) with h | h
    · rw [h]
      by_cases z : n ≤ y
      · exact .inr (by rw [show max n y = y by omega]; exact List.mem_cons_self)
      · exact .inl (by omega)
    · exact .inr (List.mem_cons_of_mem _ h)
theorem maxL_ge {xs : List Int} {x : Int} (h : x ∈ xs) : x ≤ maxL xs := by
  cases xs with
  | nil => cases h
  | cons n ns =>
    rcases List.mem_cons.mp h with rfl | h
    · exact (foldl_max_ge ns _).1
    · exact (foldl_max_ge ns n).2 x h
theorem maxL_mem {xs : List Int} (h : xs ≠ []) : maxL xs ∈ xs := by
  cases xs with
  | nil => exact absurd rfl h
  | cons n ns =>
    rcases foldl_max_mem ns n with e | e
    · show ns.foldl max n ∈ _
      rw [e]; exact List.mem_cons_self
    · exact List.mem_cons_of_mem _ e
theorem ix_last {α : Type} [Inhabited α] {l : List α} {y : α} : ix (l ++ [y]) (-1) = y := by
  unfold ix
  rw [at_last (by simp)]; simp
/-- what rises, alike or more -/
def Srt (xs : List Int) : Prop := xs.Pairwise (· ≤ ·)
theorem srt_snoc {xs : List Int} {x : Int} (h : Srt xs) (hx : ∀ y ∈ xs, y ≤ x) : Srt (xs ++ [x]) := List.pairwise_append.mpr ⟨h, by simp, fun a ha b hb => by rw [List.mem_singleton.mp hb]; exact hx a ha⟩
theorem srt_last {xs : List Int} {x : Int} (h : Srt (xs ++ [x])) : ∀ y ∈ xs ++ [x], y ≤ x := fun y hy => by
  rcases List.mem_append.mp hy with hy | hy
  · exact (List.pairwise_append.mp h).2.2 y hy x (by simp)
  · rw [List.mem_singleton.mp hy]; exact Int.le_refl _
/-- setting-outs, in order, none below m -/
structure Outs (m : Int) (n : Nat) (xs : List Int) : Prop where
  ne : xs ≠ []
  len : xs.length ≤ n
  srt : Srt xs
  low : ∀ x ∈ xs, m ≤ x
theorem outs_w {t : Tp} {r : Road} {n : Nat} {Q : R → Sto → Prop} (hr : r.legs ≠ []) (hf : r.firsts ≠ []) (hl : ∀ l ∈ r.legs, LegOk l ∧ l.full ≤ 300000) (hrl : r.legs.length ≤ 1000) (hn : 1 ≤ n) (hn' : n ≤ 40) (hc : t.c + 300 ≤ 2 ^ 40)
    (h : ∀ xs t', Outs (maxL r.firsts) n xs → (∀ x ∈ xs, x ≤ maxL r.firsts + 40000000) → t'.c ≤ t.c + 300 → Q (.frz (.tuple (xs.map .int))) [tS t', none, none]) :
    wp (f_law_outs.sf [tS t, some (.frz (roadD r)), some (.frz (.int n))]) Q := by
  unfold roadD
  have hpos : 0 < r.legs.length := List.length_pos_iff.mpr hr
  simp_all? only [o_law_outs, ↓u_law_outs_2a__1, ↓u_law_outs_2a, ↓u_law_outs__3, ↓u_law_outs__2, ↓u_law_outs__1, ↓u_law_outs, k_law_draw]
  (refine draw_w (by omega) (by omega) (by omega) fun i1 t1 ai1 bi1 ct1 => ?_); simp_all? only [o_law_outs, ↓u_law_outs_2a__1, ↓u_law_outs_2a, ↓u_law_outs__3, ↓u_law_outs__2, ↓u_law_outs__1, ↓u_law_outs, k_law_draw]
  refine ⟨⟨by omega, by omega⟩, ?_⟩
  obtain ⟨lk, lf⟩ := hl _ (ix_mem ai1 (by omega))
  revert lk lf
  generalize ix r.legs i1 = leg
  intro lk lf
  unfold legD LegOk at *
  simp_all? only [o_law_outs, ↓u_law_outs_2a__1, ↓u_law_outs_2a, ↓u_law_outs__3, ↓u_law_outs__2, ↓u_law_outs__1, ↓u_law_outs, k_law_draw]
  refine ⟨hf, ?_⟩
  (refine draw_w (by omega) (by omega) (by omega) fun i2 t2 ai2 bi2 ct2 => ?_); simp_all? only [o_law_outs, ↓u_law_outs_2a__1, ↓u_law_outs_2a, ↓u_law_outs__3, ↓u_law_outs__2, ↓u_law_outs__1, ↓u_law_outs, k_law_draw]
  refine idx3 ai2 bi2 fun w hw => ?_
  (refine draw_w (by omega) (by omega) (by omega) fun i3 t3 ai3 bi3 ct3 => ?_); simp_all? only [o_law_outs, ↓u_law_outs_2a__1, ↓u_law_outs_2a, ↓u_law_outs__3, ↓u_law_outs__2, ↓u_law_outs__1, ↓u_law_outs, k_law_draw]
  (refine draw_w (by omega) (by omega) (by omega) fun i4 t4 ai4 bi4 ct4 => ?_); simp_all? only [o_law_outs, ↓u_law_outs_2a__1, ↓u_law_outs_2a, ↓u_law_outs__3, ↓u_law_outs__2, ↓u_law_outs__1, ↓u_law_outs, k_law_draw]
  refine ⟨⟨by omega, by omega⟩, for_inv (ys := List.range i4.toNat) (F := fun k => .int (k : Nat)) (fun pre ρ' => ∃ init y t' x7 x8, ρ' = [tS t', some (.frz (roadD r)), some (.frz (.int n)), some (.frz (.int leg.full)), some (.frz (.int leg.least)), some (.frz (.int leg.most)), some (.mut .clean false ((init ++ [y]).map .int)), x7, x8] ∧ fr x7 = true ∧ fr x8 = true ∧ init.length = pre.length ∧ Srt (init ++ [y]) ∧ (∀ x ∈ init ++ [y], maxL r.firsts ≤ x) ∧ y ≤ maxL r.firsts + 600100 * (pre.length + 1) ∧ t'.c ≤ t4.c + 4 * pre.length) rfl ⟨[], _, t4, none, none, rfl, rfl, rfl, rfl, by unfold Srt; simp, by simp; omega, by simp; omega, by simp⟩ ?_ ?_⟩
  · rintro pre k post ρ e ⟨init, y, t5, x7, x8, rfl, hx7, hx8, hlen, hs, hlo, hhi, hcc⟩
    have hp : pre.length + 1 ≤ i4.toNat := by
      have := congrArg List.length e
      simp at this; omega
    simp_all? [o_law_outs, ↓u_law_outs_2a__1, ↓u_law_outs_2a, ↓u_law_outs__3, ↓u_law_outs__2, ↓u_law_outs__1, ↓u_law_outs, k_law_draw, hx7, hx8]
    (refine draw_w (by omega) (by omega) (by omega) fun i6 t6 ai6 bi6 ct6 => ?_); simp_all? only [o_law_outs, ↓u_law_outs_2a__1, ↓u_law_outs_2a, ↓u_law_outs__3, ↓u_law_outs__2, ↓u_law_outs__1, ↓u_law_outs, k_law_draw, hx8]
    refine ⟨⟨by rw [List.length_append, List.length_singleton]; omega, by omega⟩, ?_⟩
    rw [ix_last]
    (refine draw_w (by omega) (by omega) (by omega) fun i7 t7 ai7 bi7 ct7 => ?_); simp_all? only [o_law_outs, ↓u_law_outs_2a__1, ↓u_law_outs_2a, ↓u_law_outs__3, ↓u_law_outs__2, ↓u_law_outs__1, ↓u_law_outs, k_law_draw]
    (refine draw_w (by omega) (by omega) (by omega) fun i8 t8 ai8 bi8 ct8 => ?_); simp_all? only [o_law_outs, ↓u_law_outs_2a__1, ↓u_law_outs_2a, ↓u_law_outs__3, ↓u_law_outs__2, ↓u_law_outs__1, ↓u_law_outs, k_law_draw]
    (refine draw_w (by omega) (by omega) (by omega) fun i9 t9 ai9 bi9 ct9 => ?_); simp_all? only [o_law_outs, ↓u_law_outs_2a__1, ↓u_law_outs_2a, ↓u_law_outs__3, ↓u_law_outs__2, ↓u_law_outs__1, ↓u_law_outs, k_law_draw]
    refine idx4 ai9 bi9 fun z hz => ?_
    simp_all? only [o_law_outs, ↓u_law_outs_2a__1, ↓u_law_outs_2a, ↓u_law_outs__3, ↓u_law_outs__2, ↓u_law_outs__1, ↓u_law_outs, hx7, hx8]
    have hin : init.length + 1 ≤ 40 := by omega
    refine ⟨by rw [List.length_append, List.length_singleton]; omega, init ++ [y], y + z, t9, _, _, by rw [List.map_append (l₁ := init ++ [y])]; rfl, rfl, rfl, by simp [hlen], srt_snoc hs fun x hx => by have := srt_last hs x hx; omega, fun x hx => ?_, ?_, ?_⟩
    · rcases List.mem_append.mp hx with hx | hx
      · exact hlo x hx
      · have := hlo y (by simp)
        rw [List.mem_singleton.mp hx]; omega
    · rw [List.length_append, List.length_singleton]; omega
    · rw [List.length_append, List.length_singleton]; omega
  · rintro ρ ⟨init, y, t5, x7, x8, rfl, hx7, hx8, hlen, hs, hlo, hhi, hcc⟩
    rw [List.length_range] at hlen hhi hcc
    simp_all? [o_law_outs, ↓u_law_outs_2a__1, ↓u_law_outs_2a, ↓u_law_outs__3, ↓u_law_outs__2, ↓u_law_outs__1, ↓u_law_outs, hx7, hx8]
    refine h (init ++ [y]) t5 ⟨by simp, by rw [List.length_append, List.length_singleton]; omega, hs, hlo⟩ (fun x hx => ?_) (by omega)
    have := srt_last hs x hx
    omega
end Rx
set_option Elab.async false
set_option linter.all false
set_option maxHeartbeats 4000000
/-! SpD4: cells folded -/
namespace Rx
open PySem PySem.Spec L2
set_option maxRecDepth 100000
local macro_rules | `(tactic| simp_all? only [$xs,*]) => `(tactic| simp only [↓e_const, ↓e_bop, ↓e_neg, ↓e_cop, ↓e_ch2, ↓e_isN, ↓e_notN, ↓e_not, ↓e_and, ↓e_or, ↓e_ife, ↓e_idx, ↓e_slc, ↓e_asI, ↓e_rev, ↓e_tup, ↓e_lst, ↓e_call, ↓e_callk, ↓e_bi, ↓e_comp, ↓es_nil, ↓es_cons, ↓ts_nil, ↓ts_cons, ↓it_seq, ↓it_range1, ↓it_range2, ↓it_enum, ↓it_revd, ↓it_zipt, ↓it_zipf, ↓ss_nil, ↓ss_last, ↓s_setv, ↓s_sett, ↓s_par, ↓s_ext, ↓s_mt0, ↓mt0_l, ↓mt0_rev, ↓mt0_clr, ↓s_aug, ↓aug_i, ↓aug_l, ↓augL_l, ↓seti_l, ↓own_l, ↓s_seti, ↓s_expr, ↓app_l, ↓s_app, ↓s_iff, ↓s_whl, ↓s_for, ↓ret_v, ↓ret_s, ↓retS_l, ↓s_ret, ↓s_retN, ↓s_brk, ↓s_cont, ↓s_pass, ↓s_never, ↓nx_n, ↓nx_r, ↓nx_b, ↓nx_c, ↓fl_n, ↓fl_c, ↓fl_b, ↓fl_r, ↓vl_v, ↓vl_s, ↓putr_f, ↓putr_l, ↓tg_n, ↓tg_t, ↓tgs_n, ↓tgs_c, ↓pa_n, ↓pa_c, ↓par_n, ↓par_v, ↓par_s, ↓rd_v, ↓rd_s, ↓rdS_m, ↓ri_v, ↓hd_f, ↓hd_l, ↓hd_s, ↓hs_c, ↓hs_l, ↓hds_n, ↓hds_c, ↓rds_n, ↓rds_c, ↓ab_v, ↓sq_l, ↓sq_t, ↓pd_n, ↓pd_c, ↓ix_z, ↓ix_s, ↓if_t, ↓if_f, ↓if_n, ↓if_d, ↓no_n, ↓no_i, ↓no_b, ↓no_s, ↓no_t, ↓no_l, ↓no_r, ↓bi_add, ↓bi_sub, ↓bi_mul, ↓bi_div, ↓bi_mod, ↓bi_pow, ↓wl_ixN, ↓b_ii, ↓b_ss, ↓b_ll, ↓b_lf, ↓b_fl, ↓b_ff, ↓b_tt, ↓b_lm, ↓b_tm, ↓c_eqi, ↓c_nei, ↓c_lt, ↓c_le, ↓c_gt, ↓c_ge, ↓id_t, ↓id_l, ↓id_o, ↓wl_at0, ↓wl_at1, ↓wl_at2, ↓wl_at3, ↓at_map, ↓sl_t, ↓sl_l, ↓sl_o, ↓oi_n, ↓oi_i, ↓bl_len, ↓len_l, ↓len_f, ↓len_t, ↓len_s, ↓bl_maxs, ↓bl_mins, ↓bl_max2, ↓bl_min2, ↓bl_abs, ↓bl_sum, ↓bl_sumf, ↓bl_all, ↓bl_any, ↓any_map, ↓all_map, ↓bl_listl, ↓bl_listf, ↓bl_listt, ↓bl_tupl, ↓bl_tupf, ↓bl_tupt, ↓bl_intb, ↓bl_inti, ↓bl_str, ↓bl_isi, ↓bl_sorted, ↓bl_repr, ↓max_t, ↓max_l, ↓max_o, ↓min_t, ↓min_l, ↓min_o, ↓kd_r1, ↓kd_r2, ↓kd_r3, ↓kd_r4, ↓kd_r5, ↓kd_r6, ↓kd_r7, ↓ns_1, ↓ns_2, ↓ns_3, ↓ns_4, ↓ns_5, ↓ns_6, ↓ns_7, ↓ns_8, ↓lt_c, ↓lt_d, ↓bk_1, ↓bk_2, ↓bk_3, ↓bk_4, ↓bk_5, ↓bk_6, ↓bk_7, ↓bk_8, ↓wp_ret, ↓wl_some, ↓turn_u, ↓Vf_0, ↓Vt_0, ↓Vm_0, ↓Vf_1, ↓Vt_1, ↓Vm_1, ↓Vf_2, ↓Vt_2, ↓Vm_2, ↓Vf_3, ↓Vt_3, ↓Vm_3, ↓Vf_4, ↓Vt_4, ↓Vm_4, ↓Vf_5, ↓Vt_5, ↓Vm_5, ↓Vf_6, ↓Vt_6, ↓Vm_6, ↓Vf_7, ↓Vt_7, ↓Vm_7, ↓Vf_8, ↓Vt_8, ↓Vm_8, ↓Vf_9, ↓Vt_9, ↓Vm_9, ↓Vf_10, ↓Vt_10, ↓Vm_10, ↓Vf_11, ↓Vt_11, ↓Vm_11, ↓Vf_12, ↓Vt_12, ↓Vm_12, ↓Vf_13, ↓Vt_13, ↓Vm_13, ↓Vf_14, ↓Vt_14, ↓Vm_14, ↓Vf_15, ↓Vt_15, ↓Vm_15, ↓Vf_16, ↓Vt_16, ↓Vm_16, ↓Vf_17, ↓Vt_17, ↓Vm_17, ↓Vf_18, ↓Vt_18, ↓Vm_18, ↓Vf_19, ↓Vt_19, ↓Vm_19, ↓Vf_20, ↓Vt_20, ↓Vm_20, ↓Vf_21, ↓Vt_21, ↓Vm_21, ↓Vf_22, ↓Vt_22, ↓Vm_22, ↓Vf_23, ↓Vt_23, ↓Vm_23, ↓Vf_24, ↓Vt_24, ↓Vm_24, ↓Vf_25, ↓Vt_25, ↓Vm_25, ↓Vf_26, ↓Vt_26, ↓Vm_26, ↓Vf_27, ↓Vt_27, ↓Vm_27, ↓Vf_28, ↓Vt_28, ↓Vm_28, ↓Vf_29, ↓Vt_29, ↓Vm_29, ↓Vf_30, ↓Vt_30, ↓Vm_30, ↓Vf_31, ↓Vt_31, ↓Vm_31, e_const, e_bop, e_neg, e_cop, e_ch2, e_isN, e_notN, e_not, e_and, e_or, e_ife, e_idx, e_slc, e_asI, e_rev, e_tup, e_lst, e_call, e_callk, e_bi, e_comp, es_nil, es_cons, ts_nil, ts_cons, it_seq, it_range1, it_range2, it_enum, it_revd, it_zipt, it_zipf, ss_nil, ss_last, s_setv, s_sett, s_par, s_ext, s_mt0, mt0_l, mt0_rev, mt0_clr, s_aug, aug_i, aug_l, augL_l, seti_l, own_l, s_seti, s_expr, app_l, s_app, s_iff, s_whl, s_for, ret_v, ret_s, retS_l, s_ret, s_retN, s_brk, s_cont, s_pass, s_never, nx_n, nx_r, nx_b, nx_c, fl_n, fl_c, fl_b, fl_r, vl_v, vl_s, putr_f, putr_l, tg_n, tg_t, tgs_n, tgs_c, pa_n, pa_c, par_n, par_v, par_s, rd_v, rd_s, rdS_m, ri_v, hd_f, hd_l, hd_s, hs_c, hs_l, hds_n, hds_c, rds_n, rds_c, ab_v, sq_l, sq_t, pd_n, pd_c, ix_z, ix_s, if_t, if_f, if_n, if_d, no_n, no_i, no_b, no_s, no_t, no_l, no_r, bi_add, bi_sub, bi_mul, bi_div, bi_mod, bi_pow, wl_ixN, b_ii, b_ss, b_ll, b_lf, b_fl, b_ff, b_tt, b_lm, b_tm, c_eqi, c_nei, c_lt, c_le, c_gt, c_ge, id_t, id_l, id_o, wl_at0, wl_at1, wl_at2, wl_at3, at_map, sl_t, sl_l, sl_o, oi_n, oi_i, bl_len, len_l, len_f, len_t, len_s, bl_maxs, bl_mins, bl_max2, bl_min2, bl_abs, bl_sum, bl_sumf, bl_all, bl_any, any_map, all_map, bl_listl, bl_listf, bl_listt, bl_tupl, bl_tupf, bl_tupt, bl_intb, bl_inti, bl_str, bl_isi, bl_sorted, bl_repr, max_t, max_l, max_o, min_t, min_l, min_o, kd_r1, kd_r2, kd_r3, kd_r4, kd_r5, kd_r6, kd_r7, ns_1, ns_2, ns_3, ns_4, ns_5, ns_6, ns_7, ns_8, lt_c, lt_d, bk_1, bk_2, bk_3, bk_4, bk_5, bk_6, bk_7, bk_8, wp_ret, wl_some, turn_u, Vf_0, Vt_0, Vm_0, Vf_1, Vt_1, Vm_1, Vf_2, Vt_2, Vm_2, Vf_3, Vt_3, Vm_3, Vf_4, Vt_4, Vm_4, Vf_5, Vt_5, Vm_5, Vf_6, Vt_6, Vm_6, Vf_7, Vt_7, Vm_7, Vf_8, Vt_8, Vm_8, Vf_9, Vt_9, Vm_9, Vf_10, Vt_10, Vm_10, Vf_11, Vt_11, Vm_11, Vf_12, Vt_12, Vm_12, Vf_13, Vt_13, Vm_13, Vf_14, Vt_14, Vm_14, Vf_15, Vt_15, Vm_15, Vf_16, Vt_16, Vm_16, Vf_17, Vt_17, Vm_17, Vf_18, Vt_18, Vm_18, Vf_19, Vt_19, Vm_19, Vf_20, Vt_20, Vm_20, Vf_21, Vt_21, Vm_21, Vf_22, Vt_22, Vm_22, Vf_23, Vt_23, Vm_23, Vf_24, Vt_24, Vm_24, Vf_25, Vt_25, Vm_25, Vf_26, Vt_26, Vm_26, Vf_27, Vt_27, Vm_27, Vf_28, Vt_28, Vm_28, Vf_29, Vt_29, Vm_29, Vf_30, Vt_30, Vm_30, Vf_31, Vt_31, Vm_31, put_k, set_c, set_d, set_b, set_f, cln_nil, cln_n, cln_f, cln_m, cln_l, cln_d, szi, szl, dv_t, pw_t, sml_l, sml_r, decide_eq_true_eq, Int.reduceMul, Int.reduceMod, Int.reduceAdd, Int.reduceSub, Int.reduceDiv, Int.reduceNeg, Int.natAbs_zero, un_nil, un_n, un_f, un_m, fz_nil, fz_n, fz_f, fz_m, fz_l, fz_d, nl_nil, nl_n, nl_f, nl_m, nl_l, nl_d, mf_nil, mf_n, mf_f, mf_m, mf_l, mf_d, df_nil, df_n, df_f, df_m, df_l, df_d, ik_n, ik_f, ik_m, ko_n, ko_f, ko_k, ko_o, eqv_ii, cut_m, enum_map, zip_map, ints_zero, wi_n, wi_c, ba_n, ba_c, toD_f, toD_l, slo_f, slo_l, sc_i, sc_b, sc_s, sc_n, sc_l, sc_t, scr_f, scr_l, Bool.and_self, Bool.true_and, Bool.and_true, List.all_cons, List.all_nil, Int.toNat_natCast, Int.natCast_nonneg, Int.reduceLT, Int.reduceLE, Int.cast_ofNat_Int, c_eqS, c_neS, shp_int, shp_bool, shp_none, shp_list, shp_tuple, shpl_nil, shpl_cons, shpl_app, shpl_map, shp_leg, shp_road, implies_true, and_self, List.length_cons, List.length_nil, List.length_map, List.cons_append, List.nil_append, Nat.reduceAdd, Nat.reduceLT, Nat.reduceLeDiff, Nat.zero_add, Int.reduceNeg, Int.reducePow, Int.reduceToNat, true_and, and_true, reduceIte, eq_self, decide_true, decide_false, Bool.not_true, Bool.not_false, Bool.false_eq_true, Bool.true_eq_false, false_implies, forall_const, not_true_eq_false, not_false_eq_true, G_0, L_0, G_1, L_1, G_2, L_2, G_3, L_3, G_4, L_4, G_5, L_5, G_6, L_6, G_7, L_7, G_8, L_8, G_9, L_9, G_10, L_10, G_11, L_11, G_12, L_12, G_13, L_13, G_14, L_14, G_15, L_15, G_16, L_16, G_17, L_17, G_18, L_18, G_19, L_19, G_20, L_20, G_21, L_21, G_22, L_22, G_23, L_23, G_24, L_24, G_25, L_25, G_26, L_26, G_27, L_27, G_28, L_28, G_29, L_29, G_30, L_30, G_31, L_31, $xs,*])
local macro_rules | `(tactic| simp_all? [$xs,*]) => `(tactic| simp only [↓e_const, ↓e_bop, ↓e_neg, ↓e_cop, ↓e_ch2, ↓e_isN, ↓e_notN, ↓e_not, ↓e_and, ↓e_or, ↓e_ife, ↓e_idx, ↓e_slc, ↓e_asI, ↓e_rev, ↓e_tup, ↓e_lst, ↓e_call, ↓e_callk, ↓e_bi, ↓e_comp, ↓es_nil, ↓es_cons, ↓ts_nil, ↓ts_cons, ↓it_seq, ↓it_range1, ↓it_range2, ↓it_enum, ↓it_revd, ↓it_zipt, ↓it_zipf, ↓ss_nil, ↓ss_last, ↓s_setv, ↓s_sett, ↓s_par, ↓s_ext, ↓s_mt0, ↓mt0_l, ↓mt0_rev, ↓mt0_clr, ↓s_aug, ↓aug_i, ↓aug_l, ↓augL_l, ↓seti_l, ↓own_l, ↓s_seti, ↓s_expr, ↓app_l, ↓s_app, ↓s_iff, ↓s_whl, ↓s_for, ↓ret_v, ↓ret_s, ↓retS_l, ↓s_ret, ↓s_retN, ↓s_brk, ↓s_cont, ↓s_pass, ↓s_never, ↓nx_n, ↓nx_r, ↓nx_b, ↓nx_c, ↓fl_n, ↓fl_c, ↓fl_b, ↓fl_r, ↓vl_v, ↓vl_s, ↓putr_f, ↓putr_l, ↓tg_n, ↓tg_t, ↓tgs_n, ↓tgs_c, ↓pa_n, ↓pa_c, ↓par_n, ↓par_v, ↓par_s, ↓rd_v, ↓rd_s, ↓rdS_m, ↓ri_v, ↓hd_f, ↓hd_l, ↓hd_s, ↓hs_c, ↓hs_l, ↓hds_n, ↓hds_c, ↓rds_n, ↓rds_c, ↓ab_v, ↓sq_l, ↓sq_t, ↓pd_n, ↓pd_c, ↓ix_z, ↓ix_s, ↓if_t, ↓if_f, ↓if_n, ↓if_d, ↓no_n, ↓no_i, ↓no_b, ↓no_s, ↓no_t, ↓no_l, ↓no_r, ↓bi_add, ↓bi_sub, ↓bi_mul, ↓bi_div, ↓bi_mod, ↓bi_pow, ↓wl_ixN, ↓b_ii, ↓b_ss, ↓b_ll, ↓b_lf, ↓b_fl, ↓b_ff, ↓b_tt, ↓b_lm, ↓b_tm, ↓c_eqi, ↓c_nei, ↓c_lt, ↓c_le, ↓c_gt, ↓c_ge, ↓id_t, ↓id_l, ↓id_o, ↓wl_at0, ↓wl_at1, ↓wl_at2, ↓wl_at3, ↓at_map, ↓sl_t, ↓sl_l, ↓sl_o, ↓oi_n, ↓oi_i, ↓bl_len, ↓len_l, ↓len_f, ↓len_t, ↓len_s, ↓bl_maxs, ↓bl_mins, ↓bl_max2, ↓bl_min2, ↓bl_abs, ↓bl_sum, ↓bl_sumf, ↓bl_all, ↓bl_any, ↓any_map, ↓all_map, ↓bl_listl, ↓bl_listf, ↓bl_listt, ↓bl_tupl, ↓bl_tupf, ↓bl_tupt, ↓bl_intb, ↓bl_inti, ↓bl_str, ↓bl_isi, ↓bl_sorted, ↓bl_repr, ↓max_t, ↓max_l, ↓max_o, ↓min_t, ↓min_l, ↓min_o, ↓kd_r1, ↓kd_r2, ↓kd_r3, ↓kd_r4, ↓kd_r5, ↓kd_r6, ↓kd_r7, ↓ns_1, ↓ns_2, ↓ns_3, ↓ns_4, ↓ns_5, ↓ns_6, ↓ns_7, ↓ns_8, ↓lt_c, ↓lt_d, ↓bk_1, ↓bk_2, ↓bk_3, ↓bk_4, ↓bk_5, ↓bk_6, ↓bk_7, ↓bk_8, ↓wp_ret, ↓wl_some, ↓turn_u, ↓Vf_0, ↓Vt_0, ↓Vm_0, ↓Vf_1, ↓Vt_1, ↓Vm_1, ↓Vf_2, ↓Vt_2, ↓Vm_2, ↓Vf_3, ↓Vt_3, ↓Vm_3, ↓Vf_4, ↓Vt_4, ↓Vm_4, ↓Vf_5, ↓Vt_5, ↓Vm_5, ↓Vf_6, ↓Vt_6, ↓Vm_6, ↓Vf_7, ↓Vt_7, ↓Vm_7, ↓Vf_8, ↓Vt_8, ↓Vm_8, ↓Vf_9, ↓Vt_9, ↓Vm_9, ↓Vf_10, ↓Vt_10, ↓Vm_10, ↓Vf_11, ↓Vt_11, ↓Vm_11, ↓Vf_12, ↓Vt_12, ↓Vm_12, ↓Vf_13, ↓Vt_13, ↓Vm_13, ↓Vf_14, ↓Vt_14, ↓Vm_14, ↓Vf_15, ↓Vt_15, ↓Vm_15, ↓Vf_16, ↓Vt_16, ↓Vm_16, ↓Vf_17, ↓Vt_17, ↓Vm_17, ↓Vf_18, ↓Vt_18, ↓Vm_18, ↓Vf_19, ↓Vt_19, ↓Vm_19, ↓Vf_20, ↓Vt_20, ↓Vm_20, ↓Vf_21, ↓Vt_21, ↓Vm_21, ↓Vf_22, ↓Vt_22, ↓Vm_22, ↓Vf_23, ↓Vt_23, ↓Vm_23, ↓Vf_24, ↓Vt_24, ↓Vm_24, ↓Vf_25, ↓Vt_25, ↓Vm_25, ↓Vf_26, ↓Vt_26, ↓Vm_26, ↓Vf_27, ↓Vt_27, ↓Vm_27, ↓Vf_28, ↓Vt_28, ↓Vm_28, ↓Vf_29, ↓Vt_29, ↓Vm_29, ↓Vf_30, ↓Vt_30, ↓Vm_30, ↓Vf_31, ↓Vt_31, ↓Vm_31, e_const, e_bop, e_neg, e_cop, e_ch2, e_isN, e_notN, e_not, e_and, e_or, e_ife, e_idx, e_slc, e_asI, e_rev, e_tup, e_lst, e_call, e_callk, e_bi, e_comp, es_nil, es_cons, ts_nil, ts_cons, it_seq, it_range1, it_range2, it_enum, it_revd, it_zipt, it_zipf, ss_nil, ss_last, s_setv, s_sett, s_par, s_ext, s_mt0, mt0_l, mt0_rev, mt0_clr, s_aug, aug_i, aug_l, augL_l, seti_l, own_l, s_seti, s_expr, app_l, s_app, s_iff, s_whl, s_for, ret_v, ret_s, retS_l, s_ret, s_retN, s_brk, s_cont, s_pass, s_never, nx_n, nx_r, nx_b, nx_c, fl_n, fl_c, fl_b, fl_r, vl_v, vl_s, putr_f, putr_l, tg_n, tg_t, tgs_n, tgs_c, pa_n, pa_c, par_n, par_v, par_s, rd_v, rd_s, rdS_m, ri_v, hd_f, hd_l, hd_s, hs_c, hs_l, hds_n, hds_c, rds_n, rds_c, ab_v, sq_l, sq_t, pd_n, pd_c, ix_z, ix_s, if_t, if_f, if_n, if_d, no_n, no_i, no_b, no_s, no_t, no_l, no_r, bi_add, bi_sub, bi_mul, bi_div, bi_mod, bi_pow, wl_ixN, b_ii, b_ss, b_ll, b_lf, b_fl, b_ff, b_tt, b_lm, b_tm, c_eqi, c_nei, c_lt, c_le, c_gt, c_ge, id_t, id_l, id_o, wl_at0, wl_at1, wl_at2, wl_at3, at_map, sl_t, sl_l, sl_o, oi_n, oi_i, bl_len, len_l, len_f, len_t, len_s, bl_maxs, bl_mins, bl_max2, bl_min2, bl_abs, bl_sum, bl_sumf, bl_all, bl_any, any_map, all_map, bl_listl, bl_listf, bl_listt, bl_tupl, bl_tupf, bl_tupt, bl_intb, bl_inti, bl_str, bl_isi, bl_sorted, bl_repr, max_t, max_l, max_o, min_t, min_l, min_o, kd_r1, kd_r2, kd_r3, kd_r4, kd_r5, kd_r6, kd_r7, ns_1, ns_2, ns_3, ns_4, ns_5, ns_6, ns_7, ns_8, lt_c, lt_d, bk_1, bk_2, bk_3, bk_4, bk_5, bk_6, bk_7, bk_8, wp_ret, wl_some, turn_u, Vf_0, Vt_0, Vm_0, Vf_1, Vt_1, Vm_1, Vf_2, Vt_2, Vm_2, Vf_3, Vt_3, Vm_3, Vf_4, Vt_4, Vm_4, Vf_5, Vt_5, Vm_5, Vf_6, Vt_6, Vm_6, Vf_7, Vt_7, Vm_7, Vf_8, Vt_8, Vm_8, Vf_9, Vt_9, Vm_9, Vf_10, Vt_10, Vm_10, Vf_11, Vt_11, Vm_11, Vf_12, Vt_12, Vm_12, Vf_13, Vt_13, Vm_13, Vf_14, Vt_14, Vm_14, Vf_15, Vt_15, Vm_15, Vf_16, Vt_16, Vm_16, Vf_17, Vt_17, Vm_17, Vf_18, Vt_18, Vm_18, Vf_19, Vt_19, Vm_19, Vf_20, Vt_20, Vm_20, Vf_21, Vt_21, Vm_21, Vf_22, Vt_22, Vm_22, Vf_23, Vt_23, Vm_23, Vf_24, Vt_24, Vm_24, Vf_25, Vt_25, Vm_25, Vf_26, Vt_26, Vm_26, Vf_27, Vt_27, Vm_27, Vf_28, Vt_28, Vm_28, Vf_29, Vt_29, Vm_29, Vf_30, Vt_30, Vm_30, Vf_31, Vt_31, Vm_31, put_k, set_c, set_d, set_b, set_f, cln_nil, cln_n, cln_f, cln_m, cln_l, cln_d, szi, szl, dv_t, pw_t, sml_l, sml_r, decide_eq_true_eq, Int.reduceMul, Int.reduceMod, Int.reduceAdd, Int.reduceSub, Int.reduceDiv, Int.reduceNeg, Int.natAbs_zero, un_nil, un_n, un_f, un_m, fz_nil, fz_n, fz_f, fz_m, fz_l, fz_d, nl_nil, nl_n, nl_f, nl_m, nl_l, nl_d, mf_nil, mf_n, mf_f, mf_m, mf_l, mf_d, df_nil, df_n, df_f, df_m, df_l, df_d, ik_n, ik_f, ik_m, ko_n, ko_f, ko_k, ko_o, eqv_ii, cut_m, enum_map, zip_map, ints_zero, wi_n, wi_c, ba_n, ba_c, toD_f, toD_l, slo_f, slo_l, sc_i, sc_b, sc_s, sc_n, sc_l, sc_t, scr_f, scr_l, Bool.and_self, Bool.true_and, Bool.and_true, List.all_cons, List.all_nil, Int.toNat_natCast, Int.natCast_nonneg, Int.reduceLT, Int.reduceLE, Int.cast_ofNat_Int, c_eqS, c_neS, shp_int, shp_bool, shp_none, shp_list, shp_tuple, shpl_nil, shpl_cons, shpl_app, shpl_map, shp_leg, shp_road, implies_true, and_self, List.length_cons, List.length_nil, List.length_map, List.cons_append, List.nil_append, Nat.reduceAdd, Nat.reduceLT, Nat.reduceLeDiff, Nat.zero_add, Int.reduceNeg, Int.reducePow, Int.reduceToNat, true_and, and_true, reduceIte, eq_self, decide_true, decide_false, Bool.not_true, Bool.not_false, Bool.false_eq_true, Bool.true_eq_false, false_implies, forall_const, not_true_eq_false, not_false_eq_true, G_0, L_0, G_1, L_1, G_2, L_2, G_3, L_3, G_4, L_4, G_5, L_5, G_6, L_6, G_7, L_7, G_8, L_8, G_9, L_9, G_10, L_10, G_11, L_11, G_12, L_12, G_13, L_13, G_14, L_14, G_15, L_15, G_16, L_16, G_17, L_17, G_18, L_18, G_19, L_19, G_20, L_20, G_21, L_21, G_22, L_22, G_23, L_23, G_24, L_24, G_25, L_25, G_26, L_26, G_27, L_27, G_28, L_28, G_29, L_29, G_30, L_30, G_31, L_31, cln_x, un_x, fz_x, nl_x, mf_x, df_x, ik_x, ko_x, $xs,*])
theorem folded_w {ns : List Int} {m : Nat} (hn : ns.length ≤ 63) (hm : 1 ≤ m) (hm' : m ≤ 63) {Q : R → Sto → Prop} (h : ∀ cs : List Int, 1 ≤ cs.length → cs.length ≤ m → Q (.lst (cs.map .int)) [none, none]) :
    wp (f_law_folded.sf [some (.frz (.list (ns.map .int))), some (.frz (.int m))]) Q := by
  simp_all? only [o_law_folded, ↓u_law_folded_1a, ↓u_law_folded__2, ↓u_law_folded__1, ↓u_law_folded]
  rw [sl_hi (by omega), sl_lohi (by omega) (by omega)]
  refine for_inv (ys := ((ns.drop (m : Int).toNat).take ((63 : Int).toNat - (m : Int).toNat)).zipIdx) (F := fun p => .tuple [.int (p.2 : Nat), .int p.1]) (fun pre ρ' => ∃ (cs : List Int) (x3 x4 : Option Sl), ρ' = [some (.frz (.list (ns.map .int))), some (.frz (.int m)), some (.mut .clean false (cs.map .int)), x3, x4] ∧ fr x3 = true ∧ fr x4 = true ∧ cs.length = min m ns.length) rfl ⟨_, none, none, rfl, rfl, rfl, by rw [List.length_take]; omega⟩ ?_ ?_
  · rintro pre ⟨c, k⟩ post ρ e ⟨cs, x3, x4, rfl, hx3, hx4, hl⟩
    have hk : k < ns.length - m := by
      have hmem : (c, k) ∈ ((ns.drop (m : Int).toNat).take ((63 : Int).toNat - (m : Int).toNat)).zipIdx := by rw [e]; simp
      have := List.snd_lt_of_mem_zipIdx hmem
      simp at this; omega
    have hmod : (k : Int) % m < m := Int.emod_lt_of_pos _ (by omega)
    have hmod0 : 0 ≤ (k : Int) % m := Int.emod_nonneg _ (by omega)
    have hcl : cs.length = m := by omega
    simp_all? [o_law_folded, ↓u_law_folded_1a, ↓u_law_folded__2, ↓u_law_folded__1, ↓u_law_folded, hx3, hx4]
    rw [wl_ixN hmod0 (by omega)]
    refine ⟨by omega, ⟨by omega, by omega⟩, .inr (by omega), by omega, cs.set ((k : Int) % m).toNat (ix cs ((k : Int) % m) + c * (k + 2)), _, _, by rw [List.map_set], rfl, rfl, by rw [List.length_set]; exact hl⟩
  · rintro ρ ⟨cs, x3, x4, rfl, hx3, hx4, hl⟩
    simp_all? [o_law_folded, ↓u_law_folded_1a, ↓u_law_folded__2, ↓u_law_folded__1, ↓u_law_folded, hx3, hx4]
    rw [eqv_nil_l, if_d]
    refine ⟨fun _ => h [0] (by simp) (by simp; omega), fun z => h cs (List.length_pos_iff.mpr z) (by omega)⟩
end Rx
set_option Elab.async false
set_option linter.all false
set_option maxRecDepth 100000
set_option maxHeartbeats 4000000
namespace Rx
open PySem PySem.Spec PyProof.Rows L2
def b_bounds_of__1 : List S := [(.ret (.tup [(.bop .sub (.var 1) (.var 3)), (.bop .sub (.var 1) (.var 2))]))]
theorem u_bounds_of__1 (s : Option Sl) (ρ : Sto) (K : Fl → Sto → Prop) : wSs b_bounds_of__1 (s :: ρ) K = wS (.ret (.tup [(.bop .sub (.var 1) (.var 3)), (.bop .sub (.var 1) (.var 2))])) (s :: ρ) K := ss_last _ _ _
def b_bounds_of : List S := (.sett (.tup [(.nm 1), (.nm 2), (.nm 3)]) (.var 0)) :: b_bounds_of__1
theorem u_bounds_of (s : Option Sl) (ρ : Sto) (K : Fl → Sto → Prop) : wSs b_bounds_of (s :: ρ) K = wS (.sett (.tup [(.nm 1), (.nm 2), (.nm 3)]) (.var 0)) (s :: ρ) fun f ρ1 => nx f b_bounds_of__1 ρ1 K := ss_cons _ _
def f_bounds_of : Fi := ⟨[false], evDef 4 b_bounds_of⟩
theorem o_bounds_of (a0 : Option Sl) (Q : R → Sto → Prop) : wp (f_bounds_of.sf [a0]) Q = wSs b_bounds_of [a0, none, none, none] (kD 1 Q) := w_def (n := 4) (body := b_bounds_of) (ρa := [a0]) (Q := Q)
theorem k_bounds_of (x0 : Opd) (ρ : Sto) (Q : Opd → Sto → Prop) : wCall f_bounds_of [x0] ρ Q = wHard ρ x0 fun d0 ρ0 => wp (f_bounds_of.sf [some (.frz d0)]) fun r ρo => wNs 1 ρo (Q (.val r) ρ0) := call_f1 rfl
def b_held__1 : List S := [(.ret (.bi .max2 [(.var 2), (.bi .min2 [(.var 3), (.var 1)])]))]
theorem u_held__1 (s : Option Sl) (ρ : Sto) (K : Fl → Sto → Prop) : wSs b_held__1 (s :: ρ) K = wS (.ret (.bi .max2 [(.var 2), (.bi .min2 [(.var 3), (.var 1)])])) (s :: ρ) K := ss_last _ _ _
def b_held : List S := (.sett (.tup [(.nm 2), (.nm 3)]) (.call f_bounds_of [(.var 0)])) :: b_held__1
theorem u_held (s : Option Sl) (ρ : Sto) (K : Fl → Sto → Prop) : wSs b_held (s :: ρ) K = wS (.sett (.tup [(.nm 2), (.nm 3)]) (.call f_bounds_of [(.var 0)])) (s :: ρ) fun f ρ1 => nx f b_held__1 ρ1 K := ss_cons _ _
def f_held : Fi := ⟨[false, false], evDef 4 b_held⟩
theorem o_held (a0 a1 : Option Sl) (Q : R → Sto → Prop) : wp (f_held.sf [a0, a1]) Q = wSs b_held [a0, a1, none, none] (kD 2 Q) := w_def (n := 4) (body := b_held) (ρa := [a0, a1]) (Q := Q)
theorem k_held (x0 x1 : Opd) (ρ : Sto) (Q : Opd → Sto → Prop) : wCall f_held [x0, x1] ρ Q = wHard ρ x0 fun d0 ρ0 => wHard ρ0 x1 fun d1 ρ1 => wp (f_held.sf [some (.frz d0), some (.frz d1)]) fun r ρo => wNs 2 ρo (Q (.val r) ρ1) := call_f2 rfl
def b_over : List S := [(.ret (.bop .sub (.var 1) (.call f_held [(.var 0), (.var 1)])))]
theorem u_over (s : Option Sl) (ρ : Sto) (K : Fl → Sto → Prop) : wSs b_over (s :: ρ) K = wS (.ret (.bop .sub (.var 1) (.call f_held [(.var 0), (.var 1)]))) (s :: ρ) K := ss_last _ _ _
def f_over : Fi := ⟨[false, false], evDef 2 b_over⟩
theorem o_over (a0 a1 : Option Sl) (Q : R → Sto → Prop) : wp (f_over.sf [a0, a1]) Q = wSs b_over [a0, a1] (kD 2 Q) := w_def (n := 2) (body := b_over) (ρa := [a0, a1]) (Q := Q)
theorem k_over (x0 x1 : Opd) (ρ : Sto) (Q : Opd → Sto → Prop) : wCall f_over [x0, x1] ρ Q = wHard ρ x0 fun d0 ρ0 => wHard ρ0 x1 fun d1 ρ1 => wp (f_over.sf [some (.frz d0), some (.frz d1)]) fun r ρo => wNs 2 ρo (Q (.val r) ρ1) := call_f2 rfl
def b_ride_of : List S := [(.ret (.bop .sub (.idx (.var 0) (.const (.int 0))) (.call f_held [(.var 0), (.var 1)])))]
theorem u_ride_of (s : Option Sl) (ρ : Sto) (K : Fl → Sto → Prop) : wSs b_ride_of (s :: ρ) K = wS (.ret (.bop .sub (.idx (.var 0) (.const (.int 0))) (.call f_held [(.var 0), (.var 1)]))) (s :: ρ) K := ss_last _ _ _
def f_ride_of : Fi := ⟨[false, false], evDef 2 b_ride_of⟩
theorem o_ride_of (a0 a1 : Option Sl) (Q : R → Sto → Prop) : wp (f_ride_of.sf [a0, a1]) Q = wSs b_ride_of [a0, a1] (kD 2 Q) := w_def (n := 2) (body := b_ride_of) (ρa := [a0, a1]) (Q := Q)
theorem k_ride_of (x0 x1 : Opd) (ρ : Sto) (Q : Opd → Sto → Prop) : wCall f_ride_of [x0, x1] ρ Q = wHard ρ x0 fun d0 ρ0 => wHard ρ0 x1 fun d1 ρ1 => wp (f_ride_of.sf [some (.frz d0), some (.frz d1)]) fun r ρo => wNs 2 ρo (Q (.val r) ρ1) := call_f2 rfl
def b_horses_at : List S := [(.ret (.slc (.bop .add (.lst [(.var 0)]) (.var 1)) (.const .none) (.asI (.neg (.const (.int 1))))))]
theorem u_horses_at (s : Option Sl) (ρ : Sto) (K : Fl → Sto → Prop) : wSs b_horses_at (s :: ρ) K = wS (.ret (.slc (.bop .add (.lst [(.var 0)]) (.var 1)) (.const .none) (.asI (.neg (.const (.int 1)))))) (s :: ρ) K := ss_last _ _ _
def f_horses_at : Fi := ⟨[false, false], evDef 2 b_horses_at⟩
theorem o_horses_at (a0 a1 : Option Sl) (Q : R → Sto → Prop) : wp (f_horses_at.sf [a0, a1]) Q = wSs b_horses_at [a0, a1] (kD 2 Q) := w_def (n := 2) (body := b_horses_at) (ρa := [a0, a1]) (Q := Q)
theorem k_horses_at (x0 x1 : Opd) (ρ : Sto) (Q : Opd → Sto → Prop) : wCall f_horses_at [x0, x1] ρ Q = wHard ρ x0 fun d0 ρ0 => wHard ρ0 x1 fun d1 ρ1 => wp (f_horses_at.sf [some (.frz d0), some (.frz d1)]) fun r ρo => wNs 2 ρo (Q (.val r) ρ1) := call_f2 rfl
def b_comes_next__1 : List S := [(.ret (.comp (.bop .add (.var 5) (.call f_ride_of [(.var 0), (.bop .sub (.var 5) (.var 6))])) (.tup [(.nm 5), (.nm 6)]) (.zip true (.var 2) (.var 3)) [] [4, 5, 6]))]
theorem u_comes_next__1 (s : Option Sl) (ρ : Sto) (K : Fl → Sto → Prop) : wSs b_comes_next__1 (s :: ρ) K = wS (.ret (.comp (.bop .add (.var 5) (.call f_ride_of [(.var 0), (.bop .sub (.var 5) (.var 6))])) (.tup [(.nm 5), (.nm 6)]) (.zip true (.var 2) (.var 3)) [] [4, 5, 6])) (s :: ρ) K := ss_last _ _ _
def b_comes_next : List S := (.setv 3 (.call f_horses_at [(.var 1), (.var 2)])) :: b_comes_next__1
theorem u_comes_next (s : Option Sl) (ρ : Sto) (K : Fl → Sto → Prop) : wSs b_comes_next (s :: ρ) K = wS (.setv 3 (.call f_horses_at [(.var 1), (.var 2)])) (s :: ρ) fun f ρ1 => nx f b_comes_next__1 ρ1 K := ss_cons _ _
def f_comes_next : Fi := ⟨[false, false, false], evDef 7 b_comes_next⟩
theorem o_comes_next (a0 a1 a2 : Option Sl) (Q : R → Sto → Prop) : wp (f_comes_next.sf [a0, a1, a2]) Q = wSs b_comes_next [a0, a1, a2, none, none, none, none] (kD 3 Q) := w_def (n := 7) (body := b_comes_next) (ρa := [a0, a1, a2]) (Q := Q)
theorem k_comes_next (x0 x1 x2 : Opd) (ρ : Sto) (Q : Opd → Sto → Prop) : wCall f_comes_next [x0, x1, x2] ρ Q = wHard ρ x0 fun d0 ρ0 => wHard ρ0 x1 fun d1 ρ1 => wHard ρ1 x2 fun d2 ρ2 => wp (f_comes_next.sf [some (.frz d0), some (.frz d1), some (.frz d2)]) fun r ρo => wNs 3 ρo (Q (.val r) ρ2) := call_f3 rfl
def b_books_to_2a : List S := [(.app 5 (.call f_comes_next [(.var 6), (.var 7), (.idx (.var 5) (.neg (.const (.int 1))))]))]
theorem u_books_to_2a (s : Option Sl) (ρ : Sto) (K : Fl → Sto → Prop) : wSs b_books_to_2a (s :: ρ) K = wS (.app 5 (.call f_comes_next [(.var 6), (.var 7), (.idx (.var 5) (.neg (.const (.int 1))))])) (s :: ρ) K := ss_last _ _ _
def b_books_to__3 : List S := [(.ret (.var 5))]
theorem u_books_to__3 (s : Option Sl) (ρ : Sto) (K : Fl → Sto → Prop) : wSs b_books_to__3 (s :: ρ) K = wS (.ret (.var 5)) (s :: ρ) K := ss_last _ _ _
def b_books_to__2 : List S := (.forr (.tup [(.nm 6), (.nm 7)]) (.zip true (.slc (.var 3) (.const .none) (.asI (.var 2))) (.slc (.var 4) (.const .none) (.asI (.var 2)))) b_books_to_2a) :: b_books_to__3
theorem u_books_to__2 (s : Option Sl) (ρ : Sto) (K : Fl → Sto → Prop) : wSs b_books_to__2 (s :: ρ) K = wS (.forr (.tup [(.nm 6), (.nm 7)]) (.zip true (.slc (.var 3) (.const .none) (.asI (.var 2))) (.slc (.var 4) (.const .none) (.asI (.var 2)))) b_books_to_2a) (s :: ρ) fun f ρ1 => nx f b_books_to__3 ρ1 K := ss_cons _ _
def b_books_to__1 : List S := (.setv 5 (.lst [(.bi .list [(.var 1)])])) :: b_books_to__2
theorem u_books_to__1 (s : Option Sl) (ρ : Sto) (K : Fl → Sto → Prop) : wSs b_books_to__1 (s :: ρ) K = wS (.setv 5 (.lst [(.bi .list [(.var 1)])])) (s :: ρ) fun f ρ1 => nx f b_books_to__2 ρ1 K := ss_cons _ _
def b_books_to : List S := (.sett (.tup [(.nm 3), (.nm 4)]) (.var 0)) :: b_books_to__1
theorem u_books_to (s : Option Sl) (ρ : Sto) (K : Fl → Sto → Prop) : wSs b_books_to (s :: ρ) K = wS (.sett (.tup [(.nm 3), (.nm 4)]) (.var 0)) (s :: ρ) fun f ρ1 => nx f b_books_to__1 ρ1 K := ss_cons _ _
def f_books_to : Fi := ⟨[false, false, false], evDef 8 b_books_to⟩
theorem o_books_to (a0 a1 a2 : Option Sl) (Q : R → Sto → Prop) : wp (f_books_to.sf [a0, a1, a2]) Q = wSs b_books_to [a0, a1, a2, none, none, none, none, none] (kD 3 Q) := w_def (n := 8) (body := b_books_to) (ρa := [a0, a1, a2]) (Q := Q)
theorem k_books_to (x0 x1 x2 : Opd) (ρ : Sto) (Q : Opd → Sto → Prop) : wCall f_books_to [x0, x1, x2] ρ Q = wHard ρ x0 fun d0 ρ0 => wHard ρ0 x1 fun d1 ρ1 => wHard ρ1 x2 fun d2 ρ2 => wp (f_books_to.sf [some (.frz d0), some (.frz d1), some (.frz d2)]) fun r ρo => wNs 3 ρo (Q (.val r) ρ2) := call_f3 rfl
def b_book_at : List S := [(.ret (.idx (.call f_books_to [(.var 0), (.var 1), (.var 2)]) (.neg (.const (.int 1)))))]
theorem u_book_at (s : Option Sl) (ρ : Sto) (K : Fl → Sto → Prop) : wSs b_book_at (s :: ρ) K = wS (.ret (.idx (.call f_books_to [(.var 0), (.var 1), (.var 2)]) (.neg (.const (.int 1))))) (s :: ρ) K := ss_last _ _ _
def f_book_at : Fi := ⟨[false, false, false], evDef 3 b_book_at⟩
theorem o_book_at (a0 a1 a2 : Option Sl) (Q : R → Sto → Prop) : wp (f_book_at.sf [a0, a1, a2]) Q = wSs b_book_at [a0, a1, a2] (kD 3 Q) := w_def (n := 3) (body := b_book_at) (ρa := [a0, a1, a2]) (Q := Q)
theorem k_book_at (x0 x1 x2 : Opd) (ρ : Sto) (Q : Opd → Sto → Prop) : wCall f_book_at [x0, x1, x2] ρ Q = wHard ρ x0 fun d0 ρ0 => wHard ρ0 x1 fun d1 ρ1 => wHard ρ1 x2 fun d2 ρ2 => wp (f_book_at.sf [some (.frz d0), some (.frz d1), some (.frz d2)]) fun r ρo => wNs 3 ρo (Q (.val r) ρ2) := call_f3 rfl
def b_comings__1 : List S := [(.ret (.comp (.comp (.idx (.var 5) (.var 4)) (.nm 5) (.seq (.var 2)) [] [3, 5]) (.nm 4) (.range1 (.bi .len [(.var 1)])) [] [3, 4]))]
theorem u_comings__1 (s : Option Sl) (ρ : Sto) (K : Fl → Sto → Prop) : wSs b_comings__1 (s :: ρ) K = wS (.ret (.comp (.comp (.idx (.var 5) (.var 4)) (.nm 5) (.seq (.var 2)) [] [3, 5]) (.nm 4) (.range1 (.bi .len [(.var 1)])) [] [3, 4])) (s :: ρ) K := ss_last _ _ _
def b_comings : List S := (.setv 2 (.call f_books_to [(.var 0), (.var 1), (.bi .len [(.idx (.var 0) (.const (.int 0)))])])) :: b_comings__1
theorem u_comings (s : Option Sl) (ρ : Sto) (K : Fl → Sto → Prop) : wSs b_comings (s :: ρ) K = wS (.setv 2 (.call f_books_to [(.var 0), (.var 1), (.bi .len [(.idx (.var 0) (.const (.int 0)))])])) (s :: ρ) fun f ρ1 => nx f b_comings__1 ρ1 K := ss_cons _ _
def f_comings : Fi := ⟨[false, false], evDef 6 b_comings⟩
theorem o_comings (a0 a1 : Option Sl) (Q : R → Sto → Prop) : wp (f_comings.sf [a0, a1]) Q = wSs b_comings [a0, a1, none, none, none, none] (kD 2 Q) := w_def (n := 6) (body := b_comings) (ρa := [a0, a1]) (Q := Q)
theorem k_comings (x0 x1 : Opd) (ρ : Sto) (Q : Opd → Sto → Prop) : wCall f_comings [x0, x1] ρ Q = wHard ρ x0 fun d0 ρ0 => wHard ρ0 x1 fun d1 ρ1 => wp (f_comings.sf [some (.frz d0), some (.frz d1)]) fun r ρo => wNs 2 ρo (Q (.val r) ρ1) := call_f2 rfl
def b_coming : List S := [(.ret (.idx (.call f_book_at [(.var 0), (.var 1), (.var 3)]) (.var 2)))]
theorem u_coming (s : Option Sl) (ρ : Sto) (K : Fl → Sto → Prop) : wSs b_coming (s :: ρ) K = wS (.ret (.idx (.call f_book_at [(.var 0), (.var 1), (.var 3)]) (.var 2))) (s :: ρ) K := ss_last _ _ _
def f_coming : Fi := ⟨[false, false, false, false], evDef 4 b_coming⟩
theorem o_coming (a0 a1 a2 a3 : Option Sl) (Q : R → Sto → Prop) : wp (f_coming.sf [a0, a1, a2, a3]) Q = wSs b_coming [a0, a1, a2, a3] (kD 4 Q) := w_def (n := 4) (body := b_coming) (ρa := [a0, a1, a2, a3]) (Q := Q)
theorem k_coming (x0 x1 x2 x3 : Opd) (ρ : Sto) (Q : Opd → Sto → Prop) : wCall f_coming [x0, x1, x2, x3] ρ Q = wHard ρ x0 fun d0 ρ0 => wHard ρ0 x1 fun d1 ρ1 => wHard ρ1 x2 fun d2 ρ2 => wHard ρ2 x3 fun d3 ρ3 => wp (f_coming.sf [some (.frz d0), some (.frz d1), some (.frz d2), some (.frz d3)]) fun r ρo => wNs 4 ρo (Q (.val r) ρ3) := call_f4 rfl
def b_horse_of : List S := [(.ret (.ife (.cop .gt (.var 2) (.const (.int 0))) (.bop .sub (.var 2) (.const (.int 1))) (.const .none)))]
theorem u_horse_of (s : Option Sl) (ρ : Sto) (K : Fl → Sto → Prop) : wSs b_horse_of (s :: ρ) K = wS (.ret (.ife (.cop .gt (.var 2) (.const (.int 0))) (.bop .sub (.var 2) (.const (.int 1))) (.const .none))) (s :: ρ) K := ss_last _ _ _
def f_horse_of : Fi := ⟨[false, false, false, false], evDef 4 b_horse_of⟩
theorem o_horse_of (a0 a1 a2 a3 : Option Sl) (Q : R → Sto → Prop) : wp (f_horse_of.sf [a0, a1, a2, a3]) Q = wSs b_horse_of [a0, a1, a2, a3] (kD 4 Q) := w_def (n := 4) (body := b_horse_of) (ρa := [a0, a1, a2, a3]) (Q := Q)
theorem k_horse_of (x0 x1 x2 x3 : Opd) (ρ : Sto) (Q : Opd → Sto → Prop) : wCall f_horse_of [x0, x1, x2, x3] ρ Q = wHard ρ x0 fun d0 ρ0 => wHard ρ0 x1 fun d1 ρ1 => wHard ρ1 x2 fun d2 ρ2 => wHard ρ2 x3 fun d3 ρ3 => wp (f_horse_of.sf [some (.frz d0), some (.frz d1), some (.frz d2), some (.frz d3)]) fun r ρo => wNs 4 ρo (Q (.val r) ρ3) := call_f4 rfl
def b_horse_beat__1 : List S := [(.ret (.ife (.isN (.var 4)) (.idx (.idx (.var 0) (.const (.int 1))) (.var 3)) (.call f_coming [(.var 0), (.var 1), (.var 4), (.var 3)])))]
theorem u_horse_beat__1 (s : Option Sl) (ρ : Sto) (K : Fl → Sto → Prop) : wSs b_horse_beat__1 (s :: ρ) K = wS (.ret (.ife (.isN (.var 4)) (.idx (.idx (.var 0) (.const (.int 1))) (.var 3)) (.call f_coming [(.var 0), (.var 1), (.var 4), (.var 3)]))) (s :: ρ) K := ss_last _ _ _
def b_horse_beat : List S := (.setv 4 (.call f_horse_of [(.var 0), (.var 1), (.var 2), (.var 3)])) :: b_horse_beat__1
theorem u_horse_beat (s : Option Sl) (ρ : Sto) (K : Fl → Sto → Prop) : wSs b_horse_beat (s :: ρ) K = wS (.setv 4 (.call f_horse_of [(.var 0), (.var 1), (.var 2), (.var 3)])) (s :: ρ) fun f ρ1 => nx f b_horse_beat__1 ρ1 K := ss_cons _ _
def f_horse_beat : Fi := ⟨[false, false, false, false], evDef 5 b_horse_beat⟩
theorem o_horse_beat (a0 a1 a2 a3 : Option Sl) (Q : R → Sto → Prop) : wp (f_horse_beat.sf [a0, a1, a2, a3]) Q = wSs b_horse_beat [a0, a1, a2, a3, none] (kD 4 Q) := w_def (n := 5) (body := b_horse_beat) (ρa := [a0, a1, a2, a3]) (Q := Q)
theorem k_horse_beat (x0 x1 x2 x3 : Opd) (ρ : Sto) (Q : Opd → Sto → Prop) : wCall f_horse_beat [x0, x1, x2, x3] ρ Q = wHard ρ x0 fun d0 ρ0 => wHard ρ0 x1 fun d1 ρ1 => wHard ρ1 x2 fun d2 ρ2 => wHard ρ2 x3 fun d3 ρ3 => wp (f_horse_beat.sf [some (.frz d0), some (.frz d1), some (.frz d2), some (.frz d3)]) fun r ρo => wNs 4 ρo (Q (.val r) ρ3) := call_f4 rfl
def b_stand : List S := [(.ret (.bop .sub (.call f_coming [(.var 0), (.var 1), (.var 2), (.var 3)]) (.call f_horse_beat [(.var 0), (.var 1), (.var 2), (.var 3)])))]
theorem u_stand (s : Option Sl) (ρ : Sto) (K : Fl → Sto → Prop) : wSs b_stand (s :: ρ) K = wS (.ret (.bop .sub (.call f_coming [(.var 0), (.var 1), (.var 2), (.var 3)]) (.call f_horse_beat [(.var 0), (.var 1), (.var 2), (.var 3)]))) (s :: ρ) K := ss_last _ _ _
def f_stand : Fi := ⟨[false, false, false, false], evDef 4 b_stand⟩
theorem o_stand (a0 a1 a2 a3 : Option Sl) (Q : R → Sto → Prop) : wp (f_stand.sf [a0, a1, a2, a3]) Q = wSs b_stand [a0, a1, a2, a3] (kD 4 Q) := w_def (n := 4) (body := b_stand) (ρa := [a0, a1, a2, a3]) (Q := Q)
theorem k_stand (x0 x1 x2 x3 : Opd) (ρ : Sto) (Q : Opd → Sto → Prop) : wCall f_stand [x0, x1, x2, x3] ρ Q = wHard ρ x0 fun d0 ρ0 => wHard ρ0 x1 fun d1 ρ1 => wHard ρ1 x2 fun d2 ρ2 => wHard ρ2 x3 fun d3 ρ3 => wp (f_stand.sf [some (.frz d0), some (.frz d1), some (.frz d2), some (.frz d3)]) fun r ρo => wNs 4 ρo (Q (.val r) ρ3) := call_f4 rfl
def b_ride : List S := [(.ret (.call f_ride_of [(.idx (.idx (.var 0) (.const (.int 0))) (.var 3)), (.call f_stand [(.var 0), (.var 1), (.var 2), (.var 3)])]))]
theorem u_ride (s : Option Sl) (ρ : Sto) (K : Fl → Sto → Prop) : wSs b_ride (s :: ρ) K = wS (.ret (.call f_ride_of [(.idx (.idx (.var 0) (.const (.int 0))) (.var 3)), (.call f_stand [(.var 0), (.var 1), (.var 2), (.var 3)])])) (s :: ρ) K := ss_last _ _ _
def f_ride : Fi := ⟨[false, false, false, false], evDef 4 b_ride⟩
theorem o_ride (a0 a1 a2 a3 : Option Sl) (Q : R → Sto → Prop) : wp (f_ride.sf [a0, a1, a2, a3]) Q = wSs b_ride [a0, a1, a2, a3] (kD 4 Q) := w_def (n := 4) (body := b_ride) (ρa := [a0, a1, a2, a3]) (Q := Q)
theorem k_ride (x0 x1 x2 x3 : Opd) (ρ : Sto) (Q : Opd → Sto → Prop) : wCall f_ride [x0, x1, x2, x3] ρ Q = wHard ρ x0 fun d0 ρ0 => wHard ρ0 x1 fun d1 ρ1 => wHard ρ1 x2 fun d2 ρ2 => wHard ρ2 x3 fun d3 ρ3 => wp (f_ride.sf [some (.frz d0), some (.frz d1), some (.frz d2), some (.frz d3)]) fun r ρo => wNs 4 ρo (Q (.val r) ρ3) := call_f4 rfl
def b_events_1a : List S := [(.aug 3 .add (.comp (.tup [(.var 8), (.var 4), (.var 7)]) (.tup [(.nm 7), (.nm 8)]) (.enum (.var 5)) [(.cop .le (.var 8) (.var 2))] [6, 7, 8]))]
theorem u_events_1a (s : Option Sl) (ρ : Sto) (K : Fl → Sto → Prop) : wSs b_events_1a (s :: ρ) K = wS (.aug 3 .add (.comp (.tup [(.var 8), (.var 4), (.var 7)]) (.tup [(.nm 7), (.nm 8)]) (.enum (.var 5)) [(.cop .le (.var 8) (.var 2))] [6, 7, 8])) (s :: ρ) K := ss_last _ _ _
def b_events__2 : List S := [(.ret (.bi .sorted [(.var 3)]))]
theorem u_events__2 (s : Option Sl) (ρ : Sto) (K : Fl → Sto → Prop) : wSs b_events__2 (s :: ρ) K = wS (.ret (.bi .sorted [(.var 3)])) (s :: ρ) K := ss_last _ _ _
def b_events__1 : List S := (.forr (.tup [(.nm 4), (.nm 5)]) (.enum (.call f_books_to [(.var 0), (.var 1), (.bi .len [(.idx (.var 0) (.const (.int 0)))])])) b_events_1a) :: b_events__2
theorem u_events__1 (s : Option Sl) (ρ : Sto) (K : Fl → Sto → Prop) : wSs b_events__1 (s :: ρ) K = wS (.forr (.tup [(.nm 4), (.nm 5)]) (.enum (.call f_books_to [(.var 0), (.var 1), (.bi .len [(.idx (.var 0) (.const (.int 0)))])])) b_events_1a) (s :: ρ) fun f ρ1 => nx f b_events__2 ρ1 K := ss_cons _ _
def b_events : List S := (.setv 3 (.lst [])) :: b_events__1
theorem u_events (s : Option Sl) (ρ : Sto) (K : Fl → Sto → Prop) : wSs b_events (s :: ρ) K = wS (.setv 3 (.lst [])) (s :: ρ) fun f ρ1 => nx f b_events__1 ρ1 K := ss_cons _ _
def f_events : Fi := ⟨[false, false, false], evDef 9 b_events⟩
theorem o_events (a0 a1 a2 : Option Sl) (Q : R → Sto → Prop) : wp (f_events.sf [a0, a1, a2]) Q = wSs b_events [a0, a1, a2, none, none, none, none, none, none] (kD 3 Q) := w_def (n := 9) (body := b_events) (ρa := [a0, a1, a2]) (Q := Q)
theorem k_events (x0 x1 x2 : Opd) (ρ : Sto) (Q : Opd → Sto → Prop) : wCall f_events [x0, x1, x2] ρ Q = wHard ρ x0 fun d0 ρ0 => wHard ρ0 x1 fun d1 ρ1 => wHard ρ1 x2 fun d2 ρ2 => wp (f_events.sf [some (.frz d0), some (.frz d1), some (.frz d2)]) fun r ρo => wNs 3 ρo (Q (.val r) ρ2) := call_f3 rfl
end Rx
set_option Elab.async false
set_option linter.all false
set_option maxHeartbeats 4000000
/-! SpR1: stands, rides, comings to the next station -/
namespace Rx
open PySem PySem.Spec L2
set_option maxRecDepth 100000
local macro_rules | `(tactic| simp_all? only [$xs,*]) => `(tactic| simp only [↓e_const, ↓e_bop, ↓e_neg, ↓e_cop, ↓e_ch2, ↓e_isN, ↓e_notN, ↓e_not, ↓e_and, ↓e_or, ↓e_ife, ↓e_idx, ↓e_slc, ↓e_asI, ↓e_rev, ↓e_tup, ↓e_lst, ↓e_call, ↓e_callk, ↓e_bi, ↓e_comp, ↓es_nil, ↓es_cons, ↓ts_nil, ↓ts_cons, ↓it_seq, ↓it_range1, ↓it_range2, ↓it_enum, ↓it_revd, ↓it_zipt, ↓it_zipf, ↓ss_nil, ↓ss_last, ↓s_setv, ↓s_sett, ↓s_par, ↓s_ext, ↓s_mt0, ↓mt0_l, ↓mt0_rev, ↓mt0_clr, ↓s_aug, ↓aug_i, ↓aug_l, ↓augL_l, ↓seti_l, ↓own_l, ↓s_seti, ↓s_expr, ↓app_l, ↓s_app, ↓s_iff, ↓s_whl, ↓s_for, ↓ret_v, ↓ret_s, ↓retS_l, ↓s_ret, ↓s_retN, ↓s_brk, ↓s_cont, ↓s_pass, ↓s_never, ↓nx_n, ↓nx_r, ↓nx_b, ↓nx_c, ↓fl_n, ↓fl_c, ↓fl_b, ↓fl_r, ↓vl_v, ↓vl_s, ↓putr_f, ↓putr_l, ↓tg_n, ↓tg_t, ↓tgs_n, ↓tgs_c, ↓pa_n, ↓pa_c, ↓par_n, ↓par_v, ↓par_s, ↓rd_v, ↓rd_s, ↓rdS_m, ↓ri_v, ↓hd_f, ↓hd_l, ↓hd_s, ↓hs_c, ↓hs_l, ↓hds_n, ↓hds_c, ↓rds_n, ↓rds_c, ↓ab_v, ↓sq_l, ↓sq_t, ↓pd_n, ↓pd_c, ↓ix_z, ↓ix_s, ↓if_t, ↓if_f, ↓if_n, ↓if_d, ↓no_n, ↓no_i, ↓no_b, ↓no_s, ↓no_t, ↓no_l, ↓no_r, ↓bi_add, ↓bi_sub, ↓bi_mul, ↓bi_div, ↓bi_mod, ↓bi_pow, ↓wl_ixN, ↓b_ii, ↓b_ss, ↓b_ll, ↓b_lf, ↓b_fl, ↓b_ff, ↓b_tt, ↓b_lm, ↓b_tm, ↓c_eqi, ↓c_nei, ↓c_lt, ↓c_le, ↓c_gt, ↓c_ge, ↓id_t, ↓id_l, ↓id_o, ↓wl_at0, ↓wl_at1, ↓wl_at2, ↓wl_at3, ↓at_map, ↓sl_t, ↓sl_l, ↓sl_o, ↓oi_n, ↓oi_i, ↓bl_len, ↓len_l, ↓len_f, ↓len_t, ↓len_s, ↓bl_maxs, ↓bl_mins, ↓bl_max2, ↓bl_min2, ↓bl_abs, ↓bl_sum, ↓bl_sumf, ↓bl_all, ↓bl_any, ↓any_map, ↓all_map, ↓bl_listl, ↓bl_listf, ↓bl_listt, ↓bl_tupl, ↓bl_tupf, ↓bl_tupt, ↓bl_intb, ↓bl_inti, ↓bl_str, ↓bl_isi, ↓bl_sorted, ↓bl_repr, ↓max_t, ↓max_l, ↓max_o, ↓min_t, ↓min_l, ↓min_o, ↓kd_r1, ↓kd_r2, ↓kd_r3, ↓kd_r4, ↓kd_r5, ↓kd_r6, ↓kd_r7, ↓ns_1, ↓ns_2, ↓ns_3, ↓ns_4, ↓ns_5, ↓ns_6, ↓ns_7, ↓ns_8, ↓lt_c, ↓lt_d, ↓bk_1, ↓bk_2, ↓bk_3, ↓bk_4, ↓bk_5, ↓bk_6, ↓bk_7, ↓bk_8, ↓wp_ret, ↓wl_some, ↓turn_u, ↓Vf_0, ↓Vt_0, ↓Vm_0, ↓Vf_1, ↓Vt_1, ↓Vm_1, ↓Vf_2, ↓Vt_2, ↓Vm_2, ↓Vf_3, ↓Vt_3, ↓Vm_3, ↓Vf_4, ↓Vt_4, ↓Vm_4, ↓Vf_5, ↓Vt_5, ↓Vm_5, ↓Vf_6, ↓Vt_6, ↓Vm_6, ↓Vf_7, ↓Vt_7, ↓Vm_7, ↓Vf_8, ↓Vt_8, ↓Vm_8, ↓Vf_9, ↓Vt_9, ↓Vm_9, ↓Vf_10, ↓Vt_10, ↓Vm_10, ↓Vf_11, ↓Vt_11, ↓Vm_11, ↓Vf_12, ↓Vt_12, ↓Vm_12, ↓Vf_13, ↓Vt_13, ↓Vm_13, ↓Vf_14, ↓Vt_14, ↓Vm_14, ↓Vf_15, ↓Vt_15, ↓Vm_15, ↓Vf_16, ↓Vt_16, ↓Vm_16, ↓Vf_17, ↓Vt_17, ↓Vm_17, ↓Vf_18, ↓Vt_18, ↓Vm_18, ↓Vf_19, ↓Vt_19, ↓Vm_19, ↓Vf_20, ↓Vt_20, ↓Vm_20, ↓Vf_21, ↓Vt_21, ↓Vm_21, ↓Vf_22, ↓Vt_22, ↓Vm_22, ↓Vf_23, ↓Vt_23, ↓Vm_23, ↓Vf_24, ↓Vt_24, ↓Vm_24, ↓Vf_25, ↓Vt_25, ↓Vm_25, ↓Vf_26, ↓Vt_26, ↓Vm_26, ↓Vf_27, ↓Vt_27, ↓Vm_27, ↓Vf_28, ↓Vt_28, ↓Vm_28, ↓Vf_29, ↓Vt_29, ↓Vm_29, ↓Vf_30, ↓Vt_30, ↓Vm_30, ↓Vf_31, ↓Vt_31, ↓Vm_31, e_const, e_bop, e_neg, e_cop, e_ch2, e_isN, e_notN, e_not, e_and, e_or, e_ife, e_idx, e_slc, e_asI, e_rev, e_tup, e_lst, e_call, e_callk, e_bi, e_comp, es_nil, es_cons, ts_nil, ts_cons, it_seq, it_range1, it_range2, it_enum, it_revd, it_zipt, it_zipf, ss_nil, ss_last, s_setv, s_sett, s_par, s_ext, s_mt0, mt0_l, mt0_rev, mt0_clr, s_aug, aug_i, aug_l, augL_l, seti_l, own_l, s_seti, s_expr, app_l, s_app, s_iff, s_whl, s_for, ret_v, ret_s, retS_l, s_ret, s_retN, s_brk, s_cont, s_pass, s_never, nx_n, nx_r, nx_b, nx_c, fl_n, fl_c, fl_b, fl_r, vl_v, vl_s, putr_f, putr_l, tg_n, tg_t, tgs_n, tgs_c, pa_n, pa_c, par_n, par_v, par_s, rd_v, rd_s, rdS_m, ri_v, hd_f, hd_l, hd_s, hs_c, hs_l, hds_n, hds_c, rds_n, rds_c, ab_v, sq_l, sq_t, pd_n, pd_c, ix_z, ix_s, if_t, if_f, if_n, if_d, no_n, no_i, no_b, no_s, no_t, no_l, no_r, bi_add, bi_sub, bi_mul, bi_div, bi_mod, bi_pow, wl_ixN, b_ii, b_ss, b_ll, b_lf, b_fl, b_ff, b_tt, b_lm, b_tm, c_eqi, c_nei, c_lt, c_le, c_gt, c_ge, id_t, id_l, id_o, wl_at0, wl_at1, wl_at2, wl_at3, at_map, sl_t, sl_l, sl_o, oi_n, oi_i, bl_len, len_l, len_f, len_t, len_s, bl_maxs, bl_mins, bl_max2, bl_min2, bl_abs, bl_sum, bl_sumf, bl_all, bl_any, any_map, all_map, bl_listl, bl_listf, bl_listt, bl_tupl, bl_tupf, bl_tupt, bl_intb, bl_inti, bl_str, bl_isi, bl_sorted, bl_repr, max_t, max_l, max_o, min_t, min_l, min_o, kd_r1, kd_r2, kd_r3, kd_r4, kd_r5, kd_r6, kd_r7, ns_1, ns_2, ns_3, ns_4, ns_5, ns_6, ns_7, ns_8, lt_c, lt_d, bk_1, bk_2, bk_3, bk_4, bk_5, bk_6, bk_7, bk_8, wp_ret, wl_some, turn_u, Vf_0, Vt_0, Vm_0, Vf_1, Vt_1, Vm_1, Vf_2, Vt_2, Vm_2, Vf_3, Vt_3, Vm_3, Vf_4, Vt_4, Vm_4, Vf_5, Vt_5, Vm_5, Vf_6, Vt_6, Vm_6, Vf_7, Vt_7, Vm_7, Vf_8, Vt_8, Vm_8, Vf_9, Vt_9, Vm_9, Vf_10, Vt_10, Vm_10, Vf_11, Vt_11, Vm_11, Vf_12, Vt_12, Vm_12, Vf_13, Vt_13, Vm_13, Vf_14, Vt_14, Vm_14, Vf_15, Vt_15, Vm_15, Vf_16, Vt_16, Vm_16, Vf_17, Vt_17, Vm_17, Vf_18, Vt_18, Vm_18, Vf_19, Vt_19, Vm_19, Vf_20, Vt_20, Vm_20, Vf_21, Vt_21, Vm_21, Vf_22, Vt_22, Vm_22, Vf_23, Vt_23, Vm_23, Vf_24, Vt_24, Vm_24, Vf_25, Vt_25, Vm_25, Vf_26, Vt_26, Vm_26, Vf_27, Vt_27, Vm_27, Vf_28, Vt_28, Vm_28, Vf_29, Vt_29, Vm_29, Vf_30, Vt_30, Vm_30, Vf_31, Vt_31, Vm_31, put_k, set_c, set_d, set_b, set_f, cln_nil, cln_n, cln_f, cln_m, cln_l, cln_d, szi, szl, dv_t, pw_t, sml_l, sml_r, decide_eq_true_eq, Int.reduceMul, Int.reduceMod, Int.reduceAdd, Int.reduceSub, Int.reduceDiv, Int.reduceNeg, Int.natAbs_zero, un_nil, un_n, un_f, un_m, fz_nil, fz_n, fz_f, fz_m, fz_l, fz_d, nl_nil, nl_n, nl_f, nl_m, nl_l, nl_d, mf_nil, mf_n, mf_f, mf_m, mf_l, mf_d, df_nil, df_n, df_f, df_m, df_l, df_d, ik_n, ik_f, ik_m, ko_n, ko_f, ko_k, ko_o, eqv_ii, cut_m, enum_map, zip_map, ints_zero, wi_n, wi_c, ba_n, ba_c, toD_f, toD_l, slo_f, slo_l, sc_i, sc_b, sc_s, sc_n, sc_l, sc_t, scr_f, scr_l, Bool.and_self, Bool.true_and, Bool.and_true, List.all_cons, List.all_nil, Int.toNat_natCast, Int.natCast_nonneg, Int.reduceLT, Int.reduceLE, Int.cast_ofNat_Int, c_eqS, c_neS, shp_int, shp_bool, shp_none, shp_list, shp_tuple, shpl_nil, shpl_cons, shpl_app, shpl_map, shp_leg, shp_road, implies_true, and_self, List.length_cons, List.length_nil, List.length_map, List.cons_append, List.nil_append, Nat.reduceAdd, Nat.reduceLT, Nat.reduceLeDiff, Nat.zero_add, Int.reduceNeg, Int.reducePow, Int.reduceToNat, true_and, and_true, reduceIte, eq_self, decide_true, decide_false, Bool.not_true, Bool.not_false, Bool.false_eq_true, Bool.true_eq_false, false_implies, forall_const, not_true_eq_false, not_false_eq_true, G_0, L_0, G_1, L_1, G_2, L_2, G_3, L_3, G_4, L_4, G_5, L_5, G_6, L_6, G_7, L_7, G_8, L_8, G_9, L_9, G_10, L_10, G_11, L_11, G_12, L_12, G_13, L_13, G_14, L_14, G_15, L_15, G_16, L_16, G_17, L_17, G_18, L_18, G_19, L_19, G_20, L_20, G_21, L_21, G_22, L_22, G_23, L_23, G_24, L_24, G_25, L_25, G_26, L_26, G_27, L_27, G_28, L_28, G_29, L_29, G_30, L_30, G_31, L_31, $xs,*])
local macro_rules | `(tactic| simp_all? [$xs,*]) => `(tactic| simp only [↓e_const, ↓e_bop, ↓e_neg, ↓e_cop, ↓e_ch2, ↓e_isN, ↓e_notN, ↓e_not, ↓e_and, ↓e_or, ↓e_ife, ↓e_idx, ↓e_slc, ↓e_asI, ↓e_rev, ↓e_tup, ↓e_lst, ↓e_call, ↓e_callk, ↓e_bi, ↓e_comp, ↓es_nil, ↓es_cons, ↓ts_nil, ↓ts_cons, ↓it_seq, ↓it_range1, ↓it_range2, ↓it_enum, ↓it_revd, ↓it_zipt, ↓it_zipf, ↓ss_nil, ↓ss_last, ↓s_setv, ↓s_sett, ↓s_par, ↓s_ext, ↓s_mt0, ↓mt0_l, ↓mt0_rev, ↓mt0_clr, ↓s_aug, ↓aug_i, ↓aug_l, ↓augL_l, ↓seti_l, ↓own_l, ↓s_seti, ↓s_expr, ↓app_l, ↓s_app, ↓s_iff, ↓s_whl, ↓s_for, ↓ret_v, ↓ret_s, ↓retS_l, ↓s_ret, ↓s_retN, ↓s_brk, ↓s_cont, ↓s_pass, ↓s_never, ↓nx_n, ↓nx_r, ↓nx_b, ↓nx_c, ↓fl_n, ↓fl_c, ↓fl_b, ↓fl_r, ↓vl_v, ↓vl_s, ↓putr_f, ↓putr_l, ↓tg_n, ↓tg_t, ↓tgs_n, ↓tgs_c, ↓pa_n, ↓pa_c, ↓par_n, ↓par_v, ↓par_s, ↓rd_v, ↓rd_s, ↓rdS_m, ↓ri_v, ↓hd_f, ↓hd_l, ↓hd_s, ↓hs_c, ↓hs_l, ↓hds_n, ↓hds_c, ↓rds_n, ↓rds_c, ↓ab_v, ↓sq_l, ↓sq_t, ↓pd_n, ↓pd_c, ↓ix_z, ↓ix_s, ↓if_t, ↓if_f, ↓if_n, ↓if_d, ↓no_n, ↓no_i, ↓no_b, ↓no_s, ↓no_t, ↓no_l, ↓no_r, ↓bi_add, ↓bi_sub, ↓bi_mul, ↓bi_div, ↓bi_mod, ↓bi_pow, ↓wl_ixN, ↓b_ii, ↓b_ss, ↓b_ll, ↓b_lf, ↓b_fl, ↓b_ff, ↓b_tt, ↓b_lm, ↓b_tm, ↓c_eqi, ↓c_nei, ↓c_lt, ↓c_le, ↓c_gt, ↓c_ge, ↓id_t, ↓id_l, ↓id_o, ↓wl_at0, ↓wl_at1, ↓wl_at2, ↓wl_at3, ↓at_map, ↓sl_t, ↓sl_l, ↓sl_o, ↓oi_n, ↓oi_i, ↓bl_len, ↓len_l, ↓len_f, ↓len_t, ↓len_s, ↓bl_maxs, ↓bl_mins, ↓bl_max2, ↓bl_min2, ↓bl_abs, ↓bl_sum, ↓bl_sumf, ↓bl_all, ↓bl_any, ↓any_map, ↓all_map, ↓bl_listl, ↓bl_listf, ↓bl_listt, ↓bl_tupl, ↓bl_tupf, ↓bl_tupt, ↓bl_intb, ↓bl_inti, ↓bl_str, ↓bl_isi, ↓bl_sorted, ↓bl_repr, ↓max_t, ↓max_l, ↓max_o, ↓min_t, ↓min_l, ↓min_o, ↓kd_r1, ↓kd_r2, ↓kd_r3, ↓kd_r4, ↓kd_r5, ↓kd_r6, ↓kd_r7, ↓ns_1, ↓ns_2, ↓ns_3, ↓ns_4, ↓ns_5, ↓ns_6, ↓ns_7, ↓ns_8, ↓lt_c, ↓lt_d, ↓bk_1, ↓bk_2, ↓bk_3, ↓bk_4, ↓bk_5, ↓bk_6, ↓bk_7, ↓bk_8, ↓wp_ret, ↓wl_some, ↓turn_u, ↓Vf_0, ↓Vt_0, ↓Vm_0, ↓Vf_1, ↓Vt_1, ↓Vm_1, ↓Vf_2, ↓Vt_2, ↓Vm_2, ↓Vf_3, ↓Vt_3, ↓Vm_3, ↓Vf_4, ↓Vt_4, ↓Vm_4, ↓Vf_5, ↓Vt_5, ↓Vm_5, ↓Vf_6, ↓Vt_6, ↓Vm_6, ↓Vf_7, ↓Vt_7, ↓Vm_7, ↓Vf_8, ↓Vt_8, ↓Vm_8, ↓Vf_9, ↓Vt_9, ↓Vm_9, ↓Vf_10, ↓Vt_10, ↓Vm_10, ↓Vf_11, ↓Vt_11, ↓Vm_11, ↓Vf_12, ↓Vt_12, ↓Vm_12, ↓Vf_13, ↓Vt_13, ↓Vm_13, ↓Vf_14, ↓Vt_14, ↓Vm_14, ↓Vf_15, ↓Vt_15, ↓Vm_15, ↓Vf_16, ↓Vt_16, ↓Vm_16, ↓Vf_17, ↓Vt_17, ↓Vm_17, ↓Vf_18, ↓Vt_18, ↓Vm_18, ↓Vf_19, ↓Vt_19, ↓Vm_19, ↓Vf_20, ↓Vt_20, ↓Vm_20, ↓Vf_21, ↓Vt_21, ↓Vm_21, ↓Vf_22, ↓Vt_22, ↓Vm_22, ↓Vf_23, ↓Vt_23, ↓Vm_23, ↓Vf_24, ↓Vt_24, ↓Vm_24, ↓Vf_25, ↓Vt_25, ↓Vm_25, ↓Vf_26, ↓Vt_26, ↓Vm_26, ↓Vf_27, ↓Vt_27, ↓Vm_27, ↓Vf_28, ↓Vt_28, ↓Vm_28, ↓Vf_29, ↓Vt_29, ↓Vm_29, ↓Vf_30, ↓Vt_30, ↓Vm_30, ↓Vf_31, ↓Vt_31, ↓Vm_31, e_const, e_bop, e_neg, e_cop, e_ch2, e_isN, e_notN, e_not, e_and, e_or, e_ife, e_idx, e_slc, e_asI, e_rev, e_tup, e_lst, e_call, e_callk, e_bi, e_comp, es_nil, es_cons, ts_nil, ts_cons, it_seq, it_range1, it_range2, it_enum, it_revd, it_zipt, it_zipf, ss_nil, ss_last, s_setv, s_sett, s_par, s_ext, s_mt0, mt0_l, mt0_rev, mt0_clr, s_aug, aug_i, aug_l, augL_l, seti_l, own_l, s_seti, s_expr, app_l, s_app, s_iff, s_whl, s_for, ret_v, ret_s, retS_l, s_ret, s_retN, s_brk, s_cont, s_pass, s_never, nx_n, nx_r, nx_b, nx_c, fl_n, fl_c, fl_b, fl_r, vl_v, vl_s, putr_f, putr_l, tg_n, tg_t, tgs_n, tgs_c, pa_n, pa_c, par_n, par_v, par_s, rd_v, rd_s, rdS_m, ri_v, hd_f, hd_l, hd_s, hs_c, hs_l, hds_n, hds_c, rds_n, rds_c, ab_v, sq_l, sq_t, pd_n, pd_c, ix_z, ix_s, if_t, if_f, if_n, if_d, no_n, no_i, no_b, no_s, no_t, no_l, no_r, bi_add, bi_sub, bi_mul, bi_div, bi_mod, bi_pow, wl_ixN, b_ii, b_ss, b_ll, b_lf, b_fl, b_ff, b_tt, b_lm, b_tm, c_eqi, c_nei, c_lt, c_le, c_gt, c_ge, id_t, id_l, id_o, wl_at0, wl_at1, wl_at2, wl_at3, at_map, sl_t, sl_l, sl_o, oi_n, oi_i, bl_len, len_l, len_f, len_t, len_s, bl_maxs, bl_mins, bl_max2, bl_min2, bl_abs, bl_sum, bl_sumf, bl_all, bl_any, any_map, all_map, bl_listl, bl_listf, bl_listt, bl_tupl, bl_tupf, bl_tupt, bl_intb, bl_inti, bl_str, bl_isi, bl_sorted, bl_repr, max_t, max_l, max_o, min_t, min_l, min_o, kd_r1, kd_r2, kd_r3, kd_r4, kd_r5, kd_r6, kd_r7, ns_1, ns_2, ns_3, ns_4, ns_5, ns_6, ns_7, ns_8, lt_c, lt_d, bk_1, bk_2, bk_3, bk_4, bk_5, bk_6, bk_7, bk_8, wp_ret, wl_some, turn_u, Vf_0, Vt_0, Vm_0, Vf_1, Vt_1, Vm_1, Vf_2, Vt_2, Vm_2, Vf_3, Vt_3, Vm_3, Vf_4, Vt_4, Vm_4, Vf_5, Vt_5, Vm_5, Vf_6, Vt_6, Vm_6, Vf_7, Vt_7, Vm_7, Vf_8, Vt_8, Vm_8, Vf_9, Vt_9, Vm_9, Vf_10, Vt_10, Vm_10, Vf_11, Vt_11, Vm_11, Vf_12, Vt_12, Vm_12, Vf_13, Vt_13, Vm_13, Vf_14, Vt_14, Vm_14, Vf_15, Vt_15, Vm_15, Vf_16, Vt_16, Vm_16, Vf_17, Vt_17, Vm_17, Vf_18, Vt_18, Vm_18, Vf_19, Vt_19, Vm_19, Vf_20, Vt_20, Vm_20, Vf_21, Vt_21, Vm_21, Vf_22, Vt_22, Vm_22, Vf_23, Vt_23, Vm_23, Vf_24, Vt_24, Vm_24, Vf_25, Vt_25, Vm_25, Vf_26, Vt_26, Vm_26, Vf_27, Vt_27, Vm_27, Vf_28, Vt_28, Vm_28, Vf_29, Vt_29, Vm_29, Vf_30, Vt_30, Vm_30, Vf_31, Vt_31, Vm_31, put_k, set_c, set_d, set_b, set_f, cln_nil, cln_n, cln_f, cln_m, cln_l, cln_d, szi, szl, dv_t, pw_t, sml_l, sml_r, decide_eq_true_eq, Int.reduceMul, Int.reduceMod, Int.reduceAdd, Int.reduceSub, Int.reduceDiv, Int.reduceNeg, Int.natAbs_zero, un_nil, un_n, un_f, un_m, fz_nil, fz_n, fz_f, fz_m, fz_l, fz_d, nl_nil, nl_n, nl_f, nl_m, nl_l, nl_d, mf_nil, mf_n, mf_f, mf_m, mf_l, mf_d, df_nil, df_n, df_f, df_m, df_l, df_d, ik_n, ik_f, ik_m, ko_n, ko_f, ko_k, ko_o, eqv_ii, cut_m, enum_map, zip_map, ints_zero, wi_n, wi_c, ba_n, ba_c, toD_f, toD_l, slo_f, slo_l, sc_i, sc_b, sc_s, sc_n, sc_l, sc_t, scr_f, scr_l, Bool.and_self, Bool.true_and, Bool.and_true, List.all_cons, List.all_nil, Int.toNat_natCast, Int.natCast_nonneg, Int.reduceLT, Int.reduceLE, Int.cast_ofNat_Int, c_eqS, c_neS, shp_int, shp_bool, shp_none, shp_list, shp_tuple, shpl_nil, shpl_cons, shpl_app, shpl_map, shp_leg, shp_road, implies_true, and_self, List.length_cons, List.length_nil, List.length_map, List.cons_append, List.nil_append, Nat.reduceAdd, Nat.reduceLT, Nat.reduceLeDiff, Nat.zero_add, Int.reduceNeg, Int.reducePow, Int.reduceToNat, true_and, and_true, reduceIte, eq_self, decide_true, decide_false, Bool.not_true, Bool.not_false, Bool.false_eq_true, Bool.true_eq_false, false_implies, forall_const, not_true_eq_false, not_false_eq_true, G_0, L_0, G_1, L_1, G_2, L_2, G_3, L_3, G_4, L_4, G_5, L_5, G_6, L_6, G_7, L_7, G_8, L_8, G_9, L_9, G_10, L_10, G_11, L_11, G_12, L_12, G_13, L_13, G_14, L_14, G_15, L_15, G_16, L_16, G_17, L_17, G_18, L_18, G_19, L_19, G_20, L_20, G_21, L_21, G_22, L_22, G_23, L_23, G_24, L_24, G_25, L_25, G_26, L_26, G_27, L_27, G_28, L_28, G_29, L_29, G_30, L_30, G_31, L_31, cln_x, un_x, fz_x, nl_x, mf_x, df_x, ik_x, ko_x, $xs,*])
def heldN (l : Leg) (s : Int) : Int := max (l.full - l.most) (min (l.full - l.least) s)
def overN (l : Leg) (s : Int) : Int := s - heldN l s
def rideN (l : Leg) (s : Int) : Int := l.full - heldN l s
/-- comings to the next station, behind a horse's -/
def nextN (l : Leg) : Int → List Int → List Int
  | _, [] => []
  | h, c :: cs => (c + rideN l (c - h)) :: nextN l c cs
/-- a list of numbers -/
def intsD (xs : List Int) : D := .list (xs.map .int)
theorem intsD_e (xs : List Int) : PyData.list (xs.map .int) = intsD xs := rfl
theorem W_bounds_of (l : Leg) (Q : R → Sto → Prop) : wp (f_bounds_of.sf [some (.frz (legD l))]) Q = Q (.frz (.tuple [.int (l.full - l.most), .int (l.full - l.least)])) [none] := by
  unfold legD
  simp_all? only [o_bounds_of, ↓u_bounds_of__1, ↓u_bounds_of]
theorem W_held (l : Leg) (s : Int) (Q : R → Sto → Prop) : wp (f_held.sf [some (.frz (legD l)), some (.frz (.int s))]) Q = Q (.frz (.int (heldN l s))) [none, none] := by
  simp_all? only [o_held, ↓u_held__1, ↓u_held, k_bounds_of, W_bounds_of, heldN]
theorem W_over (l : Leg) (s : Int) (Q : R → Sto → Prop) : wp (f_over.sf [some (.frz (legD l)), some (.frz (.int s))]) Q = Q (.frz (.int (overN l s))) [none, none] := by
  simp_all? only [o_over, ↓u_over, k_held, W_held, overN]
theorem wl_leg0 (l : Leg) (K : D → Prop) : wl (idxR (.frz (legD l)) (.frz (.int 0))) K = K (.int l.full) := by unfold legD; rw [id_t, wl_at0]
theorem wl_leg1 (l : Leg) (K : D → Prop) : wl (idxR (.frz (legD l)) (.frz (.int 1))) K = K (.int l.least) := by unfold legD; rw [id_t, wl_at1]
theorem wl_leg2 (l : Leg) (K : D → Prop) : wl (idxR (.frz (legD l)) (.frz (.int 2))) K = K (.int l.most) := by unfold legD; rw [id_t, wl_at2]
theorem W_ride_of (l : Leg) (s : Int) (Q : R → Sto → Prop) : wp (f_ride_of.sf [some (.frz (legD l)), some (.frz (.int s))]) Q = Q (.frz (.int (rideN l s))) [none, none] := by
  simp_all? only [o_ride_of, ↓u_ride_of, k_held, W_held, wl_leg0, rideN]
theorem W_horses_at {cs : List Int} (h : cs.length < 1000000) (f : Int) (Q : R → Sto → Prop) : wp (f_horses_at.sf [some (.frz (.int f)), some (.frz (.list (cs.map .int)))]) Q = Q (.lst ((f :: cs).dropLast.map .int)) [none, none] := by
  have e : 0 + 1 + cs.length ≤ 16777216 := by omega
  simp_all? only [o_horses_at, ↓u_horses_at]
  rw [show (PyData.int f :: List.map PyData.int cs) = List.map PyData.int (f :: cs) from rfl, cut_m, sl_init]
  exact propext ⟨fun z => z.2, fun z => ⟨by omega, z⟩⟩
theorem next_zip (l : Leg) : ∀ (cs : List Int) (f : Int), nextN l f cs = (cs.zip (f :: cs).dropLast).map fun p => p.1 + rideN l (p.1 - p.2)
  | [], _ => rfl
  | [c], f => rfl
  | c :: d :: cs, f => by
    have ih := next_zip l (d :: cs) c
    rw [nextN, ih]; rfl
theorem wp_rw {α : Type} {o : Out α} {r : α} {ρ : Sto} (h : ∀ Q : α → Sto → Prop, Q r ρ → wp o Q) (Q : α → Sto → Prop) : wp o Q = Q r ρ := by
  obtain ⟨a, ρ', e, h1, h2⟩ := wp_out (h (fun a ρ' => a = r ∧ ρ' = ρ) ⟨rfl, rfl⟩)
  subst h1; subst h2
  exact wp_eq e Q
theorem W_comes_next {cs : List Int} (h : cs.length < 1000000) (l : Leg) (f : Int) (Q : R → Sto → Prop) : wp (f_comes_next.sf [some (.frz (legD l)), some (.frz (.int f)), some (.frz (.list (cs.map .int)))]) Q = Q (.lst ((nextN l f cs).map .int)) [none, none, none] := by
  refine wp_rw (fun Q q => ?_) Q
  simp_all? only [o_comes_next, ↓u_comes_next__1, ↓u_comes_next, k_horses_at, W_horses_at h, k_ride_of, W_ride_of]
  refine ⟨by simp, comp_map (G := fun p => .int (p.1 + rideN l (p.1 - p.2))) rfl (len_bound (by simp; omega)) (fun p hp => ?_) ?_⟩
  · simp_all? only [k_ride_of, W_ride_of]
  simp_all? only [o_comes_next, ↓u_comes_next__1, ↓u_comes_next]
  rw [next_zip, List.map_map] at q
  exact q
theorem next_len (l : Leg) : ∀ (cs : List Int) (f : Int), (nextN l f cs).length = cs.length
  | [], _ => rfl
  | c :: cs, f => congrArg Nat.succ (next_len l cs c)
/-- the comings at all stations, from a station's on -/
def booksN : List (Leg × Int) → List Int → List (List Int)
  | [], b => [b]
  | p :: ps, b => b :: booksN ps (nextN p.1 p.2 b)
/-- .. at the last one -/
def bookN : List (Leg × Int) → List Int → List Int
  | [], b => b
  | p :: ps, b => bookN ps (nextN p.1 p.2 b)
theorem books_len : ∀ (ps : List (Leg × Int)) (b : List Int), (booksN ps b).length = ps.length + 1
  | [], _ => rfl
  | p :: ps, b => congrArg Nat.succ (books_len ps _)
theorem book_len : ∀ (ps : List (Leg × Int)) (b : List Int), (bookN ps b).length = b.length
  | [], _ => rfl
  | p :: ps, b => by rw [bookN, book_len ps, next_len]
theorem book_snoc (p : Leg × Int) : ∀ (ps : List (Leg × Int)) (b : List Int), bookN (ps ++ [p]) b = nextN p.1 p.2 (bookN ps b)
  | [], _ => rfl
  | q :: ps, b => by rw [List.cons_append, bookN, book_snoc p ps, bookN]
theorem books_snoc (p : Leg × Int) : ∀ (ps : List (Leg × Int)) (b : List Int), booksN (ps ++ [p]) b = booksN ps b ++ [bookN (ps ++ [p]) b]
  | [], _ => rfl
  | q :: ps, b => by rw [List.cons_append, booksN, books_snoc p ps, booksN, bookN]; rfl
theorem books_last : ∀ (ps : List (Leg × Int)) (b : List Int), ∃ init, booksN ps b = init ++ [bookN ps b]
  | [], b => ⟨[], rfl⟩
  | p :: ps, b => by
    obtain ⟨i, e⟩ := books_last ps (nextN p.1 p.2 b)
    exact ⟨b :: i, by rw [booksN, e, bookN]; rfl⟩
def Road.ps (r : Road) : List (Leg × Int) := r.legs.zip r.firsts
theorem wl_road0 (r : Road) (K : D → Prop) : wl (idxR (.frz (roadD r)) (.frz (.int 0))) K = K (.tuple (r.legs.map legD)) := by unfold roadD; rw [id_t, wl_at0]
theorem wl_road1 (r : Road) (K : D → Prop) : wl (idxR (.frz (roadD r)) (.frz (.int 1))) K = K (.tuple (r.firsts.map .int)) := by unfold roadD; rw [id_t, wl_at1]
theorem tg_road {mk : D → Sl} {t u : Tg} {r : Road} {ρ : Sto} {K : Sto → Prop} : wTg mk (.tup [t, u]) (roadD r) ρ K = wTg mk t (.tuple (r.legs.map legD)) ρ fun ρ1 => wTg mk u (.tuple (r.firsts.map .int)) ρ1 K := by
  unfold roadD
  rw [tg_t, tgs_c]
  simp only [tgs_c, tgs_n]
theorem tg_leg {mk : D → Sl} {t u v : Tg} {l : Leg} {ρ : Sto} {K : Sto → Prop} : wTg mk (.tup [t, u, v]) (legD l) ρ K = wTg mk t (.int l.full) ρ fun ρ1 => wTg mk u (.int l.least) ρ1 fun ρ2 => wTg mk v (.int l.most) ρ2 K := by
  unfold legD
  rw [tg_t, tgs_c]
  simp only [tgs_c, tgs_n]
theorem ix_books (ps : List (Leg × Int)) (b : List Int) : ix (booksN ps b) (-1) = bookN ps b := by
  obtain ⟨i, e⟩ := books_last ps b
  rw [e, ix_last]
end Rx
set_option Elab.async false
set_option linter.all false
set_option maxHeartbeats 4000000
/-! SpR2: books, comings, stands, rides -/
namespace Rx
open PySem PySem.Spec L2
set_option maxRecDepth 100000
local macro_rules | `(tactic| simp_all? only [$xs,*]) => `(tactic| simp only [↓e_const, ↓e_bop, ↓e_neg, ↓e_cop, ↓e_ch2, ↓e_isN, ↓e_notN, ↓e_not, ↓e_and, ↓e_or, ↓e_ife, ↓e_idx, ↓e_slc, ↓e_asI, ↓e_rev, ↓e_tup, ↓e_lst, ↓e_call, ↓e_callk, ↓e_bi, ↓e_comp, ↓es_nil, ↓es_cons, ↓ts_nil, ↓ts_cons, ↓it_seq, ↓it_range1, ↓it_range2, ↓it_enum, ↓it_revd, ↓it_zipt, ↓it_zipf, ↓ss_nil, ↓ss_last, ↓s_setv, ↓s_sett, ↓s_par, ↓s_ext, ↓s_mt0, ↓mt0_l, ↓mt0_rev, ↓mt0_clr, ↓s_aug, ↓aug_i, ↓aug_l, ↓augL_l, ↓seti_l, ↓own_l, ↓s_seti, ↓s_expr, ↓app_l, ↓s_app, ↓s_iff, ↓s_whl, ↓s_for, ↓ret_v, ↓ret_s, ↓retS_l, ↓s_ret, ↓s_retN, ↓s_brk, ↓s_cont, ↓s_pass, ↓s_never, ↓nx_n, ↓nx_r, ↓nx_b, ↓nx_c, ↓fl_n, ↓fl_c, ↓fl_b, ↓fl_r, ↓vl_v, ↓vl_s, ↓putr_f, ↓putr_l, ↓tg_n, ↓tg_t, ↓tgs_n, ↓tgs_c, ↓pa_n, ↓pa_c, ↓par_n, ↓par_v, ↓par_s, ↓rd_v, ↓rd_s, ↓rdS_m, ↓ri_v, ↓hd_f, ↓hd_l, ↓hd_s, ↓hs_c, ↓hs_l, ↓hds_n, ↓hds_c, ↓rds_n, ↓rds_c, ↓ab_v, ↓sq_l, ↓sq_t, ↓pd_n, ↓pd_c, ↓ix_z, ↓ix_s, ↓if_t, ↓if_f, ↓if_n, ↓if_d, ↓no_n, ↓no_i, ↓no_b, ↓no_s, ↓no_t, ↓no_l, ↓no_r, ↓bi_add, ↓bi_sub, ↓bi_mul, ↓bi_div, ↓bi_mod, ↓bi_pow, ↓wl_ixN, ↓b_ii, ↓b_ss, ↓b_ll, ↓b_lf, ↓b_fl, ↓b_ff, ↓b_tt, ↓b_lm, ↓b_tm, ↓c_eqi, ↓c_nei, ↓c_lt, ↓c_le, ↓c_gt, ↓c_ge, ↓id_t, ↓id_l, ↓id_o, ↓wl_at0, ↓wl_at1, ↓wl_at2, ↓wl_at3, ↓at_map, ↓sl_t, ↓sl_l, ↓sl_o, ↓oi_n, ↓oi_i, ↓bl_len, ↓len_l, ↓len_f, ↓len_t, ↓len_s, ↓bl_maxs, ↓bl_mins, ↓bl_max2, ↓bl_min2, ↓bl_abs, ↓bl_sum, ↓bl_sumf, ↓bl_all, ↓bl_any, ↓any_map, ↓all_map, ↓bl_listl, ↓bl_listf, ↓bl_listt, ↓bl_tupl, ↓bl_tupf, ↓bl_tupt, ↓bl_intb, ↓bl_inti, ↓bl_str, ↓bl_isi, ↓bl_sorted, ↓bl_repr, ↓max_t, ↓max_l, ↓max_o, ↓min_t, ↓min_l, ↓min_o, ↓kd_r1, ↓kd_r2, ↓kd_r3, ↓kd_r4, ↓kd_r5, ↓kd_r6, ↓kd_r7, ↓ns_1, ↓ns_2, ↓ns_3, ↓ns_4, ↓ns_5, ↓ns_6, ↓ns_7, ↓ns_8, ↓lt_c, ↓lt_d, ↓bk_1, ↓bk_2, ↓bk_3, ↓bk_4, ↓bk_5, ↓bk_6, ↓bk_7, ↓bk_8, ↓wp_ret, ↓wl_some, ↓turn_u, ↓Vf_0, ↓Vt_0, ↓Vm_0, ↓Vf_1, ↓Vt_1, ↓Vm_1, ↓Vf_2, ↓Vt_2, ↓Vm_2, ↓Vf_3, ↓Vt_3, ↓Vm_3, ↓Vf_4, ↓Vt_4, ↓Vm_4, ↓Vf_5, ↓Vt_5, ↓Vm_5, ↓Vf_6, ↓Vt_6, ↓Vm_6, ↓Vf_7, ↓Vt_7, ↓Vm_7, ↓Vf_8, ↓Vt_8, ↓Vm_8, ↓Vf_9, ↓Vt_9, ↓Vm_9, ↓Vf_10, ↓Vt_10, ↓Vm_10, ↓Vf_11, ↓Vt_11, ↓Vm_11, ↓Vf_12, ↓Vt_12, ↓Vm_12, ↓Vf_13, ↓Vt_13, ↓Vm_13, ↓Vf_14, ↓Vt_14, ↓Vm_14, ↓Vf_15, ↓Vt_15, ↓Vm_15, ↓Vf_16, ↓Vt_16, ↓Vm_16, ↓Vf_17, ↓Vt_17, ↓Vm_17, ↓Vf_18, ↓Vt_18, ↓Vm_18, ↓Vf_19, ↓Vt_19, ↓Vm_19, ↓Vf_20, ↓Vt_20, ↓Vm_20, ↓Vf_21, ↓Vt_21, ↓Vm_21, ↓Vf_22, ↓Vt_22, ↓Vm_22, ↓Vf_23, ↓Vt_23, ↓Vm_23, ↓Vf_24, ↓Vt_24, ↓Vm_24, ↓Vf_25, ↓Vt_25, ↓Vm_25, ↓Vf_26, ↓Vt_26, ↓Vm_26, ↓Vf_27, ↓Vt_27, ↓Vm_27, ↓Vf_28, ↓Vt_28, ↓Vm_28, ↓Vf_29, ↓Vt_29, ↓Vm_29, ↓Vf_30, ↓Vt_30, ↓Vm_30, ↓Vf_31, ↓Vt_31, ↓Vm_31, e_const, e_bop, e_neg, e_cop, e_ch2, e_isN, e_notN, e_not, e_and, e_or, e_ife, e_idx, e_slc, e_asI, e_rev, e_tup, e_lst, e_call, e_callk, e_bi, e_comp, es_nil, es_cons, ts_nil, ts_cons, it_seq, it_range1, it_range2, it_enum, it_revd, it_zipt, it_zipf, ss_nil, ss_last, s_setv, s_sett, s_par, s_ext, s_mt0, mt0_l, mt0_rev, mt0_clr, s_aug, aug_i, aug_l, augL_l, seti_l, own_l, s_seti, s_expr, app_l, s_app, s_iff, s_whl, s_for, ret_v, ret_s, retS_l, s_ret, s_retN, s_brk, s_cont, s_pass, s_never, nx_n, nx_r, nx_b, nx_c, fl_n, fl_c, fl_b, fl_r, vl_v, vl_s, putr_f, putr_l, tg_n, tg_t, tgs_n, tgs_c, pa_n, pa_c, par_n, par_v, par_s, rd_v, rd_s, rdS_m, ri_v, hd_f, hd_l, hd_s, hs_c, hs_l, hds_n, hds_c, rds_n, rds_c, ab_v, sq_l, sq_t, pd_n, pd_c, ix_z, ix_s, if_t, if_f, if_n, if_d, no_n, no_i, no_b, no_s, no_t, no_l, no_r, bi_add, bi_sub, bi_mul, bi_div, bi_mod, bi_pow, wl_ixN, b_ii, b_ss, b_ll, b_lf, b_fl, b_ff, b_tt, b_lm, b_tm, c_eqi, c_nei, c_lt, c_le, c_gt, c_ge, id_t, id_l, id_o, wl_at0, wl_at1, wl_at2, wl_at3, at_map, sl_t, sl_l, sl_o, oi_n, oi_i, bl_len, len_l, len_f, len_t, len_s, bl_maxs, bl_mins, bl_max2, bl_min2, bl_abs, bl_sum, bl_sumf, bl_all, bl_any, any_map, all_map, bl_listl, bl_listf, bl_listt, bl_tupl, bl_tupf, bl_tupt, bl_intb, bl_inti, bl_str, bl_isi, bl_sorted, bl_repr, max_t, max_l, max_o, min_t, min_l, min_o, kd_r1, kd_r2, kd_r3, kd_r4, kd_r5, kd_r6, kd_r7, ns_1, ns_2, ns_3, ns_4, ns_5, ns_6, ns_7, ns_8, lt_c, lt_d, bk_1, bk_2, bk_3, bk_4, bk_5, bk_6, bk_7, bk_8, wp_ret, wl_some, turn_u, Vf_0, Vt_0, Vm_0, Vf_1, Vt_1, Vm_1, Vf_2, Vt_2, Vm_2, Vf_3, Vt_3, Vm_3, Vf_4, Vt_4, Vm_4, Vf_5, Vt_5, Vm_5, Vf_6, Vt_6, Vm_6, Vf_7, Vt_7, Vm_7, Vf_8, Vt_8, Vm_8, Vf_9, Vt_9, Vm_9, Vf_10, Vt_10, Vm_10, Vf_11, Vt_11, Vm_11, Vf_12, Vt_12, Vm_12, Vf_13, Vt_13, Vm_13, Vf_14, Vt_14, Vm_14, Vf_15, Vt_15, Vm_15, Vf_16, Vt_16, Vm_16, Vf_17, Vt_17, Vm_17, Vf_18, Vt_18, Vm_18, Vf_19, Vt_19, Vm_19, Vf_20, Vt_20, Vm_20, Vf_21, Vt_21, Vm_21, Vf_22, Vt_22, Vm_22, Vf_23, Vt_23, Vm_23, Vf_24, Vt_24, Vm_24, Vf_25, Vt_25, Vm_25, Vf_26, Vt_26, Vm_26, Vf_27, Vt_27, Vm_27, Vf_28, Vt_28, Vm_28, Vf_29, Vt_29, Vm_29, Vf_30, Vt_30, Vm_30, Vf_31, Vt_31, Vm_31, put_k, set_c, set_d, set_b, set_f, cln_nil, cln_n, cln_f, cln_m, cln_l, cln_d, szi, szl, dv_t, pw_t, sml_l, sml_r, decide_eq_true_eq, Int.reduceMul, Int.reduceMod, Int.reduceAdd, Int.reduceSub, Int.reduceDiv, Int.reduceNeg, Int.natAbs_zero, un_nil, un_n, un_f, un_m, fz_nil, fz_n, fz_f, fz_m, fz_l, fz_d, nl_nil, nl_n, nl_f, nl_m, nl_l, nl_d, mf_nil, mf_n, mf_f, mf_m, mf_l, mf_d, df_nil, df_n, df_f, df_m, df_l, df_d, ik_n, ik_f, ik_m, ko_n, ko_f, ko_k, ko_o, eqv_ii, cut_m, enum_map, zip_map, ints_zero, wi_n, wi_c, ba_n, ba_c, toD_f, toD_l, slo_f, slo_l, sc_i, sc_b, sc_s, sc_n, sc_l, sc_t, scr_f, scr_l, Bool.and_self, Bool.true_and, Bool.and_true, List.all_cons, List.all_nil, Int.toNat_natCast, Int.natCast_nonneg, Int.reduceLT, Int.reduceLE, Int.cast_ofNat_Int, c_eqS, c_neS, shp_int, shp_bool, shp_none, shp_list, shp_tuple, shpl_nil, shpl_cons, shpl_app, shpl_map, shp_leg, shp_road, implies_true, and_self, List.length_cons, List.length_nil, List.length_map, List.cons_append, List.nil_append, Nat.reduceAdd, Nat.reduceLT, Nat.reduceLeDiff, Nat.zero_add, Int.reduceNeg, Int.reducePow, Int.reduceToNat, true_and, and_true, reduceIte, eq_self, decide_true, decide_false, Bool.not_true, Bool.not_false, Bool.false_eq_true, Bool.true_eq_false, false_implies, forall_const, not_true_eq_false, not_false_eq_true, G_0, L_0, G_1, L_1, G_2, L_2, G_3, L_3, G_4, L_4, G_5, L_5, G_6, L_6, G_7, L_7, G_8, L_8, G_9, L_9, G_10, L_10, G_11, L_11, G_12, L_12, G_13, L_13, G_14, L_14, G_15, L_15, G_16, L_16, G_17, L_17, G_18, L_18, G_19, L_19, G_20, L_20, G_21, L_21, G_22, L_22, G_23, L_23, G_24, L_24, G_25, L_25, G_26, L_26, G_27, L_27, G_28, L_28, G_29, L_29, G_30, L_30, G_31, L_31, $xs,*])
local macro_rules | `(tactic| simp_all? [$xs,*]) => `(tactic| simp only [↓e_const, ↓e_bop, ↓e_neg, ↓e_cop, ↓e_ch2, ↓e_isN, ↓e_notN, ↓e_not, ↓e_and, ↓e_or, ↓e_ife, ↓e_idx, ↓e_slc, ↓e_asI, ↓e_rev, ↓e_tup, ↓e_lst, ↓e_call, ↓e_callk, ↓e_bi, ↓e_comp, ↓es_nil, ↓es_cons, ↓ts_nil, ↓ts_cons, ↓it_seq, ↓it_range1, ↓it_range2, ↓it_enum, ↓it_revd, ↓it_zipt, ↓it_zipf, ↓ss_nil, ↓ss_last, ↓s_setv, ↓s_sett, ↓s_par, ↓s_ext, ↓s_mt0, ↓mt0_l, ↓mt0_rev, ↓mt0_clr, ↓s_aug, ↓aug_i, ↓aug_l, ↓augL_l, ↓seti_l, ↓own_l, ↓s_seti, ↓s_expr, ↓app_l, ↓s_app, ↓s_iff, ↓s_whl, ↓s_for, ↓ret_v, ↓ret_s, ↓retS_l, ↓s_ret, ↓s_retN, ↓s_brk, ↓s_cont, ↓s_pass, ↓s_never, ↓nx_n, ↓nx_r, ↓nx_b, ↓nx_c, ↓fl_n, ↓fl_c, ↓fl_b, ↓fl_r, ↓vl_v, ↓vl_s, ↓putr_f, ↓putr_l, ↓tg_n, ↓tg_t, ↓tgs_n, ↓tgs_c, ↓pa_n, ↓pa_c, ↓par_n, ↓par_v, ↓par_s, ↓rd_v, ↓rd_s, ↓rdS_m, ↓ri_v, ↓hd_f, ↓hd_l, ↓hd_s, ↓hs_c, ↓hs_l, ↓hds_n, ↓hds_c, ↓rds_n, ↓rds_c, ↓ab_v, ↓sq_l, ↓sq_t, ↓pd_n, ↓pd_c, ↓ix_z, ↓ix_s, ↓if_t, ↓if_f, ↓if_n, ↓if_d, ↓no_n, ↓no_i, ↓no_b, ↓no_s, ↓no_t, ↓no_l, ↓no_r, ↓bi_add, ↓bi_sub, ↓bi_mul, ↓bi_div, ↓bi_mod, ↓bi_pow, ↓wl_ixN, ↓b_ii, ↓b_ss, ↓b_ll, ↓b_lf, ↓b_fl, ↓b_ff, ↓b_tt, ↓b_lm, ↓b_tm, ↓c_eqi, ↓c_nei, ↓c_lt, ↓c_le, ↓c_gt, ↓c_ge, ↓id_t, ↓id_l, ↓id_o, ↓wl_at0, ↓wl_at1, ↓wl_at2, ↓wl_at3, ↓at_map, ↓sl_t, ↓sl_l, ↓sl_o, ↓oi_n, ↓oi_i, ↓bl_len, ↓len_l, ↓len_f, ↓len_t, ↓len_s, ↓bl_maxs, ↓bl_mins, ↓bl_max2, ↓bl_min2, ↓bl_abs, ↓bl_sum, ↓bl_sumf, ↓bl_all, ↓bl_any, ↓any_map, ↓all_map, ↓bl_listl, ↓bl_listf, ↓bl_listt, ↓bl_tupl, ↓bl_tupf, ↓bl_tupt, ↓bl_intb, ↓bl_inti, ↓bl_str, ↓bl_isi, ↓bl_sorted, ↓bl_repr, ↓max_t, ↓max_l, ↓max_o, ↓min_t, ↓min_l, ↓min_o, ↓kd_r1, ↓kd_r2, ↓kd_r3, ↓kd_r4, ↓kd_r5, ↓kd_r6, ↓kd_r7, ↓ns_1, ↓ns_2, ↓ns_3, ↓ns_4, ↓ns_5, ↓ns_6, ↓ns_7, ↓ns_8, ↓lt_c, ↓lt_d, ↓bk_1, ↓bk_2, ↓bk_3, ↓bk_4, ↓bk_5, ↓bk_6, ↓bk_7, ↓bk_8, ↓wp_ret, ↓wl_some, ↓turn_u, ↓Vf_0, ↓Vt_0, ↓Vm_0, ↓Vf_1, ↓Vt_1, ↓Vm_1, ↓Vf_2, ↓Vt_2, ↓Vm_2, ↓Vf_3, ↓Vt_3, ↓Vm_3, ↓Vf_4, ↓Vt_4, ↓Vm_4, ↓Vf_5, ↓Vt_5, ↓Vm_5, ↓Vf_6, ↓Vt_6, ↓Vm_6, ↓Vf_7, ↓Vt_7, ↓Vm_7, ↓Vf_8, ↓Vt_8, ↓Vm_8, ↓Vf_9, ↓Vt_9, ↓Vm_9, ↓Vf_10, ↓Vt_10, ↓Vm_10, ↓Vf_11, ↓Vt_11, ↓Vm_11, ↓Vf_12, ↓Vt_12, ↓Vm_12, ↓Vf_13, ↓Vt_13, ↓Vm_13, ↓Vf_14, ↓Vt_14, ↓Vm_14, ↓Vf_15, ↓Vt_15, ↓Vm_15, ↓Vf_16, ↓Vt_16, ↓Vm_16, ↓Vf_17, ↓Vt_17, ↓Vm_17, ↓Vf_18, ↓Vt_18, ↓Vm_18, ↓Vf_19, ↓Vt_19, ↓Vm_19, ↓Vf_20, ↓Vt_20, ↓Vm_20, ↓Vf_21, ↓Vt_21, ↓Vm_21, ↓Vf_22, ↓Vt_22, ↓Vm_22, ↓Vf_23, ↓Vt_23, ↓Vm_23, ↓Vf_24, ↓Vt_24, ↓Vm_24, ↓Vf_25, ↓Vt_25, ↓Vm_25, ↓Vf_26, ↓Vt_26, ↓Vm_26, ↓Vf_27, ↓Vt_27, ↓Vm_27, ↓Vf_28, ↓Vt_28, ↓Vm_28, ↓Vf_29, ↓Vt_29, ↓Vm_29, ↓Vf_30, ↓Vt_30, ↓Vm_30, ↓Vf_31, ↓Vt_31, ↓Vm_31, e_const, e_bop, e_neg, e_cop, e_ch2, e_isN, e_notN, e_not, e_and, e_or, e_ife, e_idx, e_slc, e_asI, e_rev, e_tup, e_lst, e_call, e_callk, e_bi, e_comp, es_nil, es_cons, ts_nil, ts_cons, it_seq, it_range1, it_range2, it_enum, it_revd, it_zipt, it_zipf, ss_nil, ss_last, s_setv, s_sett, s_par, s_ext, s_mt0, mt0_l, mt0_rev, mt0_clr, s_aug, aug_i, aug_l, augL_l, seti_l, own_l, s_seti, s_expr, app_l, s_app, s_iff, s_whl, s_for, ret_v, ret_s, retS_l, s_ret, s_retN, s_brk, s_cont, s_pass, s_never, nx_n, nx_r, nx_b, nx_c, fl_n, fl_c, fl_b, fl_r, vl_v, vl_s, putr_f, putr_l, tg_n, tg_t, tgs_n, tgs_c, pa_n, pa_c, par_n, par_v, par_s, rd_v, rd_s, rdS_m, ri_v, hd_f, hd_l, hd_s, hs_c, hs_l, hds_n, hds_c, rds_n, rds_c, ab_v, sq_l, sq_t, pd_n, pd_c, ix_z, ix_s, if_t, if_f, if_n, if_d, no_n, no_i, no_b, no_s, no_t, no_l, no_r, bi_add, bi_sub, bi_mul, bi_div, bi_mod, bi_pow, wl_ixN, b_ii, b_ss, b_ll, b_lf, b_fl, b_ff, b_tt, b_lm, b_tm, c_eqi, c_nei, c_lt, c_le, c_gt, c_ge, id_t, id_l, id_o, wl_at0, wl_at1, wl_at2, wl_at3, at_map, sl_t, sl_l, sl_o, oi_n, oi_i, bl_len, len_l, len_f, len_t, len_s, bl_maxs, bl_mins, bl_max2, bl_min2, bl_abs, bl_sum, bl_sumf, bl_all, bl_any, any_map, all_map, bl_listl, bl_listf, bl_listt, bl_tupl, bl_tupf, bl_tupt, bl_intb, bl_inti, bl_str, bl_isi, bl_sorted, bl_repr, max_t, max_l, max_o, min_t, min_l, min_o, kd_r1, kd_r2, kd_r3, kd_r4, kd_r5, kd_r6, kd_r7, ns_1, ns_2, ns_3, ns_4, ns_5, ns_6, ns_7, ns_8, lt_c, lt_d, bk_1, bk_2, bk_3, bk_4, bk_5, bk_6, bk_7, bk_8, wp_ret, wl_some, turn_u, Vf_0, Vt_0, Vm_0, Vf_1, Vt_1, Vm_1, Vf_2, Vt_2, Vm_2, Vf_3, Vt_3, Vm_3, Vf_4, Vt_4, Vm_4, Vf_5, Vt_5, Vm_5, Vf_6, Vt_6, Vm_6, Vf_7, Vt_7, Vm_7, Vf_8, Vt_8, Vm_8, Vf_9, Vt_9, Vm_9, Vf_10, Vt_10, Vm_10, Vf_11, Vt_11, Vm_11, Vf_12, Vt_12, Vm_12, Vf_13, Vt_13, Vm_13, Vf_14, Vt_14, Vm_14, Vf_15, Vt_15, Vm_15, Vf_16, Vt_16, Vm_16, Vf_17, Vt_17, Vm_17, Vf_18, Vt_18, Vm_18, Vf_19, Vt_19, Vm_19, Vf_20, Vt_20, Vm_20, Vf_21, Vt_21, Vm_21, Vf_22, Vt_22, Vm_22, Vf_23, Vt_23, Vm_23, Vf_24, Vt_24, Vm_24, Vf_25, Vt_25, Vm_25, Vf_26, Vt_26, Vm_26, Vf_27, Vt_27, Vm_27, Vf_28, Vt_28, Vm_28, Vf_29, Vt_29, Vm_29, Vf_30, Vt_30, Vm_30, Vf_31, Vt_31, Vm_31, put_k, set_c, set_d, set_b, set_f, cln_nil, cln_n, cln_f, cln_m, cln_l, cln_d, szi, szl, dv_t, pw_t, sml_l, sml_r, decide_eq_true_eq, Int.reduceMul, Int.reduceMod, Int.reduceAdd, Int.reduceSub, Int.reduceDiv, Int.reduceNeg, Int.natAbs_zero, un_nil, un_n, un_f, un_m, fz_nil, fz_n, fz_f, fz_m, fz_l, fz_d, nl_nil, nl_n, nl_f, nl_m, nl_l, nl_d, mf_nil, mf_n, mf_f, mf_m, mf_l, mf_d, df_nil, df_n, df_f, df_m, df_l, df_d, ik_n, ik_f, ik_m, ko_n, ko_f, ko_k, ko_o, eqv_ii, cut_m, enum_map, zip_map, ints_zero, wi_n, wi_c, ba_n, ba_c, toD_f, toD_l, slo_f, slo_l, sc_i, sc_b, sc_s, sc_n, sc_l, sc_t, scr_f, scr_l, Bool.and_self, Bool.true_and, Bool.and_true, List.all_cons, List.all_nil, Int.toNat_natCast, Int.natCast_nonneg, Int.reduceLT, Int.reduceLE, Int.cast_ofNat_Int, c_eqS, c_neS, shp_int, shp_bool, shp_none, shp_list, shp_tuple, shpl_nil, shpl_cons, shpl_app, shpl_map, shp_leg, shp_road, implies_true, and_self, List.length_cons, List.length_nil, List.length_map, List.cons_append, List.nil_append, Nat.reduceAdd, Nat.reduceLT, Nat.reduceLeDiff, Nat.zero_add, Int.reduceNeg, Int.reducePow, Int.reduceToNat, true_and, and_true, reduceIte, eq_self, decide_true, decide_false, Bool.not_true, Bool.not_false, Bool.false_eq_true, Bool.true_eq_false, false_implies, forall_const, not_true_eq_false, not_false_eq_true, G_0, L_0, G_1, L_1, G_2, L_2, G_3, L_3, G_4, L_4, G_5, L_5, G_6, L_6, G_7, L_7, G_8, L_8, G_9, L_9, G_10, L_10, G_11, L_11, G_12, L_12, G_13, L_13, G_14, L_14, G_15, L_15, G_16, L_16, G_17, L_17, G_18, L_18, G_19, L_19, G_20, L_20, G_21, L_21, G_22, L_22, G_23, L_23, G_24, L_24, G_25, L_25, G_26, L_26, G_27, L_27, G_28, L_28, G_29, L_29, G_30, L_30, G_31, L_31, cln_x, un_x, fz_x, nl_x, mf_x, df_x, ik_x, ko_x, $xs,*])
theorem take_zipN {α β : Type} : ∀ (n : Nat) (xs : List α) (ys : List β), (xs.zip ys).take n = (xs.take n).zip (ys.take n)
  | 0, _, _ => rfl
  | n + 1, [], _ => rfl
  | n + 1, _ :: _, [] => rfl
  | n + 1, x :: xs, y :: ys => by rw [List.zip_cons_cons, List.take_succ_cons, take_zipN n xs ys]; rfl
theorem books_all_len : ∀ (ps : List (Leg × Int)) (b c : List Int), c ∈ booksN ps b → c.length = b.length
  | [], b, c, h => by rw [booksN, List.mem_singleton] at h; rw [h]
  | p :: ps, b, c, h => by
    rw [booksN] at h
    rcases List.mem_cons.mp h with rfl | h
    · rfl
    · rw [books_all_len ps _ c h, next_len]
theorem W_books_to {r : Road} {b : List Int} {k : Int} (hr : r.legs.length = r.firsts.length) (hr' : r.legs.length < 1000000) (hb : b.length < 1000000) (hk : 0 ≤ k) (Q : R → Sto → Prop) :
    wp (f_books_to.sf [some (.frz (roadD r)), some (.frz (.tuple (b.map .int))), some (.frz (.int k))]) Q = Q (.lst ((booksN (r.ps.take k.toNat) b).map intsD)) [none, none, none] := by
  refine wp_rw (fun Q q => ?_) Q
  simp_all? only [o_books_to, ↓u_books_to_2a, ↓u_books_to__3, ↓u_books_to__2, ↓u_books_to__1, ↓u_books_to, tg_road]
  rw [sl_hi hk, sl_hi hk, ← take_zipN]
  refine ⟨by rw [List.length_take, List.length_take, hr], for_inv (ys := r.ps.take k.toNat) (fun pre ρ' => ∃ x6 x7, ρ' = [some (.frz (roadD r)), some (.frz (.tuple (b.map .int))), some (.frz (.int k)), some (.frz (.tuple (r.legs.map legD))), some (.frz (.tuple (r.firsts.map .int))), some (.mut .clean false ((booksN pre b).map intsD)), x6, x7] ∧ fr x6 = true ∧ fr x7 = true) rfl ⟨none, none, rfl, rfl, rfl⟩ ?_ ?_⟩
  · rintro pre ⟨l, f⟩ post ρ e ⟨x6, x7, rfl, h6, h7⟩
    have hp : pre.length < 1000000 := by
      have := congrArg List.length e
      simp [Road.ps] at this; omega
    simp_all? [o_books_to, ↓u_books_to_2a, ↓u_books_to__3, ↓u_books_to__2, ↓u_books_to__1, ↓u_books_to, k_comes_next, h6, h7]
    rw [ix_books, books_len]
    refine ⟨⟨by omega, by omega⟩, ?_⟩
    unfold intsD
    simp_all? only [o_books_to, ↓u_books_to_2a, ↓u_books_to__3, ↓u_books_to__2, ↓u_books_to__1, ↓u_books_to, W_comes_next (show (bookN pre b).length < 1000000 by rw [book_len]; exact hb)]
    refine ⟨by rw [books_len]; omega, some (.frz (legD l)), some (.frz (.int f)), ?_, rfl, rfl⟩
    rw [books_snoc, List.map_append, book_snoc]
    rfl
  · rintro ρ ⟨x6, x7, rfl, h6, h7⟩
    simp_all? [o_books_to, ↓u_books_to_2a, ↓u_books_to__3, ↓u_books_to__2, ↓u_books_to__1, ↓u_books_to, h6, h7]
    exact q
theorem W_book_at {r : Road} {b : List Int} {k : Int} (hr : r.legs.length = r.firsts.length) (hr' : r.legs.length < 1000000) (hb : b.length < 1000000) (hk : 0 ≤ k) (Q : R → Sto → Prop) :
    wp (f_book_at.sf [some (.frz (roadD r)), some (.frz (.tuple (b.map .int))), some (.frz (.int k))]) Q = Q (.frz (intsD (bookN (r.ps.take k.toNat) b))) [none, none, none] := by
  refine wp_rw (fun Q q => ?_) Q
  simp_all? only [o_book_at, ↓u_book_at, k_books_to, W_books_to hr hr' hb hk, ix_books, books_len]
  exact ⟨⟨by omega, by omega⟩, q⟩
/-- for each rider all its comings -/
def comingsN (r : Road) (b : List Int) : List (List Int) := (List.range b.length).map fun i => (booksN r.ps b).map fun c => ix c (i : Nat)
theorem W_comings {r : Road} {b : List Int} (hr : r.legs.length = r.firsts.length) (hr' : r.legs.length < 1000000) (hb : b.length < 1000000) (Q : R → Sto → Prop) :
    wp (f_comings.sf [some (.frz (roadD r)), some (.frz (.tuple (b.map .int)))]) Q = Q (.lst ((comingsN r b).map intsD)) [none, none] := by
  refine wp_rw (fun Q q => ?_) Q
  simp_all? only [o_comings, ↓u_comings__1, ↓u_comings, k_books_to, W_books_to hr hr' hb, wl_road0]
  have eps : r.ps.take r.legs.length = r.ps := List.take_of_length_le (by unfold Road.ps; rw [List.length_zip, hr]; omega)
  rw [eps]
  refine ⟨⟨by omega, by omega⟩, comp_map_s (fun z : Bool => [some (.frz (roadD r)), some (.frz (.tuple (b.map .int))), some (.mut (if z then .lent else .clean) false ((booksN r.ps b).map intsD)), none, none, none]) false (G := fun i : Nat => intsD ((booksN r.ps b).map fun c => ix c (i : Nat))) rfl (len_bound (by rw [List.length_range]; omega)) rfl (fun i hi z => ?_) (fun z => ?_)⟩
  · have hi' := List.mem_range.mp hi
    cases z <;>
    · simp_all? only [if_true]
      refine comp_map (G := fun c : List Int => .int (ix c (i : Nat))) rfl (len_bound (by rw [books_len]; unfold Road.ps; rw [List.length_zip]; omega)) (fun c hc => ?_) ?_
      · unfold intsD
        simp_all? only [ns_1]
        have := books_all_len r.ps b c hc
        exact ⟨by omega, by omega⟩
      simp_all? only [ns_1]
      exact ⟨by unfold intsD; rw [List.map_map]; rfl, true, rfl⟩
  · cases z <;>
    · simp_all? only [if_true]
      unfold comingsN at q
      rw [List.map_map] at q
      exact q
end Rx
set_option Elab.async false
set_option linter.all false
set_option maxHeartbeats 4000000
/-! SpR3: comings, horses, stands, rides -/
namespace Rx
open PySem PySem.Spec L2
set_option maxRecDepth 100000
local macro_rules | `(tactic| simp_all? only [$xs,*]) => `(tactic| simp only [↓e_const, ↓e_bop, ↓e_neg, ↓e_cop, ↓e_ch2, ↓e_isN, ↓e_notN, ↓e_not, ↓e_and, ↓e_or, ↓e_ife, ↓e_idx, ↓e_slc, ↓e_asI, ↓e_rev, ↓e_tup, ↓e_lst, ↓e_call, ↓e_callk, ↓e_bi, ↓e_comp, ↓es_nil, ↓es_cons, ↓ts_nil, ↓ts_cons, ↓it_seq, ↓it_range1, ↓it_range2, ↓it_enum, ↓it_revd, ↓it_zipt, ↓it_zipf, ↓ss_nil, ↓ss_last, ↓s_setv, ↓s_sett, ↓s_par, ↓s_ext, ↓s_mt0, ↓mt0_l, ↓mt0_rev, ↓mt0_clr, ↓s_aug, ↓aug_i, ↓aug_l, ↓augL_l, ↓seti_l, ↓own_l, ↓s_seti, ↓s_expr, ↓app_l, ↓s_app, ↓s_iff, ↓s_whl, ↓s_for, ↓ret_v, ↓ret_s, ↓retS_l, ↓s_ret, ↓s_retN, ↓s_brk, ↓s_cont, ↓s_pass, ↓s_never, ↓nx_n, ↓nx_r, ↓nx_b, ↓nx_c, ↓fl_n, ↓fl_c, ↓fl_b, ↓fl_r, ↓vl_v, ↓vl_s, ↓putr_f, ↓putr_l, ↓tg_n, ↓tg_t, ↓tgs_n, ↓tgs_c, ↓pa_n, ↓pa_c, ↓par_n, ↓par_v, ↓par_s, ↓rd_v, ↓rd_s, ↓rdS_m, ↓ri_v, ↓hd_f, ↓hd_l, ↓hd_s, ↓hs_c, ↓hs_l, ↓hds_n, ↓hds_c, ↓rds_n, ↓rds_c, ↓ab_v, ↓sq_l, ↓sq_t, ↓pd_n, ↓pd_c, ↓ix_z, ↓ix_s, ↓if_t, ↓if_f, ↓if_n, ↓if_d, ↓no_n, ↓no_i, ↓no_b, ↓no_s, ↓no_t, ↓no_l, ↓no_r, ↓bi_add, ↓bi_sub, ↓bi_mul, ↓bi_div, ↓bi_mod, ↓bi_pow, ↓wl_ixN, ↓b_ii, ↓b_ss, ↓b_ll, ↓b_lf, ↓b_fl, ↓b_ff, ↓b_tt, ↓b_lm, ↓b_tm, ↓c_eqi, ↓c_nei, ↓c_lt, ↓c_le, ↓c_gt, ↓c_ge, ↓id_t, ↓id_l, ↓id_o, ↓wl_at0, ↓wl_at1, ↓wl_at2, ↓wl_at3, ↓at_map, ↓sl_t, ↓sl_l, ↓sl_o, ↓oi_n, ↓oi_i, ↓bl_len, ↓len_l, ↓len_f, ↓len_t, ↓len_s, ↓bl_maxs, ↓bl_mins, ↓bl_max2, ↓bl_min2, ↓bl_abs, ↓bl_sum, ↓bl_sumf, ↓bl_all, ↓bl_any, ↓any_map, ↓all_map, ↓bl_listl, ↓bl_listf, ↓bl_listt, ↓bl_tupl, ↓bl_tupf, ↓bl_tupt, ↓bl_intb, ↓bl_inti, ↓bl_str, ↓bl_isi, ↓bl_sorted, ↓bl_repr, ↓max_t, ↓max_l, ↓max_o, ↓min_t, ↓min_l, ↓min_o, ↓kd_r1, ↓kd_r2, ↓kd_r3, ↓kd_r4, ↓kd_r5, ↓kd_r6, ↓kd_r7, ↓ns_1, ↓ns_2, ↓ns_3, ↓ns_4, ↓ns_5, ↓ns_6, ↓ns_7, ↓ns_8, ↓lt_c, ↓lt_d, ↓bk_1, ↓bk_2, ↓bk_3, ↓bk_4, ↓bk_5, ↓bk_6, ↓bk_7, ↓bk_8, ↓wp_ret, ↓wl_some, ↓turn_u, ↓Vf_0, ↓Vt_0, ↓Vm_0, ↓Vf_1, ↓Vt_1, ↓Vm_1, ↓Vf_2, ↓Vt_2, ↓Vm_2, ↓Vf_3, ↓Vt_3, ↓Vm_3, ↓Vf_4, ↓Vt_4, ↓Vm_4, ↓Vf_5, ↓Vt_5, ↓Vm_5, ↓Vf_6, ↓Vt_6, ↓Vm_6, ↓Vf_7, ↓Vt_7, ↓Vm_7, ↓Vf_8, ↓Vt_8, ↓Vm_8, ↓Vf_9, ↓Vt_9, ↓Vm_9, ↓Vf_10, ↓Vt_10, ↓Vm_10, ↓Vf_11, ↓Vt_11, ↓Vm_11, ↓Vf_12, ↓Vt_12, ↓Vm_12, ↓Vf_13, ↓Vt_13, ↓Vm_13, ↓Vf_14, ↓Vt_14, ↓Vm_14, ↓Vf_15, ↓Vt_15, ↓Vm_15, ↓Vf_16, ↓Vt_16, ↓Vm_16, ↓Vf_17, ↓Vt_17, ↓Vm_17, ↓Vf_18, ↓Vt_18, ↓Vm_18, ↓Vf_19, ↓Vt_19, ↓Vm_19, ↓Vf_20, ↓Vt_20, ↓Vm_20, ↓Vf_21, ↓Vt_21, ↓Vm_21, ↓Vf_22, ↓Vt_22, ↓Vm_22, ↓Vf_23, ↓Vt_23, ↓Vm_23, ↓Vf_24, ↓Vt_24, ↓Vm_24, ↓Vf_25, ↓Vt_25, ↓Vm_25, ↓Vf_26, ↓Vt_26, ↓Vm_26, ↓Vf_27, ↓Vt_27, ↓Vm_27, ↓Vf_28, ↓Vt_28, ↓Vm_28, ↓Vf_29, ↓Vt_29, ↓Vm_29, ↓Vf_30, ↓Vt_30, ↓Vm_30, ↓Vf_31, ↓Vt_31, ↓Vm_31, e_const, e_bop, e_neg, e_cop, e_ch2, e_isN, e_notN, e_not, e_and, e_or, e_ife, e_idx, e_slc, e_asI, e_rev, e_tup, e_lst, e_call, e_callk, e_bi, e_comp, es_nil, es_cons, ts_nil, ts_cons, it_seq, it_range1, it_range2, it_enum, it_revd, it_zipt, it_zipf, ss_nil, ss_last, s_setv, s_sett, s_par, s_ext, s_mt0, mt0_l, mt0_rev, mt0_clr, s_aug, aug_i, aug_l, augL_l, seti_l, own_l, s_seti, s_expr, app_l, s_app, s_iff, s_whl, s_for, ret_v, ret_s, retS_l, s_ret, s_retN, s_brk, s_cont, s_pass, s_never, nx_n, nx_r, nx_b, nx_c, fl_n, fl_c, fl_b, fl_r, vl_v, vl_s, putr_f, putr_l, tg_n, tg_t, tgs_n, tgs_c, pa_n, pa_c, par_n, par_v, par_s, rd_v, rd_s, rdS_m, ri_v, hd_f, hd_l, hd_s, hs_c, hs_l, hds_n, hds_c, rds_n, rds_c, ab_v, sq_l, sq_t, pd_n, pd_c, ix_z, ix_s, if_t, if_f, if_n, if_d, no_n, no_i, no_b, no_s, no_t, no_l, no_r, bi_add, bi_sub, bi_mul, bi_div, bi_mod, bi_pow, wl_ixN, b_ii, b_ss, b_ll, b_lf, b_fl, b_ff, b_tt, b_lm, b_tm, c_eqi, c_nei, c_lt, c_le, c_gt, c_ge, id_t, id_l, id_o, wl_at0, wl_at1, wl_at2, wl_at3, at_map, sl_t, sl_l, sl_o, oi_n, oi_i, bl_len, len_l, len_f, len_t, len_s, bl_maxs, bl_mins, bl_max2, bl_min2, bl_abs, bl_sum, bl_sumf, bl_all, bl_any, any_map, all_map, bl_listl, bl_listf, bl_listt, bl_tupl, bl_tupf, bl_tupt, bl_intb, bl_inti, bl_str, bl_isi, bl_sorted, bl_repr, max_t, max_l, max_o, min_t, min_l, min_o, kd_r1, kd_r2, kd_r3, kd_r4, kd_r5, kd_r6, kd_r7, ns_1, ns_2, ns_3, ns_4, ns_5, ns_6, ns_7, ns_8, lt_c, lt_d, bk_1, bk_2, bk_3, bk_4, bk_5, bk_6, bk_7, bk_8, wp_ret, wl_some, turn_u, Vf_0, Vt_0, Vm_0, Vf_1, Vt_1, Vm_1, Vf_2, Vt_2, Vm_2, Vf_3, Vt_3, Vm_3, Vf_4, Vt_4, Vm_4, Vf_5, Vt_5, Vm_5, Vf_6, Vt_6, Vm_6, Vf_7, Vt_7, Vm_7, Vf_8, Vt_8, Vm_8, Vf_9, Vt_9, Vm_9, Vf_10, Vt_10, Vm_10, Vf_11, Vt_11, Vm_11, Vf_12, Vt_12, Vm_12, Vf_13, Vt_13, Vm_13, Vf_14, Vt_14, Vm_14, Vf_15, Vt_15, Vm_15, Vf_16, Vt_16, Vm_16, Vf_17, Vt_17, Vm_17, Vf_18, Vt_18, Vm_18, Vf_19, Vt_19, Vm_19, Vf_20, Vt_20, Vm_20, Vf_21, Vt_21, Vm_21, Vf_22, Vt_22, Vm_22, Vf_23, Vt_23, Vm_23, Vf_24, Vt_24, Vm_24, Vf_25, Vt_25, Vm_25, Vf_26, Vt_26, Vm_26, Vf_27, Vt_27, Vm_27, Vf_28, Vt_28, Vm_28, Vf_29, Vt_29, Vm_29, Vf_30, Vt_30, Vm_30, Vf_31, Vt_31, Vm_31, put_k, set_c, set_d, set_b, set_f, cln_nil, cln_n, cln_f, cln_m, cln_l, cln_d, szi, szl, dv_t, pw_t, sml_l, sml_r, decide_eq_true_eq, Int.reduceMul, Int.reduceMod, Int.reduceAdd, Int.reduceSub, Int.reduceDiv, Int.reduceNeg, Int.natAbs_zero, un_nil, un_n, un_f, un_m, fz_nil, fz_n, fz_f, fz_m, fz_l, fz_d, nl_nil, nl_n, nl_f, nl_m, nl_l, nl_d, mf_nil, mf_n, mf_f, mf_m, mf_l, mf_d, df_nil, df_n, df_f, df_m, df_l, df_d, ik_n, ik_f, ik_m, ko_n, ko_f, ko_k, ko_o, eqv_ii, cut_m, enum_map, zip_map, ints_zero, wi_n, wi_c, ba_n, ba_c, toD_f, toD_l, slo_f, slo_l, sc_i, sc_b, sc_s, sc_n, sc_l, sc_t, scr_f, scr_l, Bool.and_self, Bool.true_and, Bool.and_true, List.all_cons, List.all_nil, Int.toNat_natCast, Int.natCast_nonneg, Int.reduceLT, Int.reduceLE, Int.cast_ofNat_Int, c_eqS, c_neS, shp_int, shp_bool, shp_none, shp_list, shp_tuple, shpl_nil, shpl_cons, shpl_app, shpl_map, shp_leg, shp_road, implies_true, and_self, List.length_cons, List.length_nil, List.length_map, List.cons_append, List.nil_append, Nat.reduceAdd, Nat.reduceLT, Nat.reduceLeDiff, Nat.zero_add, Int.reduceNeg, Int.reducePow, Int.reduceToNat, true_and, and_true, reduceIte, eq_self, decide_true, decide_false, Bool.not_true, Bool.not_false, Bool.false_eq_true, Bool.true_eq_false, false_implies, forall_const, not_true_eq_false, not_false_eq_true, G_0, L_0, G_1, L_1, G_2, L_2, G_3, L_3, G_4, L_4, G_5, L_5, G_6, L_6, G_7, L_7, G_8, L_8, G_9, L_9, G_10, L_10, G_11, L_11, G_12, L_12, G_13, L_13, G_14, L_14, G_15, L_15, G_16, L_16, G_17, L_17, G_18, L_18, G_19, L_19, G_20, L_20, G_21, L_21, G_22, L_22, G_23, L_23, G_24, L_24, G_25, L_25, G_26, L_26, G_27, L_27, G_28, L_28, G_29, L_29, G_30, L_30, G_31, L_31, $xs,*])
local macro_rules | `(tactic| simp_all? [$xs,*]) => `(tactic| simp only [↓e_const, ↓e_bop, ↓e_neg, ↓e_cop, ↓e_ch2, ↓e_isN, ↓e_notN, ↓e_not, ↓e_and, ↓e_or, ↓e_ife, ↓e_idx, ↓e_slc, ↓e_asI, ↓e_rev, ↓e_tup, ↓e_lst, ↓e_call, ↓e_callk, ↓e_bi, ↓e_comp, ↓es_nil, ↓es_cons, ↓ts_nil, ↓ts_cons, ↓it_seq, ↓it_range1, ↓it_range2, ↓it_enum, ↓it_revd, ↓it_zipt, ↓it_zipf, ↓ss_nil, ↓ss_last, ↓s_setv, ↓s_sett, ↓s_par, ↓s_ext, ↓s_mt0, ↓mt0_l, ↓mt0_rev, ↓mt0_clr, ↓s_aug, ↓aug_i, ↓aug_l, ↓augL_l, ↓seti_l, ↓own_l, ↓s_seti, ↓s_expr, ↓app_l, ↓s_app, ↓s_iff, ↓s_whl, ↓s_for, ↓ret_v, ↓ret_s, ↓retS_l, ↓s_ret, ↓s_retN, ↓s_brk, ↓s_cont, ↓s_pass, ↓s_never, ↓nx_n, ↓nx_r, ↓nx_b, ↓nx_c, ↓fl_n, ↓fl_c, ↓fl_b, ↓fl_r, ↓vl_v, ↓vl_s, ↓putr_f, ↓putr_l, ↓tg_n, ↓tg_t, ↓tgs_n, ↓tgs_c, ↓pa_n, ↓pa_c, ↓par_n, ↓par_v, ↓par_s, ↓rd_v, ↓rd_s, ↓rdS_m, ↓ri_v, ↓hd_f, ↓hd_l, ↓hd_s, ↓hs_c, ↓hs_l, ↓hds_n, ↓hds_c, ↓rds_n, ↓rds_c, ↓ab_v, ↓sq_l, ↓sq_t, ↓pd_n, ↓pd_c, ↓ix_z, ↓ix_s, ↓if_t, ↓if_f, ↓if_n, ↓if_d, ↓no_n, ↓no_i, ↓no_b, ↓no_s, ↓no_t, ↓no_l, ↓no_r, ↓bi_add, ↓bi_sub, ↓bi_mul, ↓bi_div, ↓bi_mod, ↓bi_pow, ↓wl_ixN, ↓b_ii, ↓b_ss, ↓b_ll, ↓b_lf, ↓b_fl, ↓b_ff, ↓b_tt, ↓b_lm, ↓b_tm, ↓c_eqi, ↓c_nei, ↓c_lt, ↓c_le, ↓c_gt, ↓c_ge, ↓id_t, ↓id_l, ↓id_o, ↓wl_at0, ↓wl_at1, ↓wl_at2, ↓wl_at3, ↓at_map, ↓sl_t, ↓sl_l, ↓sl_o, ↓oi_n, ↓oi_i, ↓bl_len, ↓len_l, ↓len_f, ↓len_t, ↓len_s, ↓bl_maxs, ↓bl_mins, ↓bl_max2, ↓bl_min2, ↓bl_abs, ↓bl_sum, ↓bl_sumf, ↓bl_all, ↓bl_any, ↓any_map, ↓all_map, ↓bl_listl, ↓bl_listf, ↓bl_listt, ↓bl_tupl, ↓bl_tupf, ↓bl_tupt, ↓bl_intb, ↓bl_inti, ↓bl_str, ↓bl_isi, ↓bl_sorted, ↓bl_repr, ↓max_t, ↓max_l, ↓max_o, ↓min_t, ↓min_l, ↓min_o, ↓kd_r1, ↓kd_r2, ↓kd_r3, ↓kd_r4, ↓kd_r5, ↓kd_r6, ↓kd_r7, ↓ns_1, ↓ns_2, ↓ns_3, ↓ns_4, ↓ns_5, ↓ns_6, ↓ns_7, ↓ns_8, ↓lt_c, ↓lt_d, ↓bk_1, ↓bk_2, ↓bk_3, ↓bk_4, ↓bk_5, ↓bk_6, ↓bk_7, ↓bk_8, ↓wp_ret, ↓wl_some, ↓turn_u, ↓Vf_0, ↓Vt_0, ↓Vm_0, ↓Vf_1, ↓Vt_1, ↓Vm_1, ↓Vf_2, ↓Vt_2, ↓Vm_2, ↓Vf_3, ↓Vt_3, ↓Vm_3, ↓Vf_4, ↓Vt_4, ↓Vm_4, ↓Vf_5, ↓Vt_5, ↓Vm_5, ↓Vf_6, ↓Vt_6, ↓Vm_6, ↓Vf_7, ↓Vt_7, ↓Vm_7, ↓Vf_8, ↓Vt_8, ↓Vm_8, ↓Vf_9, ↓Vt_9, ↓Vm_9, ↓Vf_10, ↓Vt_10, ↓Vm_10, ↓Vf_11, ↓Vt_11, ↓Vm_11, ↓Vf_12, ↓Vt_12, ↓Vm_12, ↓Vf_13, ↓Vt_13, ↓Vm_13, ↓Vf_14, ↓Vt_14, ↓Vm_14, ↓Vf_15, ↓Vt_15, ↓Vm_15, ↓Vf_16, ↓Vt_16, ↓Vm_16, ↓Vf_17, ↓Vt_17, ↓Vm_17, ↓Vf_18, ↓Vt_18, ↓Vm_18, ↓Vf_19, ↓Vt_19, ↓Vm_19, ↓Vf_20, ↓Vt_20, ↓Vm_20, ↓Vf_21, ↓Vt_21, ↓Vm_21, ↓Vf_22, ↓Vt_22, ↓Vm_22, ↓Vf_23, ↓Vt_23, ↓Vm_23, ↓Vf_24, ↓Vt_24, ↓Vm_24, ↓Vf_25, ↓Vt_25, ↓Vm_25, ↓Vf_26, ↓Vt_26, ↓Vm_26, ↓Vf_27, ↓Vt_27, ↓Vm_27, ↓Vf_28, ↓Vt_28, ↓Vm_28, ↓Vf_29, ↓Vt_29, ↓Vm_29, ↓Vf_30, ↓Vt_30, ↓Vm_30, ↓Vf_31, ↓Vt_31, ↓Vm_31, e_const, e_bop, e_neg, e_cop, e_ch2, e_isN, e_notN, e_not, e_and, e_or, e_ife, e_idx, e_slc, e_asI, e_rev, e_tup, e_lst, e_call, e_callk, e_bi, e_comp, es_nil, es_cons, ts_nil, ts_cons, it_seq, it_range1, it_range2, it_enum, it_revd, it_zipt, it_zipf, ss_nil, ss_last, s_setv, s_sett, s_par, s_ext, s_mt0, mt0_l, mt0_rev, mt0_clr, s_aug, aug_i, aug_l, augL_l, seti_l, own_l, s_seti, s_expr, app_l, s_app, s_iff, s_whl, s_for, ret_v, ret_s, retS_l, s_ret, s_retN, s_brk, s_cont, s_pass, s_never, nx_n, nx_r, nx_b, nx_c, fl_n, fl_c, fl_b, fl_r, vl_v, vl_s, putr_f, putr_l, tg_n, tg_t, tgs_n, tgs_c, pa_n, pa_c, par_n, par_v, par_s, rd_v, rd_s, rdS_m, ri_v, hd_f, hd_l, hd_s, hs_c, hs_l, hds_n, hds_c, rds_n, rds_c, ab_v, sq_l, sq_t, pd_n, pd_c, ix_z, ix_s, if_t, if_f, if_n, if_d, no_n, no_i, no_b, no_s, no_t, no_l, no_r, bi_add, bi_sub, bi_mul, bi_div, bi_mod, bi_pow, wl_ixN, b_ii, b_ss, b_ll, b_lf, b_fl, b_ff, b_tt, b_lm, b_tm, c_eqi, c_nei, c_lt, c_le, c_gt, c_ge, id_t, id_l, id_o, wl_at0, wl_at1, wl_at2, wl_at3, at_map, sl_t, sl_l, sl_o, oi_n, oi_i, bl_len, len_l, len_f, len_t, len_s, bl_maxs, bl_mins, bl_max2, bl_min2, bl_abs, bl_sum, bl_sumf, bl_all, bl_any, any_map, all_map, bl_listl, bl_listf, bl_listt, bl_tupl, bl_tupf, bl_tupt, bl_intb, bl_inti, bl_str, bl_isi, bl_sorted, bl_repr, max_t, max_l, max_o, min_t, min_l, min_o, kd_r1, kd_r2, kd_r3, kd_r4, kd_r5, kd_r6, kd_r7, ns_1, ns_2, ns_3, ns_4, ns_5, ns_6, ns_7, ns_8, lt_c, lt_d, bk_1, bk_2, bk_3, bk_4, bk_5, bk_6, bk_7, bk_8, wp_ret, wl_some, turn_u, Vf_0, Vt_0, Vm_0, Vf_1, Vt_1, Vm_1, Vf_2, Vt_2, Vm_2, Vf_3, Vt_3, Vm_3, Vf_4, Vt_4, Vm_4, Vf_5, Vt_5, Vm_5, Vf_6, Vt_6, Vm_6, Vf_7, Vt_7, Vm_7, Vf_8, Vt_8, Vm_8, Vf_9, Vt_9, Vm_9, Vf_10, Vt_10, Vm_10, Vf_11, Vt_11, Vm_11, Vf_12, Vt_12, Vm_12, Vf_13, Vt_13, Vm_13, Vf_14, Vt_14, Vm_14, Vf_15, Vt_15, Vm_15, Vf_16, Vt_16, Vm_16, Vf_17, Vt_17, Vm_17, Vf_18, Vt_18, Vm_18, Vf_19, Vt_19, Vm_19, Vf_20, Vt_20, Vm_20, Vf_21, Vt_21, Vm_21, Vf_22, Vt_22, Vm_22, Vf_23, Vt_23, Vm_23, Vf_24, Vt_24, Vm_24, Vf_25, Vt_25, Vm_25, Vf_26, Vt_26, Vm_26, Vf_27, Vt_27, Vm_27, Vf_28, Vt_28, Vm_28, Vf_29, Vt_29, Vm_29, Vf_30, Vt_30, Vm_30, Vf_31, Vt_31, Vm_31, put_k, set_c, set_d, set_b, set_f, cln_nil, cln_n, cln_f, cln_m, cln_l, cln_d, szi, szl, dv_t, pw_t, sml_l, sml_r, decide_eq_true_eq, Int.reduceMul, Int.reduceMod, Int.reduceAdd, Int.reduceSub, Int.reduceDiv, Int.reduceNeg, Int.natAbs_zero, un_nil, un_n, un_f, un_m, fz_nil, fz_n, fz_f, fz_m, fz_l, fz_d, nl_nil, nl_n, nl_f, nl_m, nl_l, nl_d, mf_nil, mf_n, mf_f, mf_m, mf_l, mf_d, df_nil, df_n, df_f, df_m, df_l, df_d, ik_n, ik_f, ik_m, ko_n, ko_f, ko_k, ko_o, eqv_ii, cut_m, enum_map, zip_map, ints_zero, wi_n, wi_c, ba_n, ba_c, toD_f, toD_l, slo_f, slo_l, sc_i, sc_b, sc_s, sc_n, sc_l, sc_t, scr_f, scr_l, Bool.and_self, Bool.true_and, Bool.and_true, List.all_cons, List.all_nil, Int.toNat_natCast, Int.natCast_nonneg, Int.reduceLT, Int.reduceLE, Int.cast_ofNat_Int, c_eqS, c_neS, shp_int, shp_bool, shp_none, shp_list, shp_tuple, shpl_nil, shpl_cons, shpl_app, shpl_map, shp_leg, shp_road, implies_true, and_self, List.length_cons, List.length_nil, List.length_map, List.cons_append, List.nil_append, Nat.reduceAdd, Nat.reduceLT, Nat.reduceLeDiff, Nat.zero_add, Int.reduceNeg, Int.reducePow, Int.reduceToNat, true_and, and_true, reduceIte, eq_self, decide_true, decide_false, Bool.not_true, Bool.not_false, Bool.false_eq_true, Bool.true_eq_false, false_implies, forall_const, not_true_eq_false, not_false_eq_true, G_0, L_0, G_1, L_1, G_2, L_2, G_3, L_3, G_4, L_4, G_5, L_5, G_6, L_6, G_7, L_7, G_8, L_8, G_9, L_9, G_10, L_10, G_11, L_11, G_12, L_12, G_13, L_13, G_14, L_14, G_15, L_15, G_16, L_16, G_17, L_17, G_18, L_18, G_19, L_19, G_20, L_20, G_21, L_21, G_22, L_22, G_23, L_23, G_24, L_24, G_25, L_25, G_26, L_26, G_27, L_27, G_28, L_28, G_29, L_29, G_30, L_30, G_31, L_31, cln_x, un_x, fz_x, nl_x, mf_x, df_x, ik_x, ko_x, $xs,*])
/-- when rider i comes to station k -/
def comeN (r : Road) (b : List Int) (i k : Int) : Int := ix (bookN (r.ps.take k.toNat) b) i
def horseN (r : Road) (b : List Int) (i k : Int) : Int := if 0 < i then comeN r b (i - 1) k else ix r.firsts k
def standN (r : Road) (b : List Int) (i k : Int) : Int := comeN r b i k - horseN r b i k
/-- a road and riders that may be reckoned with -/
structure RbOk (r : Road) (b : List Int) : Prop where
  leq : r.legs.length = r.firsts.length
  ll : r.legs.length < 1000000
  bl : b.length < 1000000
def optI' (o : Option Int) : D := match o with
  | none => .none
  | some i => .int i
theorem W_coming {r : Road} {b : List Int} {i k : Int} (ok : RbOk r b) (hi : 0 ≤ i) (hi' : i < b.length) (hk : 0 ≤ k) (Q : R → Sto → Prop) :
    wp (f_coming.sf [some (.frz (roadD r)), some (.frz (.tuple (b.map .int))), some (.frz (.int i)), some (.frz (.int k))]) Q = Q (.frz (.int (comeN r b i k))) [none, none, none, none] := by
  refine wp_rw (fun Q q => ?_) Q
  simp_all? only [o_coming, ↓u_coming, k_book_at, W_book_at ok.leq ok.ll ok.bl hk, intsD, book_len]
  exact ⟨⟨by omega, hi'⟩, q⟩
theorem W_horse_of (x y z : D) (i : Int) (Q : R → Sto → Prop) :
    wp (f_horse_of.sf [some (.frz x), some (.frz y), some (.frz (.int i)), some (.frz z)]) Q = Q (.frz (if 0 < i then .int (i - 1) else .none)) [none, none, none, none] := by
  refine wp_rw (fun Q q => ?_) Q
  simp_all? only [o_horse_of, ↓u_horse_of]
  refine ⟨fun h => ?_, fun h => ?_⟩
  · rw [if_pos h] at q; exact q
  · rw [if_neg h] at q; exact q
theorem W_horse_beat {r : Road} {b : List Int} {i k : Int} (ok : RbOk r b) (hi : 0 ≤ i) (hi' : i < b.length) (hk : 0 ≤ k) (hk' : k < r.firsts.length) (Q : R → Sto → Prop) :
    wp (f_horse_beat.sf [some (.frz (roadD r)), some (.frz (.tuple (b.map .int))), some (.frz (.int i)), some (.frz (.int k))]) Q = Q (.frz (.int (horseN r b i k))) [none, none, none, none] := by
  refine wp_rw (fun Q q => ?_) Q
  unfold horseN at q
  simp_all? only [o_horse_beat, ↓u_horse_beat__1, ↓u_horse_beat, k_horse_of, W_horse_of]
  by_cases h : 0 < i
  · rw [if_pos h] at q ⊢
    simp_all? only [o_horse_beat, ↓u_horse_beat__1, ↓u_horse_beat, k_coming, W_coming ok (show 0 ≤ i - 1 by omega) (show i - 1 < b.length by omega) hk]
    exact q
  · rw [if_neg h] at q ⊢
    simp_all? only [o_horse_beat, ↓u_horse_beat__1, ↓u_horse_beat, wl_road1]
    exact ⟨⟨by omega, hk'⟩, q⟩
theorem W_stand {r : Road} {b : List Int} {i k : Int} (ok : RbOk r b) (hi : 0 ≤ i) (hi' : i < b.length) (hk : 0 ≤ k) (hk' : k < r.firsts.length) (Q : R → Sto → Prop) :
    wp (f_stand.sf [some (.frz (roadD r)), some (.frz (.tuple (b.map .int))), some (.frz (.int i)), some (.frz (.int k))]) Q = Q (.frz (.int (standN r b i k))) [none, none, none, none] := by
  refine wp_rw (fun Q q => ?_) Q
  simp_all? only [o_stand, ↓u_stand, k_coming, k_horse_beat, W_coming ok hi hi' hk, W_horse_beat ok hi hi' hk hk']
  exact q
theorem W_ride {r : Road} {b : List Int} {i k : Int} (ok : RbOk r b) (hi : 0 ≤ i) (hi' : i < b.length) (hk : 0 ≤ k) (hk' : k < r.firsts.length) (Q : R → Sto → Prop) :
    wp (f_ride.sf [some (.frz (roadD r)), some (.frz (.tuple (b.map .int))), some (.frz (.int i)), some (.frz (.int k))]) Q = Q (.frz (.int (rideN (ix r.legs k) (standN r b i k)))) [none, none, none, none] := by
  refine wp_rw (fun Q q => ?_) Q
  simp_all? only [o_ride, ↓u_ride, k_stand, W_stand ok hi hi' hk hk', k_ride_of, wl_road0, W_ride_of]
  have := ok.leq
  exact ⟨⟨by omega, by omega⟩, q⟩
end Rx
set_option Elab.async false
set_option linter.all false
set_option maxHeartbeats 4000000
/-! SpR4: rows of three numbers, sorted; all comings to a beat -/
namespace Rx
open PySem PySem.Spec L2
set_option maxRecDepth 100000
local macro_rules | `(tactic| simp_all? only [$xs,*]) => `(tactic| simp only [↓e_const, ↓e_bop, ↓e_neg, ↓e_cop, ↓e_ch2, ↓e_isN, ↓e_notN, ↓e_not, ↓e_and, ↓e_or, ↓e_ife, ↓e_idx, ↓e_slc, ↓e_asI, ↓e_rev, ↓e_tup, ↓e_lst, ↓e_call, ↓e_callk, ↓e_bi, ↓e_comp, ↓es_nil, ↓es_cons, ↓ts_nil, ↓ts_cons, ↓it_seq, ↓it_range1, ↓it_range2, ↓it_enum, ↓it_revd, ↓it_zipt, ↓it_zipf, ↓ss_nil, ↓ss_last, ↓s_setv, ↓s_sett, ↓s_par, ↓s_ext, ↓s_mt0, ↓mt0_l, ↓mt0_rev, ↓mt0_clr, ↓s_aug, ↓aug_i, ↓aug_l, ↓augL_l, ↓seti_l, ↓own_l, ↓s_seti, ↓s_expr, ↓app_l, ↓s_app, ↓s_iff, ↓s_whl, ↓s_for, ↓ret_v, ↓ret_s, ↓retS_l, ↓s_ret, ↓s_retN, ↓s_brk, ↓s_cont, ↓s_pass, ↓s_never, ↓nx_n, ↓nx_r, ↓nx_b, ↓nx_c, ↓fl_n, ↓fl_c, ↓fl_b, ↓fl_r, ↓vl_v, ↓vl_s, ↓putr_f, ↓putr_l, ↓tg_n, ↓tg_t, ↓tgs_n, ↓tgs_c, ↓pa_n, ↓pa_c, ↓par_n, ↓par_v, ↓par_s, ↓rd_v, ↓rd_s, ↓rdS_m, ↓ri_v, ↓hd_f, ↓hd_l, ↓hd_s, ↓hs_c, ↓hs_l, ↓hds_n, ↓hds_c, ↓rds_n, ↓rds_c, ↓ab_v, ↓sq_l, ↓sq_t, ↓pd_n, ↓pd_c, ↓ix_z, ↓ix_s, ↓if_t, ↓if_f, ↓if_n, ↓if_d, ↓no_n, ↓no_i, ↓no_b, ↓no_s, ↓no_t, ↓no_l, ↓no_r, ↓bi_add, ↓bi_sub, ↓bi_mul, ↓bi_div, ↓bi_mod, ↓bi_pow, ↓wl_ixN, ↓b_ii, ↓b_ss, ↓b_ll, ↓b_lf, ↓b_fl, ↓b_ff, ↓b_tt, ↓b_lm, ↓b_tm, ↓c_eqi, ↓c_nei, ↓c_lt, ↓c_le, ↓c_gt, ↓c_ge, ↓id_t, ↓id_l, ↓id_o, ↓wl_at0, ↓wl_at1, ↓wl_at2, ↓wl_at3, ↓at_map, ↓sl_t, ↓sl_l, ↓sl_o, ↓oi_n, ↓oi_i, ↓bl_len, ↓len_l, ↓len_f, ↓len_t, ↓len_s, ↓bl_maxs, ↓bl_mins, ↓bl_max2, ↓bl_min2, ↓bl_abs, ↓bl_sum, ↓bl_sumf, ↓bl_all, ↓bl_any, ↓any_map, ↓all_map, ↓bl_listl, ↓bl_listf, ↓bl_listt, ↓bl_tupl, ↓bl_tupf, ↓bl_tupt, ↓bl_intb, ↓bl_inti, ↓bl_str, ↓bl_isi, ↓bl_sorted, ↓bl_repr, ↓max_t, ↓max_l, ↓max_o, ↓min_t, ↓min_l, ↓min_o, ↓kd_r1, ↓kd_r2, ↓kd_r3, ↓kd_r4, ↓kd_r5, ↓kd_r6, ↓kd_r7, ↓ns_1, ↓ns_2, ↓ns_3, ↓ns_4, ↓ns_5, ↓ns_6, ↓ns_7, ↓ns_8, ↓lt_c, ↓lt_d, ↓bk_1, ↓bk_2, ↓bk_3, ↓bk_4, ↓bk_5, ↓bk_6, ↓bk_7, ↓bk_8, ↓wp_ret, ↓wl_some, ↓turn_u, ↓Vf_0, ↓Vt_0, ↓Vm_0, ↓Vf_1, ↓Vt_1, ↓Vm_1, ↓Vf_2, ↓Vt_2, ↓Vm_2, ↓Vf_3, ↓Vt_3, ↓Vm_3, ↓Vf_4, ↓Vt_4, ↓Vm_4, ↓Vf_5, ↓Vt_5, ↓Vm_5, ↓Vf_6, ↓Vt_6, ↓Vm_6, ↓Vf_7, ↓Vt_7, ↓Vm_7, ↓Vf_8, ↓Vt_8, ↓Vm_8, ↓Vf_9, ↓Vt_9, ↓Vm_9, ↓Vf_10, ↓Vt_10, ↓Vm_10, ↓Vf_11, ↓Vt_11, ↓Vm_11, ↓Vf_12, ↓Vt_12, ↓Vm_12, ↓Vf_13, ↓Vt_13, ↓Vm_13, ↓Vf_14, ↓Vt_14, ↓Vm_14, ↓Vf_15, ↓Vt_15, ↓Vm_15, ↓Vf_16, ↓Vt_16, ↓Vm_16, ↓Vf_17, ↓Vt_17, ↓Vm_17, ↓Vf_18, ↓Vt_18, ↓Vm_18, ↓Vf_19, ↓Vt_19, ↓Vm_19, ↓Vf_20, ↓Vt_20, ↓Vm_20, ↓Vf_21, ↓Vt_21, ↓Vm_21, ↓Vf_22, ↓Vt_22, ↓Vm_22, ↓Vf_23, ↓Vt_23, ↓Vm_23, ↓Vf_24, ↓Vt_24, ↓Vm_24, ↓Vf_25, ↓Vt_25, ↓Vm_25, ↓Vf_26, ↓Vt_26, ↓Vm_26, ↓Vf_27, ↓Vt_27, ↓Vm_27, ↓Vf_28, ↓Vt_28, ↓Vm_28, ↓Vf_29, ↓Vt_29, ↓Vm_29, ↓Vf_30, ↓Vt_30, ↓Vm_30, ↓Vf_31, ↓Vt_31, ↓Vm_31, e_const, e_bop, e_neg, e_cop, e_ch2, e_isN, e_notN, e_not, e_and, e_or, e_ife, e_idx, e_slc, e_asI, e_rev, e_tup, e_lst, e_call, e_callk, e_bi, e_comp, es_nil, es_cons, ts_nil, ts_cons, it_seq, it_range1, it_range2, it_enum, it_revd, it_zipt, it_zipf, ss_nil, ss_last, s_setv, s_sett, s_par, s_ext, s_mt0, mt0_l, mt0_rev, mt0_clr, s_aug, aug_i, aug_l, augL_l, seti_l, own_l, s_seti, s_expr, app_l, s_app, s_iff, s_whl, s_for, ret_v, ret_s, retS_l, s_ret, s_retN, s_brk, s_cont, s_pass, s_never, nx_n, nx_r, nx_b, nx_c, fl_n, fl_c, fl_b, fl_r, vl_v, vl_s, putr_f, putr_l, tg_n, tg_t, tgs_n, tgs_c, pa_n, pa_c, par_n, par_v, par_s, rd_v, rd_s, rdS_m, ri_v, hd_f, hd_l, hd_s, hs_c, hs_l, hds_n, hds_c, rds_n, rds_c, ab_v, sq_l, sq_t, pd_n, pd_c, ix_z, ix_s, if_t, if_f, if_n, if_d, no_n, no_i, no_b, no_s, no_t, no_l, no_r, bi_add, bi_sub, bi_mul, bi_div, bi_mod, bi_pow, wl_ixN, b_ii, b_ss, b_ll, b_lf, b_fl, b_ff, b_tt, b_lm, b_tm, c_eqi, c_nei, c_lt, c_le, c_gt, c_ge, id_t, id_l, id_o, wl_at0, wl_at1, wl_at2, wl_at3, at_map, sl_t, sl_l, sl_o, oi_n, oi_i, bl_len, len_l, len_f, len_t, len_s, bl_maxs, bl_mins, bl_max2, bl_min2, bl_abs, bl_sum, bl_sumf, bl_all, bl_any, any_map, all_map, bl_listl, bl_listf, bl_listt, bl_tupl, bl_tupf, bl_tupt, bl_intb, bl_inti, bl_str, bl_isi, bl_sorted, bl_repr, max_t, max_l, max_o, min_t, min_l, min_o, kd_r1, kd_r2, kd_r3, kd_r4, kd_r5, kd_r6, kd_r7, ns_1, ns_2, ns_3, ns_4, ns_5, ns_6, ns_7, ns_8, lt_c, lt_d, bk_1, bk_2, bk_3, bk_4, bk_5, bk_6, bk_7, bk_8, wp_ret, wl_some, turn_u, Vf_0, Vt_0, Vm_0, Vf_1, Vt_1, Vm_1, Vf_2, Vt_2, Vm_2, Vf_3, Vt_3, Vm_3, Vf_4, Vt_4, Vm_4, Vf_5, Vt_5, Vm_5, Vf_6, Vt_6, Vm_6, Vf_7, Vt_7, Vm_7, Vf_8, Vt_8, Vm_8, Vf_9, Vt_9, Vm_9, Vf_10, Vt_10, Vm_10, Vf_11, Vt_11, Vm_11, Vf_12, Vt_12, Vm_12, Vf_13, Vt_13, Vm_13, Vf_14, Vt_14, Vm_14, Vf_15, Vt_15, Vm_15, Vf_16, Vt_16, Vm_16, Vf_17, Vt_17, Vm_17, Vf_18, Vt_18, Vm_18, Vf_19, Vt_19, Vm_19, Vf_20, Vt_20, Vm_20, Vf_21, Vt_21, Vm_21, Vf_22, Vt_22, Vm_22, Vf_23, Vt_23, Vm_23, Vf_24, Vt_24, Vm_24, Vf_25, Vt_25, Vm_25, Vf_26, Vt_26, Vm_26, Vf_27, Vt_27, Vm_27, Vf_28, Vt_28, Vm_28, Vf_29, Vt_29, Vm_29, Vf_30, Vt_30, Vm_30, Vf_31, Vt_31, Vm_31, put_k, set_c, set_d, set_b, set_f, cln_nil, cln_n, cln_f, cln_m, cln_l, cln_d, szi, szl, dv_t, pw_t, sml_l, sml_r, decide_eq_true_eq, Int.reduceMul, Int.reduceMod, Int.reduceAdd, Int.reduceSub, Int.reduceDiv, Int.reduceNeg, Int.natAbs_zero, un_nil, un_n, un_f, un_m, fz_nil, fz_n, fz_f, fz_m, fz_l, fz_d, nl_nil, nl_n, nl_f, nl_m, nl_l, nl_d, mf_nil, mf_n, mf_f, mf_m, mf_l, mf_d, df_nil, df_n, df_f, df_m, df_l, df_d, ik_n, ik_f, ik_m, ko_n, ko_f, ko_k, ko_o, eqv_ii, cut_m, enum_map, zip_map, ints_zero, wi_n, wi_c, ba_n, ba_c, toD_f, toD_l, slo_f, slo_l, sc_i, sc_b, sc_s, sc_n, sc_l, sc_t, scr_f, scr_l, Bool.and_self, Bool.true_and, Bool.and_true, List.all_cons, List.all_nil, Int.toNat_natCast, Int.natCast_nonneg, Int.reduceLT, Int.reduceLE, Int.cast_ofNat_Int, c_eqS, c_neS, shp_int, shp_bool, shp_none, shp_list, shp_tuple, shpl_nil, shpl_cons, shpl_app, shpl_map, shp_leg, shp_road, implies_true, and_self, List.length_cons, List.length_nil, List.length_map, List.cons_append, List.nil_append, Nat.reduceAdd, Nat.reduceLT, Nat.reduceLeDiff, Nat.zero_add, Int.reduceNeg, Int.reducePow, Int.reduceToNat, true_and, and_true, reduceIte, eq_self, decide_true, decide_false, Bool.not_true, Bool.not_false, Bool.false_eq_true, Bool.true_eq_false, false_implies, forall_const, not_true_eq_false, not_false_eq_true, G_0, L_0, G_1, L_1, G_2, L_2, G_3, L_3, G_4, L_4, G_5, L_5, G_6, L_6, G_7, L_7, G_8, L_8, G_9, L_9, G_10, L_10, G_11, L_11, G_12, L_12, G_13, L_13, G_14, L_14, G_15, L_15, G_16, L_16, G_17, L_17, G_18, L_18, G_19, L_19, G_20, L_20, G_21, L_21, G_22, L_22, G_23, L_23, G_24, L_24, G_25, L_25, G_26, L_26, G_27, L_27, G_28, L_28, G_29, L_29, G_30, L_30, G_31, L_31, $xs,*])
local macro_rules | `(tactic| simp_all? [$xs,*]) => `(tactic| simp only [↓e_const, ↓e_bop, ↓e_neg, ↓e_cop, ↓e_ch2, ↓e_isN, ↓e_notN, ↓e_not, ↓e_and, ↓e_or, ↓e_ife, ↓e_idx, ↓e_slc, ↓e_asI, ↓e_rev, ↓e_tup, ↓e_lst, ↓e_call, ↓e_callk, ↓e_bi, ↓e_comp, ↓es_nil, ↓es_cons, ↓ts_nil, ↓ts_cons, ↓it_seq, ↓it_range1, ↓it_range2, ↓it_enum, ↓it_revd, ↓it_zipt, ↓it_zipf, ↓ss_nil, ↓ss_last, ↓s_setv, ↓s_sett, ↓s_par, ↓s_ext, ↓s_mt0, ↓mt0_l, ↓mt0_rev, ↓mt0_clr, ↓s_aug, ↓aug_i, ↓aug_l, ↓augL_l, ↓seti_l, ↓own_l, ↓s_seti, ↓s_expr, ↓app_l, ↓s_app, ↓s_iff, ↓s_whl, ↓s_for, ↓ret_v, ↓ret_s, ↓retS_l, ↓s_ret, ↓s_retN, ↓s_brk, ↓s_cont, ↓s_pass, ↓s_never, ↓nx_n, ↓nx_r, ↓nx_b, ↓nx_c, ↓fl_n, ↓fl_c, ↓fl_b, ↓fl_r, ↓vl_v, ↓vl_s, ↓putr_f, ↓putr_l, ↓tg_n, ↓tg_t, ↓tgs_n, ↓tgs_c, ↓pa_n, ↓pa_c, ↓par_n, ↓par_v, ↓par_s, ↓rd_v, ↓rd_s, ↓rdS_m, ↓ri_v, ↓hd_f, ↓hd_l, ↓hd_s, ↓hs_c, ↓hs_l, ↓hds_n, ↓hds_c, ↓rds_n, ↓rds_c, ↓ab_v, ↓sq_l, ↓sq_t, ↓pd_n, ↓pd_c, ↓ix_z, ↓ix_s, ↓if_t, ↓if_f, ↓if_n, ↓if_d, ↓no_n, ↓no_i, ↓no_b, ↓no_s, ↓no_t, ↓no_l, ↓no_r, ↓bi_add, ↓bi_sub, ↓bi_mul, ↓bi_div, ↓bi_mod, ↓bi_pow, ↓wl_ixN, ↓b_ii, ↓b_ss, ↓b_ll, ↓b_lf, ↓b_fl, ↓b_ff, ↓b_tt, ↓b_lm, ↓b_tm, ↓c_eqi, ↓c_nei, ↓c_lt, ↓c_le, ↓c_gt, ↓c_ge, ↓id_t, ↓id_l, ↓id_o, ↓wl_at0, ↓wl_at1, ↓wl_at2, ↓wl_at3, ↓at_map, ↓sl_t, ↓sl_l, ↓sl_o, ↓oi_n, ↓oi_i, ↓bl_len, ↓len_l, ↓len_f, ↓len_t, ↓len_s, ↓bl_maxs, ↓bl_mins, ↓bl_max2, ↓bl_min2, ↓bl_abs, ↓bl_sum, ↓bl_sumf, ↓bl_all, ↓bl_any, ↓any_map, ↓all_map, ↓bl_listl, ↓bl_listf, ↓bl_listt, ↓bl_tupl, ↓bl_tupf, ↓bl_tupt, ↓bl_intb, ↓bl_inti, ↓bl_str, ↓bl_isi, ↓bl_sorted, ↓bl_repr, ↓max_t, ↓max_l, ↓max_o, ↓min_t, ↓min_l, ↓min_o, ↓kd_r1, ↓kd_r2, ↓kd_r3, ↓kd_r4, ↓kd_r5, ↓kd_r6, ↓kd_r7, ↓ns_1, ↓ns_2, ↓ns_3, ↓ns_4, ↓ns_5, ↓ns_6, ↓ns_7, ↓ns_8, ↓lt_c, ↓lt_d, ↓bk_1, ↓bk_2, ↓bk_3, ↓bk_4, ↓bk_5, ↓bk_6, ↓bk_7, ↓bk_8, ↓wp_ret, ↓wl_some, ↓turn_u, ↓Vf_0, ↓Vt_0, ↓Vm_0, ↓Vf_1, ↓Vt_1, ↓Vm_1, ↓Vf_2, ↓Vt_2, ↓Vm_2, ↓Vf_3, ↓Vt_3, ↓Vm_3, ↓Vf_4, ↓Vt_4, ↓Vm_4, ↓Vf_5, ↓Vt_5, ↓Vm_5, ↓Vf_6, ↓Vt_6, ↓Vm_6, ↓Vf_7, ↓Vt_7, ↓Vm_7, ↓Vf_8, ↓Vt_8, ↓Vm_8, ↓Vf_9, ↓Vt_9, ↓Vm_9, ↓Vf_10, ↓Vt_10, ↓Vm_10, ↓Vf_11, ↓Vt_11, ↓Vm_11, ↓Vf_12, ↓Vt_12, ↓Vm_12, ↓Vf_13, ↓Vt_13, ↓Vm_13, ↓Vf_14, ↓Vt_14, ↓Vm_14, ↓Vf_15, ↓Vt_15, ↓Vm_15, ↓Vf_16, ↓Vt_16, ↓Vm_16, ↓Vf_17, ↓Vt_17, ↓Vm_17, ↓Vf_18, ↓Vt_18, ↓Vm_18, ↓Vf_19, ↓Vt_19, ↓Vm_19, ↓Vf_20, ↓Vt_20, ↓Vm_20, ↓Vf_21, ↓Vt_21, ↓Vm_21, ↓Vf_22, ↓Vt_22, ↓Vm_22, ↓Vf_23, ↓Vt_23, ↓Vm_23, ↓Vf_24, ↓Vt_24, ↓Vm_24, ↓Vf_25, ↓Vt_25, ↓Vm_25, ↓Vf_26, ↓Vt_26, ↓Vm_26, ↓Vf_27, ↓Vt_27, ↓Vm_27, ↓Vf_28, ↓Vt_28, ↓Vm_28, ↓Vf_29, ↓Vt_29, ↓Vm_29, ↓Vf_30, ↓Vt_30, ↓Vm_30, ↓Vf_31, ↓Vt_31, ↓Vm_31, e_const, e_bop, e_neg, e_cop, e_ch2, e_isN, e_notN, e_not, e_and, e_or, e_ife, e_idx, e_slc, e_asI, e_rev, e_tup, e_lst, e_call, e_callk, e_bi, e_comp, es_nil, es_cons, ts_nil, ts_cons, it_seq, it_range1, it_range2, it_enum, it_revd, it_zipt, it_zipf, ss_nil, ss_last, s_setv, s_sett, s_par, s_ext, s_mt0, mt0_l, mt0_rev, mt0_clr, s_aug, aug_i, aug_l, augL_l, seti_l, own_l, s_seti, s_expr, app_l, s_app, s_iff, s_whl, s_for, ret_v, ret_s, retS_l, s_ret, s_retN, s_brk, s_cont, s_pass, s_never, nx_n, nx_r, nx_b, nx_c, fl_n, fl_c, fl_b, fl_r, vl_v, vl_s, putr_f, putr_l, tg_n, tg_t, tgs_n, tgs_c, pa_n, pa_c, par_n, par_v, par_s, rd_v, rd_s, rdS_m, ri_v, hd_f, hd_l, hd_s, hs_c, hs_l, hds_n, hds_c, rds_n, rds_c, ab_v, sq_l, sq_t, pd_n, pd_c, ix_z, ix_s, if_t, if_f, if_n, if_d, no_n, no_i, no_b, no_s, no_t, no_l, no_r, bi_add, bi_sub, bi_mul, bi_div, bi_mod, bi_pow, wl_ixN, b_ii, b_ss, b_ll, b_lf, b_fl, b_ff, b_tt, b_lm, b_tm, c_eqi, c_nei, c_lt, c_le, c_gt, c_ge, id_t, id_l, id_o, wl_at0, wl_at1, wl_at2, wl_at3, at_map, sl_t, sl_l, sl_o, oi_n, oi_i, bl_len, len_l, len_f, len_t, len_s, bl_maxs, bl_mins, bl_max2, bl_min2, bl_abs, bl_sum, bl_sumf, bl_all, bl_any, any_map, all_map, bl_listl, bl_listf, bl_listt, bl_tupl, bl_tupf, bl_tupt, bl_intb, bl_inti, bl_str, bl_isi, bl_sorted, bl_repr, max_t, max_l, max_o, min_t, min_l, min_o, kd_r1, kd_r2, kd_r3, kd_r4, kd_r5, kd_r6, kd_r7, ns_1, ns_2, ns_3, ns_4, ns_5, ns_6, ns_7, ns_8, lt_c, lt_d, bk_1, bk_2, bk_3, bk_4, bk_5, bk_6, bk_7, bk_8, wp_ret, wl_some, turn_u, Vf_0, Vt_0, Vm_0, Vf_1, Vt_1, Vm_1, Vf_2, Vt_2, Vm_2, Vf_3, Vt_3, Vm_3, Vf_4, Vt_4, Vm_4, Vf_5, Vt_5, Vm_5, Vf_6, Vt_6, Vm_6, Vf_7, Vt_7, Vm_7, Vf_8, Vt_8, Vm_8, Vf_9, Vt_9, Vm_9, Vf_10, Vt_10, Vm_10, Vf_11, Vt_11, Vm_11, Vf_12, Vt_12, Vm_12, Vf_13, Vt_13, Vm_13, Vf_14, Vt_14, Vm_14, Vf_15, Vt_15, Vm_15, Vf_16, Vt_16, Vm_16, Vf_17, Vt_17, Vm_17, Vf_18, Vt_18, Vm_18, Vf_19, Vt_19, Vm_19, Vf_20, Vt_20, Vm_20, Vf_21, Vt_21, Vm_21, Vf_22, Vt_22, Vm_22, Vf_23, Vt_23, Vm_23, Vf_24, Vt_24, Vm_24, Vf_25, Vt_25, Vm_25, Vf_26, Vt_26, Vm_26, Vf_27, Vt_27, Vm_27, Vf_28, Vt_28, Vm_28, Vf_29, Vt_29, Vm_29, Vf_30, Vt_30, Vm_30, Vf_31, Vt_31, Vm_31, put_k, set_c, set_d, set_b, set_f, cln_nil, cln_n, cln_f, cln_m, cln_l, cln_d, szi, szl, dv_t, pw_t, sml_l, sml_r, decide_eq_true_eq, Int.reduceMul, Int.reduceMod, Int.reduceAdd, Int.reduceSub, Int.reduceDiv, Int.reduceNeg, Int.natAbs_zero, un_nil, un_n, un_f, un_m, fz_nil, fz_n, fz_f, fz_m, fz_l, fz_d, nl_nil, nl_n, nl_f, nl_m, nl_l, nl_d, mf_nil, mf_n, mf_f, mf_m, mf_l, mf_d, df_nil, df_n, df_f, df_m, df_l, df_d, ik_n, ik_f, ik_m, ko_n, ko_f, ko_k, ko_o, eqv_ii, cut_m, enum_map, zip_map, ints_zero, wi_n, wi_c, ba_n, ba_c, toD_f, toD_l, slo_f, slo_l, sc_i, sc_b, sc_s, sc_n, sc_l, sc_t, scr_f, scr_l, Bool.and_self, Bool.true_and, Bool.and_true, List.all_cons, List.all_nil, Int.toNat_natCast, Int.natCast_nonneg, Int.reduceLT, Int.reduceLE, Int.cast_ofNat_Int, c_eqS, c_neS, shp_int, shp_bool, shp_none, shp_list, shp_tuple, shpl_nil, shpl_cons, shpl_app, shpl_map, shp_leg, shp_road, implies_true, and_self, List.length_cons, List.length_nil, List.length_map, List.cons_append, List.nil_append, Nat.reduceAdd, Nat.reduceLT, Nat.reduceLeDiff, Nat.zero_add, Int.reduceNeg, Int.reducePow, Int.reduceToNat, true_and, and_true, reduceIte, eq_self, decide_true, decide_false, Bool.not_true, Bool.not_false, Bool.false_eq_true, Bool.true_eq_false, false_implies, forall_const, not_true_eq_false, not_false_eq_true, G_0, L_0, G_1, L_1, G_2, L_2, G_3, L_3, G_4, L_4, G_5, L_5, G_6, L_6, G_7, L_7, G_8, L_8, G_9, L_9, G_10, L_10, G_11, L_11, G_12, L_12, G_13, L_13, G_14, L_14, G_15, L_15, G_16, L_16, G_17, L_17, G_18, L_18, G_19, L_19, G_20, L_20, G_21, L_21, G_22, L_22, G_23, L_23, G_24, L_24, G_25, L_25, G_26, L_26, G_27, L_27, G_28, L_28, G_29, L_29, G_30, L_30, G_31, L_31, cln_x, un_x, fz_x, nl_x, mf_x, df_x, ik_x, ko_x, $xs,*])
abbrev Ev := Int × Int × Int
def evD (e : Ev) : D := .tuple [.int e.1, .int e.2.1, .int e.2.2]
def tle (a b : Ev) : Prop := a.1 < b.1 ∨ (a.1 = b.1 ∧ (a.2.1 < b.2.1 ∨ (a.2.1 = b.2.1 ∧ a.2.2 ≤ b.2.2)))
instance (a b : Ev) : Decidable (tle a b) := by unfold tle; infer_instance
def evLe (a b : Ev) : Bool := decide (tle a b)
def sortE (l : List Ev) : List Ev := l.mergeSort evLe
theorem evLe_iff {a b : Ev} : evLe a b = true ↔ tle a b := decide_eq_true_iff
theorem evLe_trans (a b c : Ev) : evLe a b = true → evLe b c = true → evLe a c = true := by
  rw [evLe_iff, evLe_iff, evLe_iff]; unfold tle; omega
theorem evLe_total (a b : Ev) : (evLe a b || evLe b a) = true := by
  rw [Bool.or_eq_true, evLe_iff, evLe_iff]; unfold tle; omega
theorem sortE_sorted (l : List Ev) : (sortE l).Pairwise fun a b => evLe a b = true := List.pairwise_mergeSort evLe_trans evLe_total l
theorem sortE_perm (l : List Ev) : (sortE l).Perm l := List.mergeSort_perm l evLe
theorem sortE_id {l : List Ev} (h : l.Pairwise fun a b => evLe a b = true) : sortE l = l := List.mergeSort_of_pairwise h
theorem sortE_idem (l : List Ev) : sortE (sortE l) = sortE l := sortE_id (sortE_sorted l)
theorem evLe_anti {a b : Ev} (h : evLe a b = true) (h' : evLe b a = true) : a = b := by
  rw [evLe_iff] at h h'
  unfold tle at h h'
  obtain ⟨a1, a2, a3⟩ := a
  obtain ⟨b1, b2, b3⟩ := b
  simp only [Prod.mk.injEq] at *
  omega
theorem sortE_of_perm {l m : List Ev} (h : l.Perm m) : sortE l = sortE m :=
  List.Perm.eq_of_pairwise (le := fun a b => evLe a b = true) (fun a b _ _ h1 h2 => evLe_anti h1 h2) (sortE_sorted l) (sortE_sorted m) (((sortE_perm l).trans h).trans (sortE_perm m).symm)
theorem dataLt_ev (a b : Ev) : W.dataLt (evD b) (evD a) = decide (b.1 < a.1 ∨ (b.1 = a.1 ∧ (b.2.1 < a.2.1 ∨ (b.2.1 = a.2.1 ∧ b.2.2 < a.2.2)))) := by
  obtain ⟨a1, a2, a3⟩ := a
  obtain ⟨b1, b2, b3⟩ := b
  unfold evD
  rw [W.dataLt_tuple, W.dataLt_cons (by simp [W.alike]), W.dataLt_cons (by simp [W.alike]), W.dataLt_cons (by simp [W.alike]), W.dataLt_int, W.dataLt_int, W.dataLt_int]
  have e : PyProof.Rows.lexLt PyProof.Rows.itemOrd (W.keyToksAll []) (W.keyToksAll []) = false := PyProof.Rows.lex_irrefl _
  rw [e]
  simp only [PyData.eqv, beq_iff_eq]
  by_cases h1 : b1 = a1 <;> by_cases h2 : b2 = a2 <;> by_cases h3 : b3 = a3 <;> simp [h1, h2, h3]
theorem dataLe_ev (a b : Ev) : W.dataLe false id (evD a) (evD b) = evLe a b := by
  show (!W.dataLt (evD b) (evD a)) = _
  rw [dataLt_ev, Bool.eq_iff_iff, evLe_iff, Bool.not_eq_true', decide_eq_false_iff_not]
  unfold tle
  omega
theorem sortD_ev (l : List Ev) : sortD (l.map evD) = (sortE l).map evD := (List.map_mergeSort (fun a _ b _ => (dataLe_ev a b).symm)).symm
theorem shp_ev (k : Nat) (e : Ev) : shp (k + 1) (evD e) = True := by unfold evD; rw [shp_tuple]; simp only [shpl_cons, shpl_nil, shp_int, and_self]
theorem sortOk_ev {l : List Ev} (h : l.length ≤ sizeLine) : sortOk (l.map evD) = true := by
  unfold sortOk
  rw [Bool.and_eq_true, Bool.and_eq_true, Bool.and_eq_true, Bool.or_eq_true]
  refine ⟨⟨⟨?_, .inl ?_⟩, ?_⟩, decide_eq_true (by rw [List.length_map]; exact h)⟩
  · simp [evD, W.alike, W.alikeAll]
  · simp [evD, tupNE]
  · rw [List.all_map, List.all_eq_true]
    exact fun e _ => shaped_of (by rw [shp_ev]; trivial)
theorem wl_sortE {l : List Ev} (h : l.length ≤ sizeLine) {t : Bool} {K : R → Prop} : wl (sortedR (.lst (l.map evD))) K = K (.lst ((sortE l).map evD)) := by
  unfold sortedR
  show wl (if sortOk (l.map evD) then some (R.lst (sortD (l.map evD))) else none) K = _
  rw [sortOk_ev h, sortD_ev]; rfl
theorem eqf_ev : Eqf evD := fun x y => by
  unfold evD
  rw [PyData.eqv, PyData.eqvAll, PyData.eqvAll, PyData.eqvAll, PyData.eqvAll, Bool.and_eq_true, Bool.and_eq_true, Bool.and_eq_true, eqf_inv eqf_int, eqf_inv eqf_int, eqf_inv eqf_int]
  obtain ⟨a, b, c⟩ := x
  obtain ⟨d, e, f⟩ := y
  simp
/-- one station's comings to a beat -/
def evAt (beat : Int) (p : List Int × Nat) : List Ev := (p.1.zipIdx.filter fun q => decide (q.1 ≤ beat)).map fun q => (q.1, (p.2 : Int), (q.2 : Int))
def evAll (r : Road) (b : List Int) (beat : Int) : List Ev := (booksN r.ps b).zipIdx.flatMap (evAt beat)
def evsN (r : Road) (b : List Int) (beat : Int) : List Ev := sortE (evAll r b beat)
theorem evAt_len (beat : Int) (p : List Int × Nat) : (evAt beat p).length ≤ p.1.length := by
  unfold evAt
  rw [List.length_map]
  exact Nat.le_trans (List.length_filter_le _ _) (by rw [List.length_zipIdx]; exact Nat.le_refl _)
theorem flat_len {beat : Int} {m : Nat} : ∀ l : List (List Int × Nat), (∀ p ∈ l, p.1.length ≤ m) → (l.flatMap (evAt beat)).length ≤ l.length * m
  | [], _ => by simp
  | p :: l, h => by
    rw [List.flatMap_cons, List.length_append, List.length_cons, Nat.add_mul, Nat.one_mul]
    have h1 := evAt_len beat p
    have h2 := h p (by simp)
    have h3 := flat_len (beat := beat) l (fun q hq => h q (by simp [hq]))
    omega
theorem ps_take {r : Road} (hr : r.legs.length = r.firsts.length) : r.ps.take r.legs.length = r.ps := List.take_of_length_le (by unfold Road.ps; rw [List.length_zip, hr]; omega)
theorem W_events {r : Road} {b : List Int} {beat : Int} (ok : RbOk r b) (hl : r.legs.length ≤ 1000) (hb : b.length ≤ 1000) (Q : R → Sto → Prop) :
    wp (f_events.sf [some (.frz (roadD r)), some (.frz (.tuple (b.map .int))), some (.frz (.int beat))]) Q = Q (.lst ((evsN r b beat).map evD)) [none, none, none] := by
  refine wp_rw (fun Q q => ?_) Q
  simp_all? only [o_events, ↓u_events_1a, ↓u_events__2, ↓u_events__1, ↓u_events, k_books_to, wl_road0, W_books_to ok.leq ok.ll ok.bl]
  rw [ps_take ok.leq]
  refine for_inv (ys := (booksN r.ps b).zipIdx) (fun pre ρ' => ∃ x4 x5, ρ' = [some (.frz (roadD r)), some (.frz (.tuple (b.map .int))), some (.frz (.int beat)), some (.mut .clean false ((pre.flatMap (evAt beat)).map evD)), x4, x5, none, none, none] ∧ fr x4 = true ∧ fr x5 = true) rfl ⟨none, none, rfl, rfl, rfl⟩ ?_ ?_
  · rintro pre ⟨bk, k⟩ post ρ e ⟨x4, x5, rfl, h4, h5⟩
    have hmem : ∀ p ∈ pre ++ (bk, k) :: post, p.1.length ≤ b.length := fun p hp => by
      rw [← e] at hp
      exact Nat.le_of_eq (books_all_len r.ps b p.1 (List.fst_mem_of_mem_zipIdx hp))
    have hlen := congrArg List.length e
    rw [List.length_zipIdx, books_len, List.length_append, List.length_cons] at hlen
    have hps : r.ps.length = r.legs.length := by unfold Road.ps; rw [List.length_zip, ← ok.leq]; omega
    have h1 := flat_len (beat := beat) pre (fun p hp => hmem p (List.mem_append_left _ hp))
    have h2 : (evAt beat (bk, k)).length ≤ bk.length := evAt_len beat (bk, k)
    have h3 : bk.length ≤ b.length := hmem (bk, k) (by simp)
    have h6 : pre.length * b.length ≤ 1000 * 1000 := Nat.mul_le_mul (by omega) hb
    unfold intsD
    simp_all? [o_events, ↓u_events_1a, ↓u_events__2, ↓u_events__1, ↓u_events, h4, h5]
    refine comp_filter (α := Int × Nat) (G := fun q => evD (q.1, (k : Int), (q.2 : Int))) (fun q => decide (q.1 ≤ beat)) rfl (len_bound (by rw [List.length_zipIdx]; omega)) (fun q hq => ?_) ?_
    · simp_all? only [ns_1]
      exact ⟨fun h => ⟨h, rfl⟩, fun h => decide_eq_false h⟩
    · simp_all? only [ns_1]
      replace h2 : (bk.zipIdx.filter fun q => decide (q.1 ≤ beat)).length ≤ bk.length := by unfold evAt at h2; rw [List.length_map] at h2; exact h2
      refine ⟨by omega, some (.frz (.int k)), some (.frz (.list (bk.map .int))), ?_, rfl, rfl⟩
      rw [List.flatMap_append, List.flatMap_cons, List.flatMap_nil, List.append_nil, List.map_append, show (evAt beat (bk, k)).map evD = (bk.zipIdx.filter fun q => decide (q.1 ≤ beat)).map fun q => evD (q.1, (k : Int), (q.2 : Int)) from List.map_map]
  · rintro ρ ⟨x4, x5, rfl, h4, h5⟩
    simp_all? [o_events, ↓u_events_1a, ↓u_events__2, ↓u_events__1, ↓u_events, h4, h5]
    have h1 := flat_len (beat := beat) (m := b.length) (booksN r.ps b).zipIdx (fun p hp => Nat.le_of_eq (books_all_len r.ps b p.1 (List.fst_mem_of_mem_zipIdx hp)))
    rw [List.length_zipIdx, books_len] at h1
    have hps : r.ps.length = r.legs.length := by unfold Road.ps; rw [List.length_zip, ← ok.leq]; omega
    have h6 : (r.ps.length + 1) * b.length ≤ 1001 * 1000 := Nat.mul_le_mul (by omega) hb
    rw [wl_sortE (Nat.le_trans (Nat.le_trans h1 h6) (by decide)) (t := false)]
    exact q
end Rx
set_option Elab.async false
set_option linter.all false
set_option maxHeartbeats 4000000
/-! SpX1: what is drawn, in one word -/
namespace Rx
open PySem PySem.Spec L2
/-- a drawn road of n legs at most -/
structure Rd (n : Nat) (r : Road) : Prop where
  leq : r.legs.length = r.firsts.length
  pos : 1 ≤ r.legs.length
  le : r.legs.length ≤ n
  ok : ∀ l ∈ r.legs, LegOk l
  full : ∀ l ∈ r.legs, l.full ≤ 300000
  firsts : ∀ f ∈ r.firsts, -1000200 ≤ f ∧ f ≤ 500
/-- drawn setting-outs of m riders at most -/
structure Ob (m : Nat) (r : Road) (b : List Int) : Prop where
  ne : b ≠ []
  len : b.length ≤ m
  srt : Srt b
  low : ∀ x ∈ b, ∀ f ∈ r.firsts, f ≤ x
  high : ∀ x ∈ b, x ≤ maxL r.firsts + 40000000
theorem line_d {t : Tp} {n : Nat} {Q : R → Sto → Prop} (hn : 1 ≤ n) (hn' : n ≤ 12) (hc : t.c + 100 ≤ 2 ^ 40) (h : ∀ r t', Rd n r → t'.c ≤ t.c + 100 → Q (.frz (roadD r)) [tS t', none]) :
    wp (f_law_line.sf [tS t, some (.frz (.int n))]) Q :=
  line_w (by omega) (by omega) hc fun r t1 h1 h2 h3 h4 h5 h6 => h r t1 ⟨h1, h2, by omega, fun l hl => (h4 l hl).1, fun l hl => (h4 l hl).2, h5⟩ h6
theorem Rd.ne {n : Nat} {r : Road} (h : Rd n r) : r.legs ≠ [] := List.length_pos_iff.mp h.pos
theorem Rd.fne {n : Nat} {r : Road} (h : Rd n r) : r.firsts ≠ [] := List.length_pos_iff.mp (by have := h.pos; have := h.leq; omega)
theorem outs_d {t : Tp} {r : Road} {n : Nat} {Q : R → Sto → Prop} (hr : r.legs ≠ []) (hf : r.firsts ≠ []) (hl : ∀ l ∈ r.legs, LegOk l) (hl' : ∀ l ∈ r.legs, l.full ≤ 300000) (hrl : r.legs.length ≤ 1000) (hn : 1 ≤ n) (hn' : n ≤ 40) (hc : t.c + 300 ≤ 2 ^ 40)
    (h : ∀ b t', Ob n r b → t'.c ≤ t.c + 300 → Q (.frz (.tuple (b.map .int))) [tS t', none, none]) :
    wp (f_law_outs.sf [tS t, some (.frz (roadD r)), some (.frz (.int n))]) Q :=
  outs_w hr hf (fun l hl1 => ⟨hl l hl1, hl' l hl1⟩) hrl hn hn' hc fun b t1 h1 h2 h3 => h b t1 ⟨h1.ne, h1.len, h1.srt, fun x hx f hf => Int.le_trans (maxL_ge hf) (h1.low x hx), h2⟩ h3
theorem RbOk.of {n m : Nat} {r : Road} {b : List Int} (hr : Rd n r) (hb : Ob m r b) (hn : n ≤ 1000) (hm : m ≤ 1000) : RbOk r b := ⟨hr.leq, by have := hr.le; omega, by have := hb.len; omega⟩
/-! places -/
theorem ix_nat {α : Type} [Inhabited α] {l : List α} {i : Int} (h : 0 ≤ i) : ix l i = l[i.toNat]?.getD default := by
  obtain ⟨k, rfl⟩ := Int.eq_ofNat_of_zero_le h
  unfold ix
  rw [at_n, Int.toNat_natCast]
theorem ix_map {α β : Type} [Inhabited α] [Inhabited β] {l : List α} {f : α → β} {i : Int} (h : 0 ≤ i) (h' : i < l.length) : ix (l.map f) i = f (ix l i) := by
  obtain ⟨k, rfl⟩ := Int.eq_ofNat_of_zero_le h
  rw [ix_get (by rw [List.length_map]; omega), ix_get (by omega), List.getElem_map]
theorem ix_range {α : Type} [Inhabited α] {n : Nat} {f : Nat → α} {i : Int} (h : 0 ≤ i) (h' : i < n) : ix ((List.range n).map f) i = f i.toNat := by
  obtain ⟨k, rfl⟩ := Int.eq_ofNat_of_zero_le h
  rw [ix_get (by rw [List.length_map, List.length_range]; omega), List.getElem_map, List.getElem_range, Int.toNat_natCast]
theorem ix_cons_z {α : Type} [Inhabited α] {a : α} {l : List α} : ix (a :: l) 0 = a := by unfold ix; rw [at_0]; rfl
theorem ix_cons_s {α : Type} [Inhabited α] {a : α} {l : List α} {i : Int} (h : 0 < i) : ix (a :: l) i = ix l (i - 1) := by
  obtain ⟨k, e⟩ := Int.eq_ofNat_of_zero_le (show 0 ≤ i - 1 by omega)
  rw [e]
  unfold ix
  rw [show i = (k : Int) + 1 by omega, at_k]
theorem ix_books_at : ∀ (ps : List (Leg × Int)) (b : List Int) {k : Int}, 0 ≤ k → k ≤ ps.length → ix (booksN ps b) k = bookN (ps.take k.toNat) b
  | [], b, k, h, h' => by
    have : k = 0 := by simp at h'; omega
    rw [this]; rfl
  | p :: ps, b, k, h, h' => by
    by_cases z : k = 0
    · rw [z]; exact ix_cons_z
    · rw [booksN, ix_cons_s (by omega), ix_books_at ps _ (by omega) (by simp at h'; omega), show k.toNat = (k - 1).toNat + 1 by omega, List.take_succ_cons, bookN]
theorem ps_len {r : Road} (hr : r.legs.length = r.firsts.length) : r.ps.length = r.legs.length := by unfold Road.ps; rw [List.length_zip, ← hr]; omega
theorem comings_len (r : Road) (b : List Int) : (comingsN r b).length = b.length := by unfold comingsN; rw [List.length_map, List.length_range]
theorem ix_comings {r : Road} {b : List Int} {i : Int} (hi : 0 ≤ i) (hi' : i < b.length) : ix (comingsN r b) i = (booksN r.ps b).map fun c => ix c i := by
  unfold comingsN
  rw [ix_range hi hi']
  refine List.map_congr_left fun c _ => ?_
  rw [show ((i.toNat : Nat) : Int) = i by omega]
/-- a told coming -/
theorem ix_told {r : Road} {b : List Int} {i k : Int} (hr : r.legs.length = r.firsts.length) (hi : 0 ≤ i) (hi' : i < b.length) (hk : 0 ≤ k) (hk' : k ≤ r.legs.length) : ix (ix (comingsN r b) i) k = comeN r b i k := by
  rw [ix_comings hi hi', ix_map hk (by rw [books_len, ps_len hr]; omega), ix_books_at _ _ hk (by rw [ps_len hr]; exact hk')]
  rfl
/-! the riding -/
theorem ix_next {l : Leg} : ∀ {b : List Int} {h i : Int}, 0 ≤ i → i < b.length → ix (nextN l h b) i = ix b i + rideN l (ix b i - if i = 0 then h else ix b (i - 1))
  | [], h, i, h0, h1 => by simp at h1; omega
  | c :: b, h, i, h0, h1 => by
    by_cases z : i = 0
    · subst z; rw [nextN, ix_cons_z, ix_cons_z, if_pos rfl]
    · rw [nextN, ix_cons_s (by omega), ix_cons_s (by omega), ix_next (by omega) (by simp at h1; omega), if_neg z]
      by_cases y : i = 1
      · subst y; rw [if_pos (by omega), show (1 : Int) - 1 = 0 by omega, ix_cons_z]
      · rw [if_neg (by omega), ix_cons_s (by omega)]
/-- the middle one of three -/
theorem ride_mid {l : Leg} (ok : LegOk l) (c h : Int) : c + rideN l (c - h) = max (c + l.least) (min (h + l.full) (c + l.most)) := by
  unfold rideN heldN LegOk at *; omega
theorem next_srt {l : Leg} (ok : LegOk l) : ∀ {b : List Int} {h : Int}, Srt b → Srt (nextN l h b)
  | [], h, _ => by unfold Srt nextN; simp
  | [c], h, _ => by unfold Srt nextN nextN; simp
  | c :: d :: b, h, s => by
    have s' := List.pairwise_cons.mp s
    have ih := next_srt ok (h := c) s'.2
    rw [nextN]
    refine List.pairwise_cons.mpr ⟨fun x hx => ?_, ih⟩
    rw [nextN] at hx ih
    have hcd := s'.1 d (by simp)
    have h1 := ride_mid ok c h
    have h2 := ride_mid ok d c
    unfold LegOk at ok
    rcases List.mem_cons.mp hx with rfl | hx
    · omega
    · have := (List.pairwise_cons.mp ih).1 x hx
      omega
theorem book_srt : ∀ {ps : List (Leg × Int)} {b : List Int}, (∀ p ∈ ps, LegOk p.1) → Srt b → Srt (bookN ps b)
  | [], b, _, s => s
  | p :: ps, b, h, s => show Srt (bookN ps (nextN p.1 p.2 b)) from book_srt (ps := ps) (fun q hq => h q (List.mem_cons_of_mem _ hq)) (next_srt (h p List.mem_cons_self) s)
theorem srt_le {b : List Int} (s : Srt b) {i j : Int} (h : 0 ≤ i) (h' : i ≤ j) (h2 : j < b.length) : ix b i ≤ ix b j := by
  obtain ⟨m, rfl⟩ := Int.eq_ofNat_of_zero_le h
  obtain ⟨n, rfl⟩ := Int.eq_ofNat_of_zero_le (show 0 ≤ j by omega)
  rw [ix_get (by omega), ix_get (by omega)]
  by_cases e : m = n
  · subst e; exact Int.le_refl _
  · exact List.pairwise_iff_getElem.mp s m n (by omega) (by omega) (by omega)
theorem ps_ok {r : Road} (h : ∀ l ∈ r.legs, LegOk l) : ∀ p ∈ r.ps, LegOk p.1 := fun p hp => h p.1 (List.of_mem_zip hp).1
theorem take_ok {r : Road} (h : ∀ l ∈ r.legs, LegOk l) (k : Nat) : ∀ p ∈ r.ps.take k, LegOk p.1 := fun p hp => ps_ok h p (List.mem_of_mem_take hp)
/-- none comes ahead of the one ahead -/
theorem come_le {r : Road} {b : List Int} {i j k : Int} (h : ∀ l ∈ r.legs, LegOk l) (s : Srt b) (hi : 0 ≤ i) (hij : i ≤ j) (hj : j < b.length) : comeN r b i k ≤ comeN r b j k := by
  unfold comeN
  exact srt_le (book_srt (take_ok h _) s) hi hij (by rw [book_len]; exact hj)
theorem come_zero {r : Road} {b : List Int} {i : Int} : comeN r b i 0 = ix b i := rfl
theorem come_succ {r : Road} {b : List Int} {i k : Int} (hr : r.legs.length = r.firsts.length) (hi : 0 ≤ i) (hi' : i < b.length) (hk : 0 ≤ k) (hk' : k < r.legs.length) : comeN r b i (k + 1) = comeN r b i k + rideN (ix r.legs k) (standN r b i k) := by
  obtain ⟨n, rfl⟩ := Int.eq_ofNat_of_zero_le hk
  have e : ((n : Int) + 1).toNat = n + 1 := by omega
  have hl : n < r.ps.length := by rw [ps_len hr]; omega
  unfold standN horseN comeN
  rw [e, Int.toNat_natCast, List.take_succ_eq_append_getElem hl, book_snoc, ix_next hi (by rw [book_len]; exact hi')]
  have e1 : r.ps[n].1 = ix r.legs n := by rw [ix_get (by omega)]; simp [Road.ps]
  have e2 : r.ps[n].2 = ix r.firsts n := by rw [ix_get (by omega)]; simp [Road.ps]
  rw [e1, e2]
  by_cases z : i = 0
  · subst z; simp
  · rw [if_neg z, if_pos (by omega)]
theorem ride_bounds {l : Leg} (ok : LegOk l) (s : Int) : l.least ≤ rideN l s ∧ rideN l s ≤ l.most := by unfold rideN heldN LegOk at *; omega
theorem come_mono {r : Road} {b : List Int} {i : Int} (hr : r.legs.length = r.firsts.length) (h : ∀ l ∈ r.legs, LegOk l) (hi : 0 ≤ i) (hi' : i < b.length) : ∀ {m n : Nat}, m ≤ n → n ≤ r.legs.length → comeN r b i m ≤ comeN r b i n
  | m, 0, hmn, _ => by rw [show m = 0 by omega]; exact Int.le_refl _
  | m, n + 1, hmn, hn => by
    by_cases e : m = n + 1
    · subst e; exact Int.le_refl _
    · have ih := come_mono hr h hi hi' (m := m) (n := n) (by omega) (by omega)
      have st := come_succ (b := b) hr hi hi' (k := (n : Int)) (by omega) (by omega)
      have ok := h _ (ix_mem (l := r.legs) (i := (n : Int)) (by omega) (by omega))
      have := ride_bounds ok (standN r b i n)
      unfold LegOk at ok
      rw [Int.natCast_add]
      show _ ≤ comeN r b i ((n : Int) + 1)
      omega
theorem stand_nonneg {r : Road} {b : List Int} {i k : Int} (hr : r.legs.length = r.firsts.length) (h : ∀ l ∈ r.legs, LegOk l) (s : Srt b) (hf : ∀ x ∈ b, ∀ f ∈ r.firsts, f ≤ x) (hi : 0 ≤ i) (hi' : i < b.length) (hk : 0 ≤ k) (hk' : k < r.legs.length) : 0 ≤ standN r b i k := by
  unfold standN horseN
  by_cases z : 0 < i
  · rw [if_pos z]
    have := come_le (k := k) h s (show 0 ≤ i - 1 by omega) (show i - 1 ≤ i by omega) hi'
    omega
  · rw [if_neg z]
    have h1 := come_mono (b := b) hr h hi hi' (m := 0) (n := k.toNat) (by omega) (by omega)
    have h2 := hf _ (ix_mem hi hi') _ (ix_mem (l := r.firsts) hk (by omega))
    rw [show ((k.toNat : Nat) : Int) = k by omega] at h1
    have e : comeN r b i ((0 : Nat) : Int) = ix b i := rfl
    omega
end Rx
set_option Elab.async false
set_option linter.all false
set_option maxHeartbeats 4000000
/-! SpX2: all comings in order -/
namespace Rx
open PySem PySem.Spec L2
theorem eqv_lm {α : Type} [DecidableEq α] {f : α → D} (h : Eqf f) (xs ys : List α) : PyData.eqv (.list (xs.map f)) (.list (ys.map f)) = decide (xs = ys) := by
  rw [Bool.eq_iff_iff, decide_eq_true_iff]; exact eqf_list h xs ys
theorem eqv_tm {α : Type} [DecidableEq α] {f : α → D} (h : Eqf f) (xs ys : List α) : PyData.eqv (.tuple (xs.map f)) (.tuple (ys.map f)) = decide (xs = ys) := by
  rw [Bool.eq_iff_iff, decide_eq_true_iff]; exact eqf_tuple h xs ys
theorem ix_neg1 {α : Type} [Inhabited α] {l : List α} (h : 0 < l.length) : ix l (-1) = ix l ((l.length : Int) - 1) := by
  unfold ix
  rw [show (-1 : Int) = -(((0 : Nat) : Int) + 1) from rfl, at_neg h, show (l.length : Int) - 1 = ((l.length - 1 : Nat) : Int) by omega, at_n, Nat.sub_zero]
theorem sortE_filter (p : Ev → Bool) (l : List Ev) : (sortE l).filter p = sortE (l.filter p) :=
  List.Perm.eq_of_pairwise (le := fun a b => evLe a b = true) (fun a b _ _ h1 h2 => evLe_anti h1 h2) ((sortE_sorted l).filter p) (sortE_sorted _) (((sortE_perm l).filter p).trans (sortE_perm _).symm)
theorem sortE_len (l : List Ev) : (sortE l).length = l.length := (sortE_perm l).length_eq
theorem evs_len {r : Road} {b : List Int} {beat : Int} (h : ∀ c ∈ booksN r.ps b, ∀ x ∈ c, x ≤ beat) : (evsN r b beat).length = b.length * (r.ps.length + 1) := by
  unfold evsN evAll
  rw [sortE_len]
  have : ∀ l : List (List Int × Nat), (∀ p ∈ l, p.1.length = b.length ∧ ∀ x ∈ p.1, x ≤ beat) → (l.flatMap (evAt beat)).length = b.length * l.length := by
    intro l
    induction l with
    | nil => intro _; simp
    | cons p l ih =>
      intro hl
      rw [List.flatMap_cons, List.length_append, ih fun q hq => hl q (by simp [hq]), List.length_cons, Nat.mul_add]
      have hp := hl p (by simp)
      have : (evAt beat p).length = b.length := by
        unfold evAt
        rw [List.length_map, List.filter_eq_self.mpr, List.length_zipIdx, hp.1]
        intro q hq
        exact decide_eq_true (hp.2 q.1 (List.fst_mem_of_mem_zipIdx hq))
      omega
  rw [this, List.length_zipIdx, books_len]
  intro p hp
  have hm := List.fst_mem_of_mem_zipIdx hp
  exact ⟨books_all_len _ _ _ hm, h _ hm⟩
theorem flat_later {beat : Int} : ∀ (l : List (List Int)) (n : Nat), 0 < n → ((l.zipIdx n).flatMap (evAt beat)).filter (fun e => decide (e.2.1 = 0)) = []
  | [], _, _ => rfl
  | c :: l, n, h => by
    rw [List.zipIdx_cons, List.flatMap_cons, List.filter_append, flat_later l (n + 1) (by omega), List.append_nil, List.filter_eq_nil_iff]
    intro e he
    unfold evAt at he
    obtain ⟨q, _, rfl⟩ := List.mem_map.mp he
    simp; omega
theorem srt_evs : ∀ {b : List Int} (n : Nat), Srt b → (b.zipIdx n).Pairwise fun p q => evLe (p.1, (0 : Int), (p.2 : Int)) (q.1, (0 : Int), (q.2 : Int)) = true
  | [], _, _ => by simp
  | x :: b, n, s => by
    have s' := List.pairwise_cons.mp s
    rw [List.zipIdx_cons]
    refine List.pairwise_cons.mpr ⟨fun q hq => ?_, srt_evs (n + 1) s'.2⟩
    have h1 := s'.1 q.1 (List.fst_mem_of_mem_zipIdx hq)
    have h2 := List.le_snd_of_mem_zipIdx hq
    rw [evLe_iff]
    unfold tle
    show x < q.1 ∨ (x = q.1 ∧ ((0 : Int) < 0 ∨ ((0 : Int) = 0 ∧ (n : Int) ≤ (q.2 : Int))))
    omega
/-- the comings to station 0 among all -/
theorem evs_zero {r : Road} {b : List Int} {beat : Int} (s : Srt b) (h : ∀ x ∈ b, x ≤ beat) : ((evsN r b beat).filter fun e => decide (e.2.1 = 0)).map (·.1) = b := by
  unfold evsN
  rw [sortE_filter]
  obtain ⟨rest, e⟩ : ∃ rest, booksN r.ps b = b :: rest := by cases r.ps <;> exact ⟨_, rfl⟩
  have e1 : (evAll r b beat).filter (fun e => decide (e.2.1 = 0)) = b.zipIdx.map fun q => (q.1, (0 : Int), (q.2 : Int)) := by
    unfold evAll
    rw [e, List.zipIdx_cons, List.flatMap_cons, List.filter_append, flat_later rest _ (by omega), List.append_nil]
    unfold evAt
    rw [List.filter_eq_self.mpr, List.filter_eq_self.mpr]
    · rfl
    · intro q hq; exact decide_eq_true (h q.1 (List.fst_mem_of_mem_zipIdx hq))
    · intro e he
      obtain ⟨q, _, rfl⟩ := List.mem_map.mp he
      rfl
  rw [e1, sortE_id (List.pairwise_map.mpr (srt_evs 0 s)), List.map_map]
  exact List.zipIdx_map_fst 0 b
theorem srt_all_last {b : List Int} (s : Srt b) (hb : 0 < b.length) : ∀ x ∈ b, x ≤ ix b ((b.length : Int) - 1) := fun x hx => by
  obtain ⟨n, hn, rfl⟩ := List.getElem_of_mem hx
  rw [← ix_get hn]
  exact srt_le s (by omega) (by omega) (by omega)
/-- all comings are by the last rider's last -/
theorem all_by_last {r : Road} {b : List Int} (hr : r.legs.length = r.firsts.length) (h : ∀ l ∈ r.legs, LegOk l) (s : Srt b) (hb : 0 < b.length) : ∀ c ∈ booksN r.ps b, ∀ x ∈ c, x ≤ comeN r b ((b.length : Int) - 1) r.legs.length := by
  intro c hc x hx
  obtain ⟨k, hk, rfl⟩ := List.getElem_of_mem hc
  rw [books_len, ps_len hr] at hk
  rw [← ix_get (by rw [books_len, ps_len hr]; exact hk), ix_books_at _ _ (by omega) (by rw [ps_len hr]; omega), Int.toNat_natCast] at hx
  have h1 := srt_all_last (book_srt (take_ok h k) s) (by rw [book_len]; exact hb) x hx
  rw [book_len] at h1
  have h2 := come_mono (b := b) (i := (b.length : Int) - 1) hr h (by omega) (by omega) (m := k) (n := r.legs.length) (by omega) (by omega)
  unfold comeN at *
  rw [Int.toNat_natCast] at h2
  omega
theorem mem_zip_drop {α : Type} [Inhabited α] {l : List α} {a c : α} (h : (a, c) ∈ l.zip (l.drop 1)) : ∃ i : Nat, i + 1 < l.length ∧ a = ix l i ∧ c = ix l ((i : Int) + 1) := by
  obtain ⟨i, hi, e⟩ := List.getElem_of_mem h
  rw [List.length_zip, List.length_drop] at hi
  rw [List.getElem_zip, List.getElem_drop] at e
  refine ⟨i, by omega, ?_, ?_⟩
  · rw [ix_get (by omega)]; exact (congrArg Prod.fst e).symm
  · have := congrArg Prod.snd e
    rw [show (i : Int) + 1 = ((i + 1 : Nat) : Int) from rfl, ix_get (by omega)]
    simp only [Nat.add_comm i 1]
    exact this.symm
theorem mem_zip_ix {α β : Type} [Inhabited α] [Inhabited β] {l : List α} {m : List β} {p : α × β} (h : p ∈ l.zip m) : ∃ i : Nat, i < l.length ∧ i < m.length ∧ p.1 = ix l i ∧ p.2 = ix m i := by
  obtain ⟨i, hi, e⟩ := List.getElem_of_mem h
  rw [List.length_zip] at hi
  rw [List.getElem_zip] at e
  refine ⟨i, by omega, by omega, ?_, ?_⟩
  · rw [ix_get (by omega)]; exact (congrArg Prod.fst e).symm
  · rw [ix_get (by omega)]; exact (congrArg Prod.snd e).symm
theorem told_len {r : Road} {b : List Int} {i : Int} (hr : r.legs.length = r.firsts.length) (hi : 0 ≤ i) (hi' : i < b.length) : (ix (comingsN r b) i).length = r.legs.length + 1 := by
  rw [ix_comings hi hi', List.length_map, books_len, ps_len hr]
end Rx
set_option Elab.async false
set_option linter.all false
set_option maxRecDepth 100000
set_option maxHeartbeats 4000000
namespace Rx
open PySem PySem.Spec PyProof.Rows L2
def b_law_same_0a_0a (f : Fi) : List S := [(.ret (.const (.bool false)))]
theorem u_law_same_0a_0a (f : Fi) (s : Option Sl) (ρ : Sto) (K : Fl → Sto → Prop) : wSs (b_law_same_0a_0a f) (s :: ρ) K = wS (.ret (.const (.bool false))) (s :: ρ) K := ss_last _ _ _
def b_law_same_0a__1 (f : Fi) : List S := [(.ret (.and (.cop .eq (.bi .len [(.var 0)]) (.bi .len [(.var 1)])) (.bi .all [(.comp (.call f [(.var 3), (.var 4)]) (.tup [(.nm 3), (.nm 4)]) (.zip false (.var 0) (.var 1)) [] [2, 3, 4])])))]
theorem u_law_same_0a__1 (f : Fi) (s : Option Sl) (ρ : Sto) (K : Fl → Sto → Prop) : wSs (b_law_same_0a__1 f) (s :: ρ) K = wS (.ret (.and (.cop .eq (.bi .len [(.var 0)]) (.bi .len [(.var 1)])) (.bi .all [(.comp (.call f [(.var 3), (.var 4)]) (.tup [(.nm 3), (.nm 4)]) (.zip false (.var 0) (.var 1)) [] [2, 3, 4])]))) (s :: ρ) K := ss_last _ _ _
def b_law_same_0a (f : Fi) : List S := (.iff (.or (.cop .ne (.bi (.isi [.list]) [(.var 0)]) (.bi (.isi [.list]) [(.var 1)])) (.cop .ne (.bi (.isi [.tuple]) [(.var 0)]) (.bi (.isi [.tuple]) [(.var 1)]))) (b_law_same_0a_0a f) []) :: (b_law_same_0a__1 f)
theorem u_law_same_0a (f : Fi) (s : Option Sl) (ρ : Sto) (K : Fl → Sto → Prop) : wSs (b_law_same_0a f) (s :: ρ) K = wS (.iff (.or (.cop .ne (.bi (.isi [.list]) [(.var 0)]) (.bi (.isi [.list]) [(.var 1)])) (.cop .ne (.bi (.isi [.tuple]) [(.var 0)]) (.bi (.isi [.tuple]) [(.var 1)]))) (b_law_same_0a_0a f) []) (s :: ρ) fun g ρ1 => nx g (b_law_same_0a__1 f) ρ1 K := ss_cons _ _
def b_law_same_1a (f : Fi) : List S := [(.ret (.and (.cop .eq (.bi (.isi [.bool]) [(.var 0)]) (.bi (.isi [.bool]) [(.var 1)])) (.cop .eq (.var 0) (.var 1))))]
theorem u_law_same_1a (f : Fi) (s : Option Sl) (ρ : Sto) (K : Fl → Sto → Prop) : wSs (b_law_same_1a f) (s :: ρ) K = wS (.ret (.and (.cop .eq (.bi (.isi [.bool]) [(.var 0)]) (.bi (.isi [.bool]) [(.var 1)])) (.cop .eq (.var 0) (.var 1)))) (s :: ρ) K := ss_last _ _ _
def b_law_same__2 (f : Fi) : List S := [(.ret (.and (.bi (.isi [.int]) [(.var 0)]) (.and (.not (.bi (.isi [.bool]) [(.var 0)])) (.cop .eq (.var 0) (.var 1)))))]
theorem u_law_same__2 (f : Fi) (s : Option Sl) (ρ : Sto) (K : Fl → Sto → Prop) : wSs (b_law_same__2 f) (s :: ρ) K = wS (.ret (.and (.bi (.isi [.int]) [(.var 0)]) (.and (.not (.bi (.isi [.bool]) [(.var 0)])) (.cop .eq (.var 0) (.var 1))))) (s :: ρ) K := ss_last _ _ _
def b_law_same__1 (f : Fi) : List S := (.iff (.or (.isN (.var 1)) (.bi (.isi [.str, .bool]) [(.var 1)])) (b_law_same_1a f) []) :: (b_law_same__2 f)
theorem u_law_same__1 (f : Fi) (s : Option Sl) (ρ : Sto) (K : Fl → Sto → Prop) : wSs (b_law_same__1 f) (s :: ρ) K = wS (.iff (.or (.isN (.var 1)) (.bi (.isi [.str, .bool]) [(.var 1)])) (b_law_same_1a f) []) (s :: ρ) fun g ρ1 => nx g (b_law_same__2 f) ρ1 K := ss_cons _ _
def b_law_same (f : Fi) : List S := (.iff (.bi (.isi [.list, .tuple]) [(.var 1)]) (b_law_same_0a f) []) :: (b_law_same__1 f)
theorem u_law_same (f : Fi) (s : Option Sl) (ρ : Sto) (K : Fl → Sto → Prop) : wSs (b_law_same f) (s :: ρ) K = wS (.iff (.bi (.isi [.list, .tuple]) [(.var 1)]) (b_law_same_0a f) []) (s :: ρ) fun g ρ1 => nx g (b_law_same__1 f) ρ1 K := ss_cons _ _
def f_law_same : Nat → Fi
  | 0 => stuckF [false, false]
  | n + 1 => ⟨[false, false], evDef 5 (b_law_same (f_law_same n))⟩
theorem m_law_same (n : Nat) : (f_law_same n).modes = [false, false] := by cases n <;> rfl
theorem o_law_same (n : Nat) (a0 a1 : Option Sl) (Q : R → Sto → Prop) : wp ((f_law_same (n + 1)).sf [a0, a1]) Q = wSs (b_law_same (f_law_same n)) [a0, a1, none, none, none] (kD 2 Q) := w_def (n := 5) (body := b_law_same (f_law_same n)) (ρa := [a0, a1]) (Q := Q)
theorem k_law_same (n : Nat) (x0 x1 : Opd) (ρ : Sto) (Q : Opd → Sto → Prop) : wCall (f_law_same n) [x0, x1] ρ Q = wHard ρ x0 fun d0 ρ0 => wHard ρ0 x1 fun d1 ρ1 => wp ((f_law_same n).sf [some (.frz d0), some (.frz d1)]) fun r ρo => wNs 2 ρo (Q (.val r) ρ1) := call_f2 (m_law_same n)
def b_law_books_1a_1a__1 : List S := [(.setv 4 (.var 6))]
theorem u_law_books_1a_1a__1 (s : Option Sl) (ρ : Sto) (K : Fl → Sto → Prop) : wSs b_law_books_1a_1a__1 (s :: ρ) K = wS (.setv 4 (.var 6)) (s :: ρ) K := ss_last _ _ _
def b_law_books_1a_1a : List S := (.app 5 (.bop .add (.var 6) (.idx (.bi .sorted [(.lst [(.idx (.var 3) (.const (.int 1))), (.bop .sub (.idx (.var 3) (.const (.int 0))) (.bop .sub (.var 6) (.var 4))), (.idx (.var 3) (.const (.int 2)))])]) (.const (.int 1))))) :: b_law_books_1a_1a__1
theorem u_law_books_1a_1a (s : Option Sl) (ρ : Sto) (K : Fl → Sto → Prop) : wSs b_law_books_1a_1a (s :: ρ) K = wS (.app 5 (.bop .add (.var 6) (.idx (.bi .sorted [(.lst [(.idx (.var 3) (.const (.int 1))), (.bop .sub (.idx (.var 3) (.const (.int 0))) (.bop .sub (.var 6) (.var 4))), (.idx (.var 3) (.const (.int 2)))])]) (.const (.int 1))))) (s :: ρ) fun f ρ1 => nx f b_law_books_1a_1a__1 ρ1 K := ss_cons _ _
def b_law_books_1a__2 : List S := [(.app 2 (.var 5))]
theorem u_law_books_1a__2 (s : Option Sl) (ρ : Sto) (K : Fl → Sto → Prop) : wSs b_law_books_1a__2 (s :: ρ) K = wS (.app 2 (.var 5)) (s :: ρ) K := ss_last _ _ _
def b_law_books_1a__1 : List S := (.forr (.nm 6) (.seq (.idx (.var 2) (.neg (.const (.int 1))))) b_law_books_1a_1a) :: b_law_books_1a__2
theorem u_law_books_1a__1 (s : Option Sl) (ρ : Sto) (K : Fl → Sto → Prop) : wSs b_law_books_1a__1 (s :: ρ) K = wS (.forr (.nm 6) (.seq (.idx (.var 2) (.neg (.const (.int 1))))) b_law_books_1a_1a) (s :: ρ) fun f ρ1 => nx f b_law_books_1a__2 ρ1 K := ss_cons _ _
def b_law_books_1a : List S := (.setv 5 (.lst [])) :: b_law_books_1a__1
theorem u_law_books_1a (s : Option Sl) (ρ : Sto) (K : Fl → Sto → Prop) : wSs b_law_books_1a (s :: ρ) K = wS (.setv 5 (.lst [])) (s :: ρ) fun f ρ1 => nx f b_law_books_1a__1 ρ1 K := ss_cons _ _
def b_law_books__2 : List S := [(.ret (.var 2))]
theorem u_law_books__2 (s : Option Sl) (ρ : Sto) (K : Fl → Sto → Prop) : wSs b_law_books__2 (s :: ρ) K = wS (.ret (.var 2)) (s :: ρ) K := ss_last _ _ _
def b_law_books__1 : List S := (.forr (.tup [(.nm 3), (.nm 4)]) (.zip false (.idx (.var 0) (.const (.int 0))) (.idx (.var 0) (.const (.int 1)))) b_law_books_1a) :: b_law_books__2
theorem u_law_books__1 (s : Option Sl) (ρ : Sto) (K : Fl → Sto → Prop) : wSs b_law_books__1 (s :: ρ) K = wS (.forr (.tup [(.nm 3), (.nm 4)]) (.zip false (.idx (.var 0) (.const (.int 0))) (.idx (.var 0) (.const (.int 1)))) b_law_books_1a) (s :: ρ) fun f ρ1 => nx f b_law_books__2 ρ1 K := ss_cons _ _
def b_law_books : List S := (.setv 2 (.lst [(.bi .list [(.var 1)])])) :: b_law_books__1
theorem u_law_books (s : Option Sl) (ρ : Sto) (K : Fl → Sto → Prop) : wSs b_law_books (s :: ρ) K = wS (.setv 2 (.lst [(.bi .list [(.var 1)])])) (s :: ρ) fun f ρ1 => nx f b_law_books__1 ρ1 K := ss_cons _ _
def f_law_books : Fi := ⟨[false, false], evDef 7 b_law_books⟩
theorem o_law_books (a0 a1 : Option Sl) (Q : R → Sto → Prop) : wp (f_law_books.sf [a0, a1]) Q = wSs b_law_books [a0, a1, none, none, none, none, none] (kD 2 Q) := w_def (n := 7) (body := b_law_books) (ρa := [a0, a1]) (Q := Q)
theorem k_law_books (x0 x1 : Opd) (ρ : Sto) (Q : Opd → Sto → Prop) : wCall f_law_books [x0, x1] ρ Q = wHard ρ x0 fun d0 ρ0 => wHard ρ0 x1 fun d1 ρ1 => wp (f_law_books.sf [some (.frz d0), some (.frz d1)]) fun r ρo => wNs 2 ρo (Q (.val r) ρ1) := call_f2 rfl
end Rx
set_option Elab.async false
set_option linter.all false
set_option maxHeartbeats 4000000
/-! SpS: the laws' own look at equality; their own riding -/
namespace Rx
open PySem PySem.Spec L2
set_option maxRecDepth 100000
local macro_rules | `(tactic| simp_all? only [$xs,*]) => `(tactic| simp only [↓e_const, ↓e_bop, ↓e_neg, ↓e_cop, ↓e_ch2, ↓e_isN, ↓e_notN, ↓e_not, ↓e_and, ↓e_or, ↓e_ife, ↓e_idx, ↓e_slc, ↓e_asI, ↓e_rev, ↓e_tup, ↓e_lst, ↓e_call, ↓e_callk, ↓e_bi, ↓e_comp, ↓es_nil, ↓es_cons, ↓ts_nil, ↓ts_cons, ↓it_seq, ↓it_range1, ↓it_range2, ↓it_enum, ↓it_revd, ↓it_zipt, ↓it_zipf, ↓ss_nil, ↓ss_last, ↓s_setv, ↓s_sett, ↓s_par, ↓s_ext, ↓s_mt0, ↓mt0_l, ↓mt0_rev, ↓mt0_clr, ↓s_aug, ↓aug_i, ↓aug_l, ↓augL_l, ↓seti_l, ↓own_l, ↓s_seti, ↓s_expr, ↓app_l, ↓s_app, ↓s_iff, ↓s_whl, ↓s_for, ↓ret_v, ↓ret_s, ↓retS_l, ↓s_ret, ↓s_retN, ↓s_brk, ↓s_cont, ↓s_pass, ↓s_never, ↓nx_n, ↓nx_r, ↓nx_b, ↓nx_c, ↓fl_n, ↓fl_c, ↓fl_b, ↓fl_r, ↓vl_v, ↓vl_s, ↓putr_f, ↓putr_l, ↓tg_n, ↓tg_t, ↓tgs_n, ↓tgs_c, ↓pa_n, ↓pa_c, ↓par_n, ↓par_v, ↓par_s, ↓rd_v, ↓rd_s, ↓rdS_m, ↓ri_v, ↓hd_f, ↓hd_l, ↓hd_s, ↓hs_c, ↓hs_l, ↓hds_n, ↓hds_c, ↓rds_n, ↓rds_c, ↓ab_v, ↓sq_l, ↓sq_t, ↓pd_n, ↓pd_c, ↓ix_z, ↓ix_s, ↓if_t, ↓if_f, ↓if_n, ↓if_d, ↓no_n, ↓no_i, ↓no_b, ↓no_s, ↓no_t, ↓no_l, ↓no_r, ↓bi_add, ↓bi_sub, ↓bi_mul, ↓bi_div, ↓bi_mod, ↓bi_pow, ↓wl_ixN, ↓b_ii, ↓b_ss, ↓b_ll, ↓b_lf, ↓b_fl, ↓b_ff, ↓b_tt, ↓b_lm, ↓b_tm, ↓c_eqi, ↓c_nei, ↓c_lt, ↓c_le, ↓c_gt, ↓c_ge, ↓id_t, ↓id_l, ↓id_o, ↓wl_at0, ↓wl_at1, ↓wl_at2, ↓wl_at3, ↓at_map, ↓sl_t, ↓sl_l, ↓sl_o, ↓oi_n, ↓oi_i, ↓bl_len, ↓len_l, ↓len_f, ↓len_t, ↓len_s, ↓bl_maxs, ↓bl_mins, ↓bl_max2, ↓bl_min2, ↓bl_abs, ↓bl_sum, ↓bl_sumf, ↓bl_all, ↓bl_any, ↓any_map, ↓all_map, ↓bl_listl, ↓bl_listf, ↓bl_listt, ↓bl_tupl, ↓bl_tupf, ↓bl_tupt, ↓bl_intb, ↓bl_inti, ↓bl_str, ↓bl_isi, ↓bl_sorted, ↓bl_repr, ↓max_t, ↓max_l, ↓max_o, ↓min_t, ↓min_l, ↓min_o, ↓kd_r1, ↓kd_r2, ↓kd_r3, ↓kd_r4, ↓kd_r5, ↓kd_r6, ↓kd_r7, ↓ns_1, ↓ns_2, ↓ns_3, ↓ns_4, ↓ns_5, ↓ns_6, ↓ns_7, ↓ns_8, ↓lt_c, ↓lt_d, ↓bk_1, ↓bk_2, ↓bk_3, ↓bk_4, ↓bk_5, ↓bk_6, ↓bk_7, ↓bk_8, ↓wp_ret, ↓wl_some, ↓turn_u, ↓Vf_0, ↓Vt_0, ↓Vm_0, ↓Vf_1, ↓Vt_1, ↓Vm_1, ↓Vf_2, ↓Vt_2, ↓Vm_2, ↓Vf_3, ↓Vt_3, ↓Vm_3, ↓Vf_4, ↓Vt_4, ↓Vm_4, ↓Vf_5, ↓Vt_5, ↓Vm_5, ↓Vf_6, ↓Vt_6, ↓Vm_6, ↓Vf_7, ↓Vt_7, ↓Vm_7, ↓Vf_8, ↓Vt_8, ↓Vm_8, ↓Vf_9, ↓Vt_9, ↓Vm_9, ↓Vf_10, ↓Vt_10, ↓Vm_10, ↓Vf_11, ↓Vt_11, ↓Vm_11, ↓Vf_12, ↓Vt_12, ↓Vm_12, ↓Vf_13, ↓Vt_13, ↓Vm_13, ↓Vf_14, ↓Vt_14, ↓Vm_14, ↓Vf_15, ↓Vt_15, ↓Vm_15, ↓Vf_16, ↓Vt_16, ↓Vm_16, ↓Vf_17, ↓Vt_17, ↓Vm_17, ↓Vf_18, ↓Vt_18, ↓Vm_18, ↓Vf_19, ↓Vt_19, ↓Vm_19, ↓Vf_20, ↓Vt_20, ↓Vm_20, ↓Vf_21, ↓Vt_21, ↓Vm_21, ↓Vf_22, ↓Vt_22, ↓Vm_22, ↓Vf_23, ↓Vt_23, ↓Vm_23, ↓Vf_24, ↓Vt_24, ↓Vm_24, ↓Vf_25, ↓Vt_25, ↓Vm_25, ↓Vf_26, ↓Vt_26, ↓Vm_26, ↓Vf_27, ↓Vt_27, ↓Vm_27, ↓Vf_28, ↓Vt_28, ↓Vm_28, ↓Vf_29, ↓Vt_29, ↓Vm_29, ↓Vf_30, ↓Vt_30, ↓Vm_30, ↓Vf_31, ↓Vt_31, ↓Vm_31, ↓wl_leg0, ↓wl_leg1, ↓wl_leg2, ↓wl_road0, ↓wl_road1, ↓tg_leg, ↓tg_road, ↓W_over, ↓W_held, ↓W_ride_of, ↓W_bounds_of, ↓k_over, ↓k_held, ↓k_ride_of, ↓k_bounds_of, e_const, e_bop, e_neg, e_cop, e_ch2, e_isN, e_notN, e_not, e_and, e_or, e_ife, e_idx, e_slc, e_asI, e_rev, e_tup, e_lst, e_call, e_callk, e_bi, e_comp, es_nil, es_cons, ts_nil, ts_cons, it_seq, it_range1, it_range2, it_enum, it_revd, it_zipt, it_zipf, ss_nil, ss_last, s_setv, s_sett, s_par, s_ext, s_mt0, mt0_l, mt0_rev, mt0_clr, s_aug, aug_i, aug_l, augL_l, seti_l, own_l, s_seti, s_expr, app_l, s_app, s_iff, s_whl, s_for, ret_v, ret_s, retS_l, s_ret, s_retN, s_brk, s_cont, s_pass, s_never, nx_n, nx_r, nx_b, nx_c, fl_n, fl_c, fl_b, fl_r, vl_v, vl_s, putr_f, putr_l, tg_n, tg_t, tgs_n, tgs_c, pa_n, pa_c, par_n, par_v, par_s, rd_v, rd_s, rdS_m, ri_v, hd_f, hd_l, hd_s, hs_c, hs_l, hds_n, hds_c, rds_n, rds_c, ab_v, sq_l, sq_t, pd_n, pd_c, ix_z, ix_s, if_t, if_f, if_n, if_d, no_n, no_i, no_b, no_s, no_t, no_l, no_r, bi_add, bi_sub, bi_mul, bi_div, bi_mod, bi_pow, wl_ixN, b_ii, b_ss, b_ll, b_lf, b_fl, b_ff, b_tt, b_lm, b_tm, c_eqi, c_nei, c_lt, c_le, c_gt, c_ge, id_t, id_l, id_o, wl_at0, wl_at1, wl_at2, wl_at3, at_map, sl_t, sl_l, sl_o, oi_n, oi_i, bl_len, len_l, len_f, len_t, len_s, bl_maxs, bl_mins, bl_max2, bl_min2, bl_abs, bl_sum, bl_sumf, bl_all, bl_any, any_map, all_map, bl_listl, bl_listf, bl_listt, bl_tupl, bl_tupf, bl_tupt, bl_intb, bl_inti, bl_str, bl_isi, bl_sorted, bl_repr, max_t, max_l, max_o, min_t, min_l, min_o, kd_r1, kd_r2, kd_r3, kd_r4, kd_r5, kd_r6, kd_r7, ns_1, ns_2, ns_3, ns_4, ns_5, ns_6, ns_7, ns_8, lt_c, lt_d, bk_1, bk_2, bk_3, bk_4, bk_5, bk_6, bk_7, bk_8, wp_ret, wl_some, turn_u, Vf_0, Vt_0, Vm_0, Vf_1, Vt_1, Vm_1, Vf_2, Vt_2, Vm_2, Vf_3, Vt_3, Vm_3, Vf_4, Vt_4, Vm_4, Vf_5, Vt_5, Vm_5, Vf_6, Vt_6, Vm_6, Vf_7, Vt_7, Vm_7, Vf_8, Vt_8, Vm_8, Vf_9, Vt_9, Vm_9, Vf_10, Vt_10, Vm_10, Vf_11, Vt_11, Vm_11, Vf_12, Vt_12, Vm_12, Vf_13, Vt_13, Vm_13, Vf_14, Vt_14, Vm_14, Vf_15, Vt_15, Vm_15, Vf_16, Vt_16, Vm_16, Vf_17, Vt_17, Vm_17, Vf_18, Vt_18, Vm_18, Vf_19, Vt_19, Vm_19, Vf_20, Vt_20, Vm_20, Vf_21, Vt_21, Vm_21, Vf_22, Vt_22, Vm_22, Vf_23, Vt_23, Vm_23, Vf_24, Vt_24, Vm_24, Vf_25, Vt_25, Vm_25, Vf_26, Vt_26, Vm_26, Vf_27, Vt_27, Vm_27, Vf_28, Vt_28, Vm_28, Vf_29, Vt_29, Vm_29, Vf_30, Vt_30, Vm_30, Vf_31, Vt_31, Vm_31, wl_leg0, wl_leg1, wl_leg2, wl_road0, wl_road1, tg_leg, tg_road, W_over, W_held, W_ride_of, W_bounds_of, k_over, k_held, k_ride_of, k_bounds_of, put_k, set_c, set_d, set_b, set_f, cln_nil, cln_n, cln_f, cln_m, cln_l, cln_d, szi, szl, dv_t, pw_t, sml_l, sml_r, decide_eq_true_eq, Int.reduceMul, Int.reduceMod, Int.reduceAdd, Int.reduceSub, Int.reduceDiv, Int.reduceNeg, Int.natAbs_zero, un_nil, un_n, un_f, un_m, fz_nil, fz_n, fz_f, fz_m, fz_l, fz_d, nl_nil, nl_n, nl_f, nl_m, nl_l, nl_d, mf_nil, mf_n, mf_f, mf_m, mf_l, mf_d, df_nil, df_n, df_f, df_m, df_l, df_d, ik_n, ik_f, ik_m, ko_n, ko_f, ko_k, ko_o, eqv_ii, cut_m, enum_map, zip_map, ints_zero, wi_n, wi_c, ba_n, ba_c, toD_f, toD_l, slo_f, slo_l, sc_i, sc_b, sc_s, sc_n, sc_l, sc_t, scr_f, scr_l, Bool.and_self, Bool.true_and, Bool.and_true, List.all_cons, List.all_nil, Int.toNat_natCast, Int.natCast_nonneg, Int.reduceLT, Int.reduceLE, Int.cast_ofNat_Int, c_eqS, c_neS, shp_int, shp_bool, shp_none, shp_list, shp_tuple, shpl_nil, shpl_cons, shpl_app, shpl_map, shp_leg, shp_road, implies_true, and_self, List.length_cons, List.length_nil, List.length_map, List.cons_append, List.nil_append, Nat.reduceAdd, Nat.reduceLT, Nat.reduceLeDiff, Nat.zero_add, Int.reduceNeg, Int.reducePow, Int.reduceToNat, true_and, and_true, reduceIte, eq_self, decide_true, decide_false, Bool.not_true, Bool.not_false, Bool.false_eq_true, Bool.true_eq_false, false_implies, forall_const, not_true_eq_false, not_false_eq_true, G_0, L_0, G_1, L_1, G_2, L_2, G_3, L_3, G_4, L_4, G_5, L_5, G_6, L_6, G_7, L_7, G_8, L_8, G_9, L_9, G_10, L_10, G_11, L_11, G_12, L_12, G_13, L_13, G_14, L_14, G_15, L_15, G_16, L_16, G_17, L_17, G_18, L_18, G_19, L_19, G_20, L_20, G_21, L_21, G_22, L_22, G_23, L_23, G_24, L_24, G_25, L_25, G_26, L_26, G_27, L_27, G_28, L_28, G_29, L_29, G_30, L_30, G_31, L_31, intsD, $xs,*])
local macro_rules | `(tactic| simp_all? [$xs,*]) => `(tactic| simp only [↓e_const, ↓e_bop, ↓e_neg, ↓e_cop, ↓e_ch2, ↓e_isN, ↓e_notN, ↓e_not, ↓e_and, ↓e_or, ↓e_ife, ↓e_idx, ↓e_slc, ↓e_asI, ↓e_rev, ↓e_tup, ↓e_lst, ↓e_call, ↓e_callk, ↓e_bi, ↓e_comp, ↓es_nil, ↓es_cons, ↓ts_nil, ↓ts_cons, ↓it_seq, ↓it_range1, ↓it_range2, ↓it_enum, ↓it_revd, ↓it_zipt, ↓it_zipf, ↓ss_nil, ↓ss_last, ↓s_setv, ↓s_sett, ↓s_par, ↓s_ext, ↓s_mt0, ↓mt0_l, ↓mt0_rev, ↓mt0_clr, ↓s_aug, ↓aug_i, ↓aug_l, ↓augL_l, ↓seti_l, ↓own_l, ↓s_seti, ↓s_expr, ↓app_l, ↓s_app, ↓s_iff, ↓s_whl, ↓s_for, ↓ret_v, ↓ret_s, ↓retS_l, ↓s_ret, ↓s_retN, ↓s_brk, ↓s_cont, ↓s_pass, ↓s_never, ↓nx_n, ↓nx_r, ↓nx_b, ↓nx_c, ↓fl_n, ↓fl_c, ↓fl_b, ↓fl_r, ↓vl_v, ↓vl_s, ↓putr_f, ↓putr_l, ↓tg_n, ↓tg_t, ↓tgs_n, ↓tgs_c, ↓pa_n, ↓pa_c, ↓par_n, ↓par_v, ↓par_s, ↓rd_v, ↓rd_s, ↓rdS_m, ↓ri_v, ↓hd_f, ↓hd_l, ↓hd_s, ↓hs_c, ↓hs_l, ↓hds_n, ↓hds_c, ↓rds_n, ↓rds_c, ↓ab_v, ↓sq_l, ↓sq_t, ↓pd_n, ↓pd_c, ↓ix_z, ↓ix_s, ↓if_t, ↓if_f, ↓if_n, ↓if_d, ↓no_n, ↓no_i, ↓no_b, ↓no_s, ↓no_t, ↓no_l, ↓no_r, ↓bi_add, ↓bi_sub, ↓bi_mul, ↓bi_div, ↓bi_mod, ↓bi_pow, ↓wl_ixN, ↓b_ii, ↓b_ss, ↓b_ll, ↓b_lf, ↓b_fl, ↓b_ff, ↓b_tt, ↓b_lm, ↓b_tm, ↓c_eqi, ↓c_nei, ↓c_lt, ↓c_le, ↓c_gt, ↓c_ge, ↓id_t, ↓id_l, ↓id_o, ↓wl_at0, ↓wl_at1, ↓wl_at2, ↓wl_at3, ↓at_map, ↓sl_t, ↓sl_l, ↓sl_o, ↓oi_n, ↓oi_i, ↓bl_len, ↓len_l, ↓len_f, ↓len_t, ↓len_s, ↓bl_maxs, ↓bl_mins, ↓bl_max2, ↓bl_min2, ↓bl_abs, ↓bl_sum, ↓bl_sumf, ↓bl_all, ↓bl_any, ↓any_map, ↓all_map, ↓bl_listl, ↓bl_listf, ↓bl_listt, ↓bl_tupl, ↓bl_tupf, ↓bl_tupt, ↓bl_intb, ↓bl_inti, ↓bl_str, ↓bl_isi, ↓bl_sorted, ↓bl_repr, ↓max_t, ↓max_l, ↓max_o, ↓min_t, ↓min_l, ↓min_o, ↓kd_r1, ↓kd_r2, ↓kd_r3, ↓kd_r4, ↓kd_r5, ↓kd_r6, ↓kd_r7, ↓ns_1, ↓ns_2, ↓ns_3, ↓ns_4, ↓ns_5, ↓ns_6, ↓ns_7, ↓ns_8, ↓lt_c, ↓lt_d, ↓bk_1, ↓bk_2, ↓bk_3, ↓bk_4, ↓bk_5, ↓bk_6, ↓bk_7, ↓bk_8, ↓wp_ret, ↓wl_some, ↓turn_u, ↓Vf_0, ↓Vt_0, ↓Vm_0, ↓Vf_1, ↓Vt_1, ↓Vm_1, ↓Vf_2, ↓Vt_2, ↓Vm_2, ↓Vf_3, ↓Vt_3, ↓Vm_3, ↓Vf_4, ↓Vt_4, ↓Vm_4, ↓Vf_5, ↓Vt_5, ↓Vm_5, ↓Vf_6, ↓Vt_6, ↓Vm_6, ↓Vf_7, ↓Vt_7, ↓Vm_7, ↓Vf_8, ↓Vt_8, ↓Vm_8, ↓Vf_9, ↓Vt_9, ↓Vm_9, ↓Vf_10, ↓Vt_10, ↓Vm_10, ↓Vf_11, ↓Vt_11, ↓Vm_11, ↓Vf_12, ↓Vt_12, ↓Vm_12, ↓Vf_13, ↓Vt_13, ↓Vm_13, ↓Vf_14, ↓Vt_14, ↓Vm_14, ↓Vf_15, ↓Vt_15, ↓Vm_15, ↓Vf_16, ↓Vt_16, ↓Vm_16, ↓Vf_17, ↓Vt_17, ↓Vm_17, ↓Vf_18, ↓Vt_18, ↓Vm_18, ↓Vf_19, ↓Vt_19, ↓Vm_19, ↓Vf_20, ↓Vt_20, ↓Vm_20, ↓Vf_21, ↓Vt_21, ↓Vm_21, ↓Vf_22, ↓Vt_22, ↓Vm_22, ↓Vf_23, ↓Vt_23, ↓Vm_23, ↓Vf_24, ↓Vt_24, ↓Vm_24, ↓Vf_25, ↓Vt_25, ↓Vm_25, ↓Vf_26, ↓Vt_26, ↓Vm_26, ↓Vf_27, ↓Vt_27, ↓Vm_27, ↓Vf_28, ↓Vt_28, ↓Vm_28, ↓Vf_29, ↓Vt_29, ↓Vm_29, ↓Vf_30, ↓Vt_30, ↓Vm_30, ↓Vf_31, ↓Vt_31, ↓Vm_31, ↓wl_leg0, ↓wl_leg1, ↓wl_leg2, ↓wl_road0, ↓wl_road1, ↓tg_leg, ↓tg_road, ↓W_over, ↓W_held, ↓W_ride_of, ↓W_bounds_of, ↓k_over, ↓k_held, ↓k_ride_of, ↓k_bounds_of, e_const, e_bop, e_neg, e_cop, e_ch2, e_isN, e_notN, e_not, e_and, e_or, e_ife, e_idx, e_slc, e_asI, e_rev, e_tup, e_lst, e_call, e_callk, e_bi, e_comp, es_nil, es_cons, ts_nil, ts_cons, it_seq, it_range1, it_range2, it_enum, it_revd, it_zipt, it_zipf, ss_nil, ss_last, s_setv, s_sett, s_par, s_ext, s_mt0, mt0_l, mt0_rev, mt0_clr, s_aug, aug_i, aug_l, augL_l, seti_l, own_l, s_seti, s_expr, app_l, s_app, s_iff, s_whl, s_for, ret_v, ret_s, retS_l, s_ret, s_retN, s_brk, s_cont, s_pass, s_never, nx_n, nx_r, nx_b, nx_c, fl_n, fl_c, fl_b, fl_r, vl_v, vl_s, putr_f, putr_l, tg_n, tg_t, tgs_n, tgs_c, pa_n, pa_c, par_n, par_v, par_s, rd_v, rd_s, rdS_m, ri_v, hd_f, hd_l, hd_s, hs_c, hs_l, hds_n, hds_c, rds_n, rds_c, ab_v, sq_l, sq_t, pd_n, pd_c, ix_z, ix_s, if_t, if_f, if_n, if_d, no_n, no_i, no_b, no_s, no_t, no_l, no_r, bi_add, bi_sub, bi_mul, bi_div, bi_mod, bi_pow, wl_ixN, b_ii, b_ss, b_ll, b_lf, b_fl, b_ff, b_tt, b_lm, b_tm, c_eqi, c_nei, c_lt, c_le, c_gt, c_ge, id_t, id_l, id_o, wl_at0, wl_at1, wl_at2, wl_at3, at_map, sl_t, sl_l, sl_o, oi_n, oi_i, bl_len, len_l, len_f, len_t, len_s, bl_maxs, bl_mins, bl_max2, bl_min2, bl_abs, bl_sum, bl_sumf, bl_all, bl_any, any_map, all_map, bl_listl, bl_listf, bl_listt, bl_tupl, bl_tupf, bl_tupt, bl_intb, bl_inti, bl_str, bl_isi, bl_sorted, bl_repr, max_t, max_l, max_o, min_t, min_l, min_o, kd_r1, kd_r2, kd_r3, kd_r4, kd_r5, kd_r6, kd_r7, ns_1, ns_2, ns_3, ns_4, ns_5, ns_6, ns_7, ns_8, lt_c, lt_d, bk_1, bk_2, bk_3, bk_4, bk_5, bk_6, bk_7, bk_8, wp_ret, wl_some, turn_u, Vf_0, Vt_0, Vm_0, Vf_1, Vt_1, Vm_1, Vf_2, Vt_2, Vm_2, Vf_3, Vt_3, Vm_3, Vf_4, Vt_4, Vm_4, Vf_5, Vt_5, Vm_5, Vf_6, Vt_6, Vm_6, Vf_7, Vt_7, Vm_7, Vf_8, Vt_8, Vm_8, Vf_9, Vt_9, Vm_9, Vf_10, Vt_10, Vm_10, Vf_11, Vt_11, Vm_11, Vf_12, Vt_12, Vm_12, Vf_13, Vt_13, Vm_13, Vf_14, Vt_14, Vm_14, Vf_15, Vt_15, Vm_15, Vf_16, Vt_16, Vm_16, Vf_17, Vt_17, Vm_17, Vf_18, Vt_18, Vm_18, Vf_19, Vt_19, Vm_19, Vf_20, Vt_20, Vm_20, Vf_21, Vt_21, Vm_21, Vf_22, Vt_22, Vm_22, Vf_23, Vt_23, Vm_23, Vf_24, Vt_24, Vm_24, Vf_25, Vt_25, Vm_25, Vf_26, Vt_26, Vm_26, Vf_27, Vt_27, Vm_27, Vf_28, Vt_28, Vm_28, Vf_29, Vt_29, Vm_29, Vf_30, Vt_30, Vm_30, Vf_31, Vt_31, Vm_31, wl_leg0, wl_leg1, wl_leg2, wl_road0, wl_road1, tg_leg, tg_road, W_over, W_held, W_ride_of, W_bounds_of, k_over, k_held, k_ride_of, k_bounds_of, put_k, set_c, set_d, set_b, set_f, cln_nil, cln_n, cln_f, cln_m, cln_l, cln_d, szi, szl, dv_t, pw_t, sml_l, sml_r, decide_eq_true_eq, Int.reduceMul, Int.reduceMod, Int.reduceAdd, Int.reduceSub, Int.reduceDiv, Int.reduceNeg, Int.natAbs_zero, un_nil, un_n, un_f, un_m, fz_nil, fz_n, fz_f, fz_m, fz_l, fz_d, nl_nil, nl_n, nl_f, nl_m, nl_l, nl_d, mf_nil, mf_n, mf_f, mf_m, mf_l, mf_d, df_nil, df_n, df_f, df_m, df_l, df_d, ik_n, ik_f, ik_m, ko_n, ko_f, ko_k, ko_o, eqv_ii, cut_m, enum_map, zip_map, ints_zero, wi_n, wi_c, ba_n, ba_c, toD_f, toD_l, slo_f, slo_l, sc_i, sc_b, sc_s, sc_n, sc_l, sc_t, scr_f, scr_l, Bool.and_self, Bool.true_and, Bool.and_true, List.all_cons, List.all_nil, Int.toNat_natCast, Int.natCast_nonneg, Int.reduceLT, Int.reduceLE, Int.cast_ofNat_Int, c_eqS, c_neS, shp_int, shp_bool, shp_none, shp_list, shp_tuple, shpl_nil, shpl_cons, shpl_app, shpl_map, shp_leg, shp_road, implies_true, and_self, List.length_cons, List.length_nil, List.length_map, List.cons_append, List.nil_append, Nat.reduceAdd, Nat.reduceLT, Nat.reduceLeDiff, Nat.zero_add, Int.reduceNeg, Int.reducePow, Int.reduceToNat, true_and, and_true, reduceIte, eq_self, decide_true, decide_false, Bool.not_true, Bool.not_false, Bool.false_eq_true, Bool.true_eq_false, false_implies, forall_const, not_true_eq_false, not_false_eq_true, G_0, L_0, G_1, L_1, G_2, L_2, G_3, L_3, G_4, L_4, G_5, L_5, G_6, L_6, G_7, L_7, G_8, L_8, G_9, L_9, G_10, L_10, G_11, L_11, G_12, L_12, G_13, L_13, G_14, L_14, G_15, L_15, G_16, L_16, G_17, L_17, G_18, L_18, G_19, L_19, G_20, L_20, G_21, L_21, G_22, L_22, G_23, L_23, G_24, L_24, G_25, L_25, G_26, L_26, G_27, L_27, G_28, L_28, G_29, L_29, G_30, L_30, G_31, L_31, intsD, cln_x, un_x, fz_x, nl_x, mf_x, df_x, ik_x, ko_x, $xs,*])
theorem zip_raw (xs ys : List D) : itZip xs ys = (xs.zip ys).map fun p => .tuple [p.1, p.2] := by
  have := zip_map (f := fun d : D => d) (g := fun d : D => d) xs ys
  rwa [List.map_id', List.map_id'] at this
theorem mem_zip_self {α : Type} {l : List α} {p : α × α} (h : p ∈ l.zip l) : p.1 = p.2 ∧ p.2 ∈ l := by
  obtain ⟨i, hi, e⟩ := List.getElem_of_mem h
  rw [List.length_zip] at hi
  rw [List.getElem_zip] at e
  rw [← e]
  exact ⟨rfl, List.getElem_mem _⟩
/-- data no deeper than k, no list over the line -/
def shq (k : Nat) (d : D) : Prop := match k, d with
  | _, .none => True
  | _, .bool _ => True
  | _, .int _ => True
  | _, .str s => plainStr s
  | k + 1, .list ds => ds.length ≤ 1000000 ∧ ∀ d ∈ ds, shq k d
  | k + 1, .tuple ds => ds.length ≤ 1000000 ∧ ∀ d ∈ ds, shq k d
  | _, _ => False
def shqL (k : Nat) (ds : List D) : Prop := ∀ d ∈ ds, shq k d
theorem shq_int (k : Nat) (i : Int) : shq k (.int i) = True := nr (by cases k <;> rfl)
theorem shq_bool (k : Nat) (i : Bool) : shq k (.bool i) = True := by cases k <;> rfl
theorem shq_none (k : Nat) : shq k .none = True := by cases k <;> rfl
theorem shq_list (k : Nat) (ds : List D) : shq (k + 1) (.list ds) = (ds.length ≤ 1000000 ∧ shqL k ds) := nr rfl
theorem shq_tuple (k : Nat) (ds : List D) : shq (k + 1) (.tuple ds) = (ds.length ≤ 1000000 ∧ shqL k ds) := nr rfl
theorem shql_nil (k : Nat) : shqL k [] = True := eq_true fun _ h => nomatch h
theorem shql_cons (k : Nat) (d : D) (ds : List D) : shqL k (d :: ds) = (shq k d ∧ shqL k ds) := by unfold shqL; simp
theorem shql_app (k : Nat) (as bs : List D) : shqL k (as ++ bs) = (shqL k as ∧ shqL k bs) := by
  unfold shqL
  exact propext ⟨fun z => ⟨fun d h => z d (List.mem_append_left _ h), fun d h => z d (List.mem_append_right _ h)⟩, fun z d h => (List.mem_append.mp h).elim (z.1 d) (z.2 d)⟩
theorem shql_map {α : Type} (k : Nat) (f : α → D) (xs : List α) : shqL k (xs.map f) = ∀ x ∈ xs, shq k (f x) := by unfold shqL; simp
theorem shq_shp : ∀ (k : Nat) (d : D), shq k d → shp k d
  | k, .none, _ => by rw [shp_none]; trivial
  | k, .bool _, _ => by rw [shp_bool]; trivial
  | k, .int _, _ => by rw [shp_int]; trivial
  | k, .str s, h => by
    have h' : plainStr s := by cases k <;> exact h
    rw [shp_str h']; trivial
  | k + 1, .list ds, h => by rw [shp_list]; exact fun d hd => shq_shp k d (h.2 d hd)
  | k + 1, .tuple ds, h => by rw [shp_tuple]; exact fun d hd => shq_shp k d (h.2 d hd)
  | 0, .list _, h => h.elim
  | 0, .tuple _, h => h.elim
  | 0, .dict _, h => h.elim
  | k + 1, .dict _, h => h.elim
theorem shq_mono : ∀ (k n : Nat) (d : D), k ≤ n → shq k d → shq n d
  | k, n, .none, _, _ => by rw [shq_none]; trivial
  | k, n, .bool _, _, _ => by rw [shq_bool]; trivial
  | k, n, .int _, _, _ => by rw [shq_int]; trivial
  | k, n, .str s, _, h => by
    have h' : plainStr s := by cases k <;> exact h
    cases n <;> exact h'
  | k + 1, n + 1, .list ds, l, h => ⟨h.1, fun d hd => shq_mono k n d (by omega) (h.2 d hd)⟩
  | k + 1, n + 1, .tuple ds, l, h => ⟨h.1, fun d hd => shq_mono k n d (by omega) (h.2 d hd)⟩
  | k + 1, 0, .list ds, l, h => by omega
  | k + 1, 0, .tuple ds, l, h => by omega
  | 0, _, .list _, _, h => h.elim
  | 0, _, .tuple _, _, h => h.elim
  | 0, _, .dict _, _, h => h.elim
  | k + 1, _, .dict _, _, h => h.elim
theorem str_eqv (s : Str) : PyData.eqv (.str s) (.str s) = true := by rw [PyData.eqv]; exact beq_self_eq_true s
theorem bool_eqv (s : Bool) : PyData.eqv (.bool s) (.bool s) = true := by rw [PyData.eqv]; exact beq_self_eq_true s
theorem none_eqv : PyData.eqv .none .none = true := rfl
theorem same_flat {n : Nat} {d : D} (h : shq 0 d) {Q : R → Sto → Prop} (q : Q (.frz (.bool true)) [none, none]) : wp ((f_law_same (n + 1)).sf [some (.frz d), some (.frz d)]) Q := by
  cases d with
  | none => simp_all? only [o_law_same, ↓u_law_same_0a_0a, ↓u_law_same_0a__1, ↓u_law_same_0a, ↓u_law_same_1a, ↓u_law_same__2, ↓u_law_same__1, ↓u_law_same, isTy, List.any_cons, List.any_nil, Bool.or_false, none_eqv, bool_eqv]; exact q
  | bool b => simp_all? only [o_law_same, ↓u_law_same_0a_0a, ↓u_law_same_0a__1, ↓u_law_same_0a, ↓u_law_same_1a, ↓u_law_same__2, ↓u_law_same__1, ↓u_law_same, isTy, List.any_cons, List.any_nil, Bool.or_false, Bool.or_true, none_eqv, bool_eqv]; exact q
  | int i => simp_all? only [o_law_same, ↓u_law_same_0a_0a, ↓u_law_same_0a__1, ↓u_law_same_0a, ↓u_law_same_1a, ↓u_law_same__2, ↓u_law_same__1, ↓u_law_same, isTy, List.any_cons, List.any_nil, Bool.or_false, none_eqv, bool_eqv]; exact q
  | str s =>
    have hs : plainStr s := h
    simp_all? only [o_law_same, ↓u_law_same_0a_0a, ↓u_law_same_0a__1, ↓u_law_same_0a, ↓u_law_same_1a, ↓u_law_same__2, ↓u_law_same__1, ↓u_law_same, isTy, List.any_cons, List.any_nil, Bool.or_false, Bool.or_true, none_eqv, bool_eqv, str_eqv, shp_str hs]; exact q
  | list l => exact h.elim
  | tuple l => exact h.elim
  | dict l => exact h.elim
theorem same_w : ∀ (n : Nat) (d : D), shq n d → ∀ Q : R → Sto → Prop, Q (.frz (.bool true)) [none, none] → wp ((f_law_same (n + 1)).sf [some (.frz d), some (.frz d)]) Q := by
  intro n
  induction n with
  | zero => exact fun d h Q q => same_flat h q
  | succ n ih =>
    intro d h Q q
    cases d with
    | none => exact same_flat (d := .none) trivial q
    | bool b => exact same_flat (d := .bool b) trivial q
    | int i => exact same_flat (d := .int i) trivial q
    | str s => exact same_flat (d := .str s) h q
    | dict l => exact h.elim
    | list l =>
      simp_all? only [o_law_same, ↓u_law_same_0a_0a, ↓u_law_same_0a__1, ↓u_law_same_0a, ↓u_law_same_1a, ↓u_law_same__2, ↓u_law_same__1, ↓u_law_same, isTy, List.any_cons, List.any_nil, Bool.or_false, Bool.or_true, none_eqv, bool_eqv, zip_raw]
      refine comp_map (G := fun p : D × D => .bool true) rfl (len_bound (by rw [List.length_zip]; have := h.1; omega)) (fun p hp => ?_) ?_
      · obtain ⟨e, m⟩ := mem_zip_self hp
        simp_all? only [k_law_same, e]
        refine ih _ (h.2 _ m) _ ?_
        simp_all? only [ns_1]
      · simp_all? only [ns_1]
        rw [List.all_eq_true.mpr (fun _ _ => rfl)]; exact q
    | tuple l =>
      simp_all? only [o_law_same, ↓u_law_same_0a_0a, ↓u_law_same_0a__1, ↓u_law_same_0a, ↓u_law_same_1a, ↓u_law_same__2, ↓u_law_same__1, ↓u_law_same, isTy, List.any_cons, List.any_nil, Bool.or_false, Bool.or_true, none_eqv, bool_eqv, zip_raw]
      refine comp_map (G := fun p : D × D => .bool true) rfl (len_bound (by rw [List.length_zip]; have := h.1; omega)) (fun p hp => ?_) ?_
      · obtain ⟨e, m⟩ := mem_zip_self hp
        simp_all? only [k_law_same, e]
        refine ih _ (h.2 _ m) _ ?_
        simp_all? only [ns_1]
      · simp_all? only [ns_1]
        rw [List.all_eq_true.mpr (fun _ _ => rfl)]; exact q
theorem W_same12 {d : D} (h : shq 11 d) (Q : R → Sto → Prop) : wp ((f_law_same 12).sf [some (.frz d), some (.frz d)]) Q = Q (.frz (.bool true)) [none, none] := wp_rw (fun Q q => same_w 11 d h Q q) Q
/-- the sorted row of three, the first no greater than the last -/
theorem sort3 {a b c : Int} (h : a ≤ c) : [a, b, c].mergeSort (fun x y => decide (x ≤ y)) = [min a b, max a (min b c), max b c] := by
  have tr : ∀ x y z : Int, decide (x ≤ y) = true → decide (y ≤ z) = true → decide (x ≤ z) = true := by simp; omega
  have to : ∀ x y : Int, (decide (x ≤ y) || decide (y ≤ x)) = true := by simp; omega
  refine List.Perm.eq_of_pairwise (le := fun x y : Int => decide (x ≤ y) = true) (fun x y _ _ h1 h2 => by simp at h1 h2; omega) (List.pairwise_mergeSort tr to _) (by simp; omega) ((List.mergeSort_perm _ _).trans ?_)
  by_cases h1 : b ≤ a
  · rw [show min a b = b by omega, show max a (min b c) = a by omega, show max b c = c by omega]
    exact List.Perm.swap _ _ _
  · by_cases h2 : b ≤ c
    · rw [show min a b = a by omega, show max a (min b c) = b by omega, show max b c = c by omega]
    · rw [show min a b = a by omega, show max a (min b c) = c by omega, show max b c = b by omega]
      exact (List.Perm.swap _ _ _).cons _
theorem sortD_int (l : List Int) : sortD (l.map .int) = (l.mergeSort fun x y => decide (x ≤ y)).map .int := by
  refine (List.map_mergeSort (fun a _ b _ => ?_)).symm
  exact (congrFun (congrFun (W.dataLe_int (fun x : Int => x)) a) b).symm
theorem sortOk_int {l : List Int} (h : l.length ≤ sizeLine) : sortOk (l.map .int) = true := by
  unfold sortOk
  rw [Bool.and_eq_true, Bool.and_eq_true, Bool.and_eq_true, Bool.or_eq_true]
  refine ⟨⟨⟨?_, .inr ?_⟩, ?_⟩, decide_eq_true (by rw [List.length_map]; exact h)⟩
  · simp [W.alike]
  · simp [noTup]
  · rw [List.all_map, List.all_eq_true]
    exact fun e _ => shaped_of (by rw [shp_int]; trivial)
theorem wl_sortI {l : List Int} (h : l.length ≤ sizeLine) {K : R → Prop} : wl (sortedR (.lst (l.map .int))) K = K (.lst ((l.mergeSort fun x y => decide (x ≤ y)).map .int)) := by
  unfold sortedR
  show wl (if sortOk (l.map .int) then some (R.lst (sortD (l.map .int))) else none) K = _
  rw [sortOk_int h, sortD_int]; rfl
theorem wl_sort3 {a b c : Int} (h : a ≤ c) {K : R → Prop} : wl (sortedR (.lst [.int a, .int b, .int c])) K = K (.lst [.int (min a b), .int (max a (min b c)), .int (max b c)]) := by
  have := wl_sortI (l := [a, b, c]) (show 3 ≤ sizeLine by decide) (K := K)
  rw [sort3 h] at this
  exact this
/-- the coming last of some, or a horse's -/
def lastH (h : Int) : List Int → Int
  | [] => h
  | c :: cs => lastH c cs
theorem lastH_snoc (c : Int) : ∀ (cs : List Int) (h : Int), lastH h (cs ++ [c]) = c
  | [], _ => rfl
  | d :: cs, _ => lastH_snoc c cs d
theorem next_snoc (l : Leg) (c : Int) : ∀ (cs : List Int) (h : Int), nextN l h (cs ++ [c]) = nextN l h cs ++ [c + rideN l (c - lastH h cs)]
  | [], _ => rfl
  | d :: cs, h => by rw [List.cons_append, nextN, next_snoc l c cs d, nextN, lastH]; rfl
theorem W_law_books {r : Road} {b : List Int} (hr : ∀ l ∈ r.legs, LegOk l) (hrl : r.legs.length < 1000000) (hb : b.length < 1000000) (Q : R → Sto → Prop) : wp (f_law_books.sf [some (.frz (roadD r)), some (.frz (.tuple (b.map .int)))]) Q = Q (.lst ((booksN r.ps b).map intsD)) [none, none] := by
  refine wp_rw (fun Q q => ?_) Q
  simp_all? only [o_law_books, ↓u_law_books_1a_1a__1, ↓u_law_books_1a_1a, ↓u_law_books_1a__2, ↓u_law_books_1a__1, ↓u_law_books_1a, ↓u_law_books__2, ↓u_law_books__1, ↓u_law_books]
  refine for_inv (ys := r.ps) (fun pre ρ' => ∃ x3 x4 x5 x6, ρ' = [some (.frz (roadD r)), some (.frz (.tuple (b.map .int))), some (.mut .clean false ((booksN pre b).map intsD)), x3, x4, x5, x6] ∧ fr x3 = true ∧ fr x4 = true ∧ fr x5 = true ∧ fr x6 = true) rfl ⟨none, none, none, none, rfl, rfl, rfl, rfl, rfl⟩ ?_ ?_
  · rintro pre ⟨l, f⟩ post ρ e ⟨x3, x4, x5, x6, rfl, h3, h4, h5, h6⟩
    have hm : (l, f) ∈ r.ps := by rw [e]; simp
    have hl := ps_ok hr _ hm
    have hp : pre.length < 1000000 := by
      have := congrArg List.length e
      unfold Road.ps at this
      simp at this; omega
    simp_all? [o_law_books, ↓u_law_books_1a_1a__1, ↓u_law_books_1a_1a, ↓u_law_books_1a__2, ↓u_law_books_1a__1, ↓u_law_books_1a, ↓u_law_books__2, ↓u_law_books__1, ↓u_law_books, h3, h4, h5, h6, ix_books, books_len]
    refine ⟨⟨by omega, by omega⟩, ?_⟩
    refine for_inv (ys := bookN pre b) (fun p ρ' => ∃ x6, ρ' = [some (.frz (roadD r)), some (.frz (.tuple (b.map .int))), some (.mut .clean false ((booksN pre b).map intsD)), some (.frz (legD l)), some (.frz (.int (lastH f p))), some (.mut .clean false ((nextN l f p).map .int)), x6] ∧ fr x6 = true) rfl ⟨x6, rfl, h6⟩ ?_ ?_
    · rintro p c q ρ e' ⟨x6, rfl, h6⟩
      have hq : p.length < 1000000 := by
        have := congrArg List.length e'
        rw [book_len] at this
        simp at this; omega
      have h13 : l.least ≤ l.most := hl.2.1
      simp_all? [o_law_books, ↓u_law_books_1a_1a__1, ↓u_law_books_1a_1a, ↓u_law_books_1a__2, ↓u_law_books_1a__1, ↓u_law_books_1a, ↓u_law_books__2, ↓u_law_books__1, ↓u_law_books, h6, wl_sort3 h13]
      have hmid : max l.least (min (l.full - (c - lastH f p)) l.most) = rideN l (c - lastH f p) := by
        unfold LegOk at hl; simp only at hl; unfold rideN heldN; omega
      refine ⟨by rw [next_len]; omega, some (.frz (.int c)), ?_, rfl⟩
      rw [next_snoc, lastH_snoc, hmid, List.map_append]
      rfl
    · rintro ρ ⟨x6, rfl, h6⟩
      simp_all? [o_law_books, ↓u_law_books_1a_1a__1, ↓u_law_books_1a_1a, ↓u_law_books_1a__2, ↓u_law_books_1a__1, ↓u_law_books_1a, ↓u_law_books__2, ↓u_law_books__1, ↓u_law_books, h6]
      have e2 : (booksN pre b).map intsD ++ [.list ((nextN l f (bookN pre b)).map .int)] = (booksN (pre ++ [(l, f)]) b).map intsD := by
        rw [books_snoc, List.map_append, book_snoc]; rfl
      rw [e2]
      exact ⟨by rw [books_len]; omega, _, _, _, _, rfl, rfl, rfl, rfl, h6⟩
  · rintro ρ ⟨x3, x4, x5, x6, rfl, h3, h4, h5, h6⟩
    simp_all? [o_law_books, ↓u_law_books_1a_1a__1, ↓u_law_books_1a_1a, ↓u_law_books_1a__2, ↓u_law_books_1a__1, ↓u_law_books_1a, ↓u_law_books__2, ↓u_law_books__1, ↓u_law_books, h3, h4, h5, h6]
    exact q
end Rx
set_option Elab.async false
set_option linter.all false
set_option maxHeartbeats 4000000
/-! SpX3: tables of comings; riders behind riders -/
namespace Rx
open PySem PySem.Spec L2
theorem comings_eq {r : Road} {b : List Int} (hr : r.legs.length = r.firsts.length) : comingsN r b = (List.range b.length).map fun i => (List.range (r.legs.length + 1)).map fun k => comeN r b (i : Nat) (k : Nat) := by
  unfold comingsN
  refine List.map_congr_left fun i hi => ?_
  refine List.ext_getElem (by rw [List.length_map, List.length_map, List.length_range, books_len, ps_len hr]) fun k h1 h2 => ?_
  rw [List.length_map, List.length_range] at h2
  rw [List.getElem_map, List.getElem_map, List.getElem_range]
  have := ix_books_at r.ps b (k := (k : Int)) (by omega) (by rw [ps_len hr]; omega)
  rw [ix_get (by rw [books_len, ps_len hr]; omega)] at this
  rw [this]
  rfl
theorem lastH_ix : ∀ {b : List Int} {h : Int}, 0 < b.length → lastH h b = ix b ((b.length : Int) - 1)
  | [], h, l => by simp at l
  | [c], h, _ => ix_cons_z.symm
  | c :: d :: b, h, _ => by
    have hl : (c :: d :: b).length = b.length + 2 := rfl
    have hl' : (d :: b).length = b.length + 1 := rfl
    rw [lastH, lastH_ix (by simp), ix_cons_s (a := c) (by omega)]
    congr 1; omega
theorem next_app (l : Leg) (c : List Int) : ∀ (a : List Int) (h : Int), nextN l h (a ++ c) = nextN l h a ++ nextN l (lastH h a) c
  | [], _ => rfl
  | x :: a, h => by rw [List.cons_append, nextN, next_app l c a x, nextN, lastH]; rfl
/-- the legs, each with the last coming to it -/
def lastPs : List (Leg × Int) → List Int → List (Leg × Int)
  | [], _ => []
  | p :: ps, b => (p.1, lastH p.2 b) :: lastPs ps (nextN p.1 p.2 b)
theorem lastPs_len : ∀ (ps : List (Leg × Int)) (b : List Int), (lastPs ps b).length = ps.length
  | [], _ => rfl
  | p :: ps, b => congrArg Nat.succ (lastPs_len ps _)
theorem book_app : ∀ (ps : List (Leg × Int)) (a c : List Int), bookN ps (a ++ c) = bookN ps a ++ bookN (lastPs ps a) c
  | [], _, _ => rfl
  | p :: ps, a, c => by rw [bookN, next_app, book_app ps]; rfl
theorem lastPs_take : ∀ (k : Nat) (ps : List (Leg × Int)) (a : List Int), (lastPs ps a).take k = lastPs (ps.take k) a
  | 0, _, _ => rfl
  | k + 1, [], _ => rfl
  | k + 1, p :: ps, a => by rw [lastPs, List.take_succ_cons, lastPs_take k ps, List.take_succ_cons]; rfl
/-- .. the road on which riders behind ride as by themselves -/
theorem lastPs_eq {n : Nat} (hn : 0 < n) : ∀ (ps : List (Leg × Int)) (a : List Int), a.length = n → (ps.map (·.1)).zip (((booksN ps a).map fun c => ix c ((n : Int) - 1)).dropLast) = lastPs ps a
  | [], _, _ => rfl
  | p :: ps, a, h => by
    have ih := lastPs_eq hn ps (nextN p.1 p.2 a) (by rw [next_len]; exact h)
    have ne : (booksN ps (nextN p.1 p.2 a)).map (fun c => ix c ((n : Int) - 1)) ≠ [] := by
      intro z
      have := congrArg List.length z
      rw [List.length_map, books_len] at this
      cases this
    rw [booksN, List.map_cons, List.map_cons, List.dropLast_cons_of_ne_nil ne, List.zip_cons_cons, ih, lastPs, lastH_ix (by omega), h]
theorem ps_fst {r : Road} (hr : r.legs.length = r.firsts.length) : r.ps.map (·.1) = r.legs := List.map_fst_zip (by omega)
/-- riders behind some -/
def behind (r : Road) (a : List Int) : Road := ⟨r.legs, (ix (comingsN r a) (-1)).dropLast⟩
theorem behind_row {r : Road} {a : List Int} (ha : 0 < a.length) : ix (comingsN r a) (-1) = (booksN r.ps a).map fun c => ix c ((a.length : Int) - 1) := by
  rw [ix_neg1 (by rw [comings_len]; exact ha), comings_len, ix_comings (by omega) (by omega)]
theorem behind_ps {r : Road} {a : List Int} (hr : r.legs.length = r.firsts.length) (ha : 0 < a.length) : (behind r a).ps = lastPs r.ps a := by
  unfold behind Road.ps
  rw [behind_row ha]
  have := lastPs_eq ha r.ps a rfl
  rw [ps_fst hr] at this
  exact this
theorem behind_len {r : Road} {a : List Int} (hr : r.legs.length = r.firsts.length) (ha : 0 < a.length) : (behind r a).firsts.length = r.legs.length := by
  unfold behind
  rw [behind_row ha, List.length_dropLast, List.length_map, books_len, ps_len hr]; omega
theorem behind_first {r : Road} {a : List Int} {k : Int} (hr : r.legs.length = r.firsts.length) (ha : 0 < a.length) (hk : 0 ≤ k) (hk' : k < r.legs.length) : ix (behind r a).firsts k = comeN r a ((a.length : Int) - 1) k := by
  obtain ⟨n, rfl⟩ := Int.eq_ofNat_of_zero_le hk
  have hl := behind_len hr ha
  have e := ix_told (b := a) (i := (a.length : Int) - 1) (k := (n : Int)) hr (by omega) (by omega) hk (by omega)
  rw [← comings_len r a, ← ix_neg1 (by rw [comings_len]; exact ha), comings_len] at e
  rw [← e]
  have h2 : n < (behind r a).firsts.length := by omega
  rw [ix_get h2]
  unfold behind at h2 ⊢
  simp only at h2 ⊢
  rw [List.getElem_dropLast, ← ix_get]
theorem ix_app_l {α : Type} [Inhabited α] {a c : List α} {i : Int} (h : 0 ≤ i) (h' : i < a.length) : ix (a ++ c) i = ix a i := by
  obtain ⟨n, rfl⟩ := Int.eq_ofNat_of_zero_le h
  rw [ix_get (by rw [List.length_append]; omega), ix_get (by omega), List.getElem_append_left (by omega)]
theorem ix_app_r {α : Type} [Inhabited α] {a c : List α} {i : Int} (h : 0 ≤ i) (h' : i < c.length) : ix (a ++ c) ((a.length : Int) + i) = ix c i := by
  obtain ⟨n, rfl⟩ := Int.eq_ofNat_of_zero_le h
  rw [show (a.length : Int) + (n : Int) = ((a.length + n : Nat) : Int) by omega, ix_get (by rw [List.length_append]; omega), ix_get (by omega), List.getElem_append_right (by omega)]
  congr 1; omega
theorem come_app_l {r : Road} {a c : List Int} {i k : Int} (hi : 0 ≤ i) (hi' : i < a.length) : comeN r (a ++ c) i k = comeN r a i k := by
  unfold comeN
  rw [book_app, ix_app_l hi (by rw [book_len]; exact hi')]
theorem come_app_r {r : Road} {a c : List Int} {i k : Int} (hr : r.legs.length = r.firsts.length) (ha : 0 < a.length) (hi : 0 ≤ i) (hi' : i < c.length) : comeN r (a ++ c) ((a.length : Int) + i) k = comeN (behind r a) c i k := by
  unfold comeN
  have e : (bookN (r.ps.take k.toNat) a).length = a.length := book_len _ _
  rw [book_app, behind_ps hr ha, lastPs_take, ← e, ix_app_r hi (by rw [book_len]; exact hi')]
/-- both lots told at once -/
theorem comings_app {r : Road} {a c : List Int} (hr : r.legs.length = r.firsts.length) (ha : 0 < a.length) : comingsN r (a ++ c) = comingsN r a ++ comingsN (behind r a) c := by
  rw [comings_eq hr, comings_eq hr, comings_eq (r := behind r a) (by rw [behind_len hr ha]; rfl), List.length_append, show List.range (a.length + c.length) = List.range a.length ++ (List.range c.length).map (a.length + ·) from List.range_add, List.map_append, List.map_map]
  congr 1
  · refine List.map_congr_left fun i hi => List.map_congr_left fun k _ => come_app_l (by omega) (by have := List.mem_range.mp hi; omega)
  · refine List.map_congr_left fun i hi => List.map_congr_left fun k _ => ?_
    have := List.mem_range.mp hi
    rw [← come_app_r hr ha (by omega) (by omega)]
    congr 1
theorem stand_app_r {r : Road} {a c : List Int} {i k : Int} (hr : r.legs.length = r.firsts.length) (ha : 0 < a.length) (hi : 0 ≤ i) (hi' : i < c.length) (hk : 0 ≤ k) (hk' : k < r.legs.length) : standN r (a ++ c) ((a.length : Int) + i) k = standN (behind r a) c i k := by
  unfold standN horseN
  rw [come_app_r hr ha hi hi', if_pos (by omega)]
  by_cases z : 0 < i
  · rw [if_pos z, show (a.length : Int) + i - 1 = a.length + (i - 1) by omega, come_app_r hr ha (by omega) (by omega)]
  · rw [if_neg z, show (a.length : Int) + i - 1 = a.length - 1 by omega, come_app_l (by omega) (by omega), behind_first hr ha hk hk']
theorem flat_app {beat : Int} {n : Nat} : ∀ (ps : List (Leg × Int)) (a c : List Int) (s : Nat), a.length = n →
    (((booksN ps (a ++ c)).zipIdx s).flatMap (evAt beat)).filter (fun e => decide (e.2.2 < (n : Int))) = ((booksN ps a).zipIdx s).flatMap (evAt beat) := by
  have one : ∀ (a c : List Int) (s : Nat), a.length = n → (evAt beat (a ++ c, s)).filter (fun e => decide (e.2.2 < (n : Int))) = evAt beat (a, s) := by
    intro a c s h
    unfold evAt
    rw [List.zipIdx_append, List.filter_append, List.map_append, List.filter_append]
    have f1 : ((((a.zipIdx 0).filter fun q => decide (q.1 ≤ beat)).map fun q => ((q.1, (s : Int), (q.2 : Int)) : Ev)).filter fun e => decide (e.2.2 < (n : Int))) = ((a.zipIdx 0).filter fun q => decide (q.1 ≤ beat)).map fun q => ((q.1, (s : Int), (q.2 : Int)) : Ev) := by
      rw [List.filter_eq_self]
      intro e he
      obtain ⟨q, hq, rfl⟩ := List.mem_map.mp he
      have := List.snd_lt_of_mem_zipIdx (List.mem_filter.mp hq).1
      simp; omega
    have f2 : ((((c.zipIdx (0 + a.length)).filter fun q => decide (q.1 ≤ beat)).map fun q => ((q.1, (s : Int), (q.2 : Int)) : Ev)).filter fun e => decide (e.2.2 < (n : Int))) = [] := by
      rw [List.filter_eq_nil_iff]
      intro e he
      obtain ⟨q, hq, rfl⟩ := List.mem_map.mp he
      have := List.le_snd_of_mem_zipIdx (List.mem_filter.mp hq).1
      simp; omega
    rw [f1, f2, List.append_nil]
  intro ps
  induction ps with
  | nil =>
    intro a c s h
    rw [booksN, booksN, List.zipIdx_cons, List.zipIdx_cons, List.flatMap_cons, List.flatMap_cons, List.zipIdx_nil, List.flatMap_nil, List.append_nil, List.append_nil]
    exact one a c s h
  | cons p ps ih =>
    intro a c s h
    rw [booksN, booksN, List.zipIdx_cons, List.zipIdx_cons, List.flatMap_cons, List.flatMap_cons, List.filter_append, one a c s h, next_app, ih _ _ _ (by rw [next_len]; exact h)]
/-- events of the first lot among those of both -/
theorem evs_app {r : Road} {a c : List Int} {beat : Int} : (evsN r (a ++ c) beat).filter (fun e => decide (e.2.2 < (a.length : Int))) = evsN r a beat := by
  unfold evsN
  rw [sortE_filter]
  unfold evAll
  rw [flat_app r.ps a c 0 rfl]
theorem evs_bound {r : Road} {b : List Int} {beat : Int} : (evsN r b beat).length ≤ (r.ps.length + 1) * b.length := by
  unfold evsN
  rw [sortE_len]
  have h1 := flat_len (beat := beat) (m := b.length) (booksN r.ps b).zipIdx (fun p hp => Nat.le_of_eq (books_all_len r.ps b p.1 (List.fst_mem_of_mem_zipIdx hp)))
  rw [List.length_zipIdx, books_len] at h1
  exact h1
end Rx
set_option Elab.async false
set_option linter.all false
set_option maxHeartbeats 4000000
/-! SpX4: who sets out later comes later, by no more -/
namespace Rx
open PySem PySem.Spec L2
theorem list_ext_ix {b c : List Int} (hl : b.length = c.length) (h : ∀ i : Nat, i < b.length → ix b i = ix c i) : b = c := by
  refine List.ext_getElem hl fun i h1 h2 => ?_
  have := h i h1
  rwa [ix_get h1, ix_get h2] at this
theorem sl_last1 {α : Type} {l : List α} {y : α} : sl (l ++ [y]) (some (-1)) none = [y] := by
  unfold sl
  have e : HT.sIx (l ++ [y]).length 0 (some (-1)) = l.length := by
    show (if (-1 : Int) < 0 then ((-1 : Int) + ((l ++ [y]).length : Int)).toNat else min (-1 : Int).toNat (l ++ [y]).length) = _
    rw [if_pos (by omega), List.length_append, List.length_singleton]; omega
  rw [HT.sIx_none, e, List.drop_left, List.length_append, List.length_singleton, Nat.add_sub_cancel_left]; rfl
theorem sl_last0 {α : Type} : sl ([] : List α) (some (-1)) none = [] := rfl
theorem wl_max1 {x : Int} {K : R → Prop} : wl (foldR max (.lst [.int x])) K = K (.frz (.int x)) := by
  have := max_o (xs := [x]) (K := K)
  rw [show (.lst [.int x] : R) = .lst ([x].map .int) from rfl, this]
  exact propext ⟨fun z => z.2, fun z => ⟨by simp, z⟩⟩
theorem wl_max2 {x y : Int} {K : R → Prop} : wl (foldR max (.lst [.int x, .int y])) K = K (.frz (.int (max x y))) := by
  have := max_o (xs := [x, y]) (K := K)
  rw [show (.lst [.int x, .int y] : R) = .lst ([x, y].map .int) from rfl, this]
  exact propext ⟨fun z => z.2, fun z => ⟨by simp, z⟩⟩
theorem ix_snoc_l {l : List Int} {y : Int} {i : Nat} (h : i < l.length) : ix (l ++ [y]) i = ix l i := ix_app_l (by omega) (by omega)
theorem ix_snoc_r {l : List Int} {y : Int} {i : Nat} (h : i = l.length) : ix (l ++ [y]) i = y := by
  subst h
  have := ix_app_r (a := l) (c := [y]) (i := 0) (by omega) (by simp)
  rw [Int.add_zero] at this
  rw [this, ix_cons_z]
theorem come_next_mid {r : Road} {b : List Int} {i k : Int} (hr : r.legs.length = r.firsts.length) (h : ∀ l ∈ r.legs, LegOk l) (hi : 0 ≤ i) (hi' : i < b.length) (hk : 0 ≤ k) (hk' : k < r.legs.length) :
    comeN r b i (k + 1) = max (comeN r b i k + (ix r.legs k).least) (min (horseN r b i k + (ix r.legs k).full) (comeN r b i k + (ix r.legs k).most)) := by
  rw [come_succ hr hi hi' hk hk']
  exact ride_mid (h _ (ix_mem hk hk')) _ _
/-- later by no more than M, of the riders to m -/
theorem come_near {r s : Road} {b c : List Int} {M : Int} {m : Nat} (hr : r.legs.length = r.firsts.length) (hs : s.legs.length = s.firsts.length) (hl : s.legs = r.legs) (h : ∀ l ∈ r.legs, LegOk l)
    (hm : m < b.length) (hm' : m < c.length) (hb : ∀ i : Nat, i ≤ m → 0 ≤ ix c i - ix b i ∧ ix c i - ix b i ≤ M) (hf : ∀ k : Nat, k < r.legs.length → 0 ≤ ix s.firsts k - ix r.firsts k ∧ ix s.firsts k - ix r.firsts k ≤ M) :
    ∀ k : Nat, k ≤ r.legs.length → ∀ i : Nat, i ≤ m → 0 ≤ comeN s c i k - comeN r b i k ∧ comeN s c i k - comeN r b i k ≤ M := by
  intro k
  induction k with
  | zero => intro _ i hi; exact hb i hi
  | succ k ih =>
    intro hk i hi
    have e1 := come_next_mid (b := b) (i := (i : Int)) (k := (k : Int)) hr h (by omega) (by omega) (by omega) (by omega)
    have e2 := come_next_mid (b := c) (i := (i : Int)) (k := (k : Int)) hs (by rw [hl]; exact h) (by omega) (by omega) (by omega) (by rw [hl]; omega)
    rw [hl] at e2
    have c1 := ih (by omega) i hi
    rw [show ((k + 1 : Nat) : Int) = (k : Int) + 1 from rfl]
    have hh : 0 ≤ horseN s c i k - horseN r b i k ∧ horseN s c i k - horseN r b i k ≤ M := by
      unfold horseN
      by_cases z : 0 < (i : Int)
      · rw [if_pos z, if_pos z]
        have := ih (by omega) (i - 1) (by omega)
        rw [show ((i - 1 : Nat) : Int) = (i : Int) - 1 by omega] at this
        exact this
      · rw [if_neg z, if_neg z]
        exact hf k (by omega)
    omega
theorem stand_near {r s : Road} {b c : List Int} {M : Int} {m k : Nat} (hr : r.legs.length = r.firsts.length) (hs : s.legs.length = s.firsts.length) (hl : s.legs = r.legs) (h : ∀ l ∈ r.legs, LegOk l)
    (hm : m < b.length) (hm' : m < c.length) (hb : ∀ i : Nat, i ≤ m → 0 ≤ ix c i - ix b i ∧ ix c i - ix b i ≤ M) (hf : ∀ k : Nat, k < r.legs.length → 0 ≤ ix s.firsts k - ix r.firsts k ∧ ix s.firsts k - ix r.firsts k ≤ M) (hk : k < r.legs.length) :
    standN r b m k - standN s c m k ≤ M ∧ -M ≤ standN r b m k - standN s c m k := by
  have c1 := come_near hr hs hl h hm hm' hb hf k (by omega) m (Nat.le_refl _)
  have hh : 0 ≤ horseN s c m k - horseN r b m k ∧ horseN s c m k - horseN r b m k ≤ M := by
    unfold horseN
    by_cases z : 0 < (m : Int)
    · rw [if_pos z, if_pos z]
      have := come_near hr hs hl h hm hm' hb hf k (by omega) (m - 1) (by omega)
      rw [show ((m - 1 : Nat) : Int) = (m : Int) - 1 by omega] at this
      exact this
    · rw [if_neg z, if_neg z]
      exact hf k (by omega)
  unfold standN
  omega
theorem ix_books_come {r : Road} {b : List Int} {i k : Int} (hr : r.legs.length = r.firsts.length) (hk : 0 ≤ k) (hk' : k ≤ r.legs.length) : ix (ix (booksN r.ps b) k) i = comeN r b i k := by
  rw [ix_books_at _ _ hk (by rw [ps_len hr]; exact hk')]; rfl
theorem ix_books_len {r : Road} {b : List Int} {k : Int} (hr : r.legs.length = r.firsts.length) (hk : 0 ≤ k) (hk' : k ≤ r.legs.length) : (ix (booksN r.ps b) k).length = b.length := by
  rw [ix_books_at _ _ hk (by rw [ps_len hr]; exact hk'), book_len]
end Rx
set_option Elab.async false
set_option linter.all false
set_option maxHeartbeats 4000000
/-! SpY: what repr tells -/
namespace Rx
open PySem PySem.Spec L2
/-- a plain text of n signs at most -/
def Tx (n : Nat) (s : Str) : Prop := s.length ≤ n ∧ ∀ c ∈ s.cps.toList, c < 128
theorem tx_mono {m n : Nat} {s : Str} (h : Tx m s) (l : m ≤ n) : Tx n s := ⟨Nat.le_trans h.1 l, h.2⟩
theorem tx_app {m n : Nat} {s t : Str} (h : Tx m s) (h' : Tx n t) : Tx (m + n) (s ++ t) := by
  refine ⟨?_, fun c hc => ?_⟩
  · show (s.cps ++ t.cps).size ≤ _
    rw [Array.size_append]
    exact Nat.add_le_add h.1 h'.1
  · have hc : c ∈ (s.cps ++ t.cps).toList := hc
    rw [Array.toList_append] at hc
    exact (List.mem_append.mp hc).elim (h.2 c) (h'.2 c)
theorem tx_plain {n : Nat} {s : Str} (h : Tx n s) : plainStr s := by
  refine ⟨?_, Nat.zero_le _⟩
  show PyData.strOk s = true
  unfold PyData.strOk
  rw [Array.all_eq_true]
  intro i hi
  have := h.2 s.cps[i] (by simp)
  simp; omega
theorem tx_int {i : Int} (h : i.natAbs.log2 < 1920) : Tx 1921 (PySem.Str.ofString (toString i)) := by
  refine ⟨PyProof.Rows.int_text_len_1921 h, fun c hc => ?_⟩
  exact W.KSb.asc_num i c hc
theorem tx_lit (s : Str) (n : Nat) (h : decide (s.length ≤ n) = true) (h' : s.cps.toList.all (· < 128) = true) : Tx n s := ⟨of_decide_eq_true h, fun c hc => of_decide_eq_true (List.all_eq_true.mp h' c hc)⟩
theorem tx_from {n : Nat} : ∀ (ts : List Str) (k m : Nat) (acc : Str), (∀ t ∈ ts, Tx n t) → Tx m acc → Tx (m + ts.length * (n + 2)) (PySem.textFrom k acc ts)
  | [], k, m, acc, _, h => by rw [PySem.textFrom, List.length_nil, Nat.zero_mul]; exact h
  | t :: ts, k, m, acc, ht, h => by
    rw [PySem.textFrom, List.length_cons, Nat.add_mul, Nat.one_mul, Nat.add_comm (ts.length * (n + 2)), ← Nat.add_assoc]
    refine tx_from ts (k + 1) (m + (n + 2)) _ (fun u hu => ht u (List.mem_cons_of_mem _ hu)) ?_
    have h1 : Tx 2 (PySem.Str.ofString (if k > 0 then ", " else "" : String)) := by
      split
      · exact tx_lit _ _ (by decide +kernel) (by decide +kernel)
      · exact tx_lit _ _ (by decide +kernel) (by decide +kernel)
    exact tx_mono (tx_app (tx_app h h1) (ht t List.mem_cons_self)) (by omega)
theorem tx_join {n : Nat} : ∀ ts : List Str, (∀ t ∈ ts, Tx n t) → Tx (ts.length * (n + 2)) (PySem.Str.join (PySem.Str.ofString ", ") ts)
  | [], _ => by rw [PySem.Str.join]; exact ⟨Nat.zero_le _, fun c hc => by simp [PySem.Str.empty] at hc⟩
  | [x], h => by rw [PySem.Str.join]; exact tx_mono (h x (by simp)) (by simp)
  | x :: y :: r, h => by
    have ih := tx_join (y :: r) fun t ht => h t (List.mem_cons_of_mem _ ht)
    have h1 : Tx 2 (PySem.Str.ofString ", ") := tx_lit _ _ (by decide +kernel) (by decide +kernel)
    rw [PySem.Str.join]
    · exact tx_mono (tx_app (tx_app (h x List.mem_cons_self) h1) ih) (by rw [List.length_cons (a := x), Nat.add_mul]; omega)
    · intro z; cases z
/-- data whose text is plain, of n signs at most -/
def Rp (n : Nat) (d : D) : Prop := d.showable = true ∧ Tx n d.shown
theorem rp_mono {m n : Nat} {d : D} (h : Rp m d) (l : m ≤ n) : Rp n d := ⟨h.1, tx_mono h.2 l⟩
theorem rp_int {i : Int} (h : -18446744073709551616 < i) (h' : i < 18446744073709551616) : Rp 1921 (.int i) := by
  have hl : i.natAbs.log2 < 1920 := by
    by_cases z : i.natAbs = 0
    · rw [z]; decide
    · rw [Nat.log2_lt z]
      exact Nat.lt_of_lt_of_le (m := 2 ^ 64) (show i.natAbs < 18446744073709551616 by omega) (Nat.pow_le_pow_right (by omega) (by omega))
  refine ⟨by rw [PyData.showable]; exact decide_eq_true hl, ?_⟩
  rw [PyData.shown_int]
  exact tx_int hl
theorem showAll {ds : List D} (h : ∀ d ∈ ds, d.showable = true) : PyData.showableAll ds = true := by
  induction ds with
  | nil => rfl
  | cons d ds ih => rw [PyData.showableAll, Bool.and_eq_true]; exact ⟨h d List.mem_cons_self, ih fun e he => h e (List.mem_cons_of_mem _ he)⟩
theorem shownAll_map (ds : List D) : PyData.shownAll ds = ds.map PyData.shown := by
  induction ds with
  | nil => rfl
  | cons d ds ih => rw [PyData.shownAll, ih]; rfl
theorem rp_list {n : Nat} {ds : List D} (h : ∀ d ∈ ds, Rp n d) : Rp (ds.length * (n + 2) + 2) (.list ds) := by
  refine ⟨by rw [PyData.showable]; exact showAll fun d hd => (h d hd).1, ?_⟩
  rw [PyData.shown, shownAll_map]
  unfold PySem.listText
  have h1 : Tx 1 (PySem.Str.ofString "[") := tx_lit _ _ (by decide +kernel) (by decide +kernel)
  have h2 : Tx 1 (PySem.Str.ofString "]") := tx_lit _ _ (by decide +kernel) (by decide +kernel)
  have h3 := tx_from (n := n) (ds.map PyData.shown) 0 1 _ (fun t ht => by obtain ⟨d, hd, rfl⟩ := List.mem_map.mp ht; exact (h d hd).2) h1
  rw [List.length_map] at h3
  exact tx_mono (tx_app h3 h2) (by omega)
theorem rp_tuple {n : Nat} {ds : List D} (h : ∀ d ∈ ds, Rp n d) : Rp (ds.length * (n + 2) + 3) (.tuple ds) := by
  refine ⟨by rw [PyData.showable]; exact showAll fun d hd => (h d hd).1, ?_⟩
  rw [PyData.shown, shownAll_map]
  unfold PySem.tupleText
  have h1 : Tx 1 (PySem.Str.ofString "(") := tx_lit _ _ (by decide +kernel) (by decide +kernel)
  have h2 : Tx 2 (PySem.Str.ofString (if (ds.map PyData.shown).length == 1 then ",)" else ")" : String)) := by
    split
    · exact tx_lit _ _ (by decide +kernel) (by decide +kernel)
    · exact tx_lit _ _ (by decide +kernel) (by decide +kernel)
  have h3 := tx_join (n := n) (ds.map PyData.shown) (fun t ht => by obtain ⟨d, hd, rfl⟩ := List.mem_map.mp ht; exact (h d hd).2)
  rw [List.length_map] at h3
  exact tx_mono (tx_app (tx_app h1 h3) h2) (by omega)
theorem wl_reprL {n : Nat} {ds : List D} (h : Rp n (.list ds)) (hs : shp 64 (.list ds)) (hn : n ≤ 16777216) {K : R → Prop} : wl (reprR (.lst ds)) K = K (.frz (.str (PyData.list ds).shown)) := by
  unfold reprR
  show wl (if ((PyData.list ds).showable && SeqAt.shaped (.list ds) && decide ((PyData.list ds).shown.length ≤ sizeLine)) = true then _ else none) K = _
  rw [wl_ite_s, h.1, shaped_of hs, decide_eq_true (show (PyData.list ds).shown.length ≤ sizeLine from Nat.le_trans h.2.1 hn)]
  exact propext ⟨fun z => z.2, fun z => ⟨rfl, z⟩⟩
/-- a road and riders as a text -/
def rbText (r : Road) (b : List Int) : Str := (PyData.list [roadD r, .tuple (b.map .int)]).shown
theorem rp_ints {xs : List Int} (h : ∀ x ∈ xs, -1000000000000 ≤ x ∧ x ≤ 1000000000000) (hl : xs.length ≤ 1000) : Rp 1923003 (.tuple (xs.map .int)) := by
  have h1 := rp_tuple (n := 1921) (ds := xs.map .int) (fun d hd => by
    obtain ⟨x, hx, rfl⟩ := List.mem_map.mp hd
    have := h x hx
    exact rp_int (by omega) (by omega))
  rw [List.length_map] at h1
  exact rp_mono h1 (by omega)
theorem rp_leg {l : Leg} (h : LegOk l) : Rp 5772 (legD l) := by
  unfold LegOk at h
  refine rp_mono (rp_tuple (n := 1921) (ds := [.int l.full, .int l.least, .int l.most]) fun d hd => ?_) (by simp only [List.length_cons, List.length_nil]; omega)
  rcases List.mem_cons.mp hd with rfl | hd
  · exact rp_int (by omega) (by omega)
  rcases List.mem_cons.mp hd with rfl | hd
  · exact rp_int (by omega) (by omega)
  rw [List.mem_singleton.mp hd]
  exact rp_int (by omega) (by omega)
theorem rp_road {r : Road} (h : ∀ l ∈ r.legs, LegOk l) (hl : r.legs.length ≤ 100) (hf : ∀ f ∈ r.firsts, -1000000000000 ≤ f ∧ f ≤ 1000000000000) (hfl : r.firsts.length ≤ 1000) : Rp 3846013 (roadD r) := by
  have h1 := rp_tuple (n := 5772) (ds := r.legs.map legD) (fun d hd => by obtain ⟨l, hl, rfl⟩ := List.mem_map.mp hd; exact rp_leg (h l hl))
  rw [List.length_map] at h1
  refine rp_mono (rp_tuple (n := 1923003) (ds := [.tuple (r.legs.map legD), .tuple (r.firsts.map .int)]) fun d hd => ?_) (by simp only [List.length_cons, List.length_nil]; omega)
  rcases List.mem_cons.mp hd with rfl | hd
  · exact rp_mono h1 (by omega)
  rw [List.mem_singleton.mp hd]
  exact rp_ints hf hfl
theorem rp_rb {r : Road} {b : List Int} (h : ∀ l ∈ r.legs, LegOk l) (hl : r.legs.length ≤ 100) (hf : ∀ f ∈ r.firsts, -1000000000000 ≤ f ∧ f ≤ 1000000000000) (hfl : r.firsts.length ≤ 1000) (hb : ∀ x ∈ b, -1000000000000 ≤ x ∧ x ≤ 1000000000000) (hbl : b.length ≤ 1000) : Rp 7692032 (.list [roadD r, .tuple (b.map .int)]) := by
  refine rp_mono (rp_list (n := 3846013) (ds := [roadD r, .tuple (b.map .int)]) fun d hd => ?_) (by simp only [List.length_cons, List.length_nil]; omega)
  rcases List.mem_cons.mp hd with rfl | hd
  · exact rp_road h hl hf hfl
  rw [List.mem_singleton.mp hd]
  exact rp_mono (rp_ints hb hbl) (by omega)
theorem shp_rb (r : Road) (b : List Int) : shp 64 (.list [roadD r, .tuple (b.map .int)]) := by
  rw [shp_list, shpl_cons, shpl_cons, shpl_nil, shp_road, shp_tuple, shpl_mapt (fun x => by rw [shp_int]; trivial)]
  simp
theorem Ob.high' {m n : Nat} {r : Road} {b : List Int} (hr : Rd n r) (hb : Ob m r b) : ∀ x ∈ b, -1000000000000 ≤ x ∧ x ≤ 1000000000000 := by
  intro x hx
  have h1 := hb.high x hx
  have h2 := hr.firsts _ (maxL_mem hr.fne)
  have h3 := hb.low x hx _ (maxL_mem hr.fne)
  omega
theorem rp_drawn {m n : Nat} {r : Road} {b : List Int} (hr : Rd n r) (hb : Ob m r b) (hn : n ≤ 100) (hm : m ≤ 1000) : Rp 7692032 (.list [roadD r, .tuple (b.map .int)]) :=
  rp_rb hr.ok (by have := hr.le; omega) (fun f hf => by have := hr.firsts f hf; omega) (by have := hr.le; have := hr.leq; omega) (hb.high' hr) (by have := hb.len; omega)
theorem W_repr {m n : Nat} {r : Road} {b : List Int} (hr : Rd n r) (hb : Ob m r b) (hn : n ≤ 100) (hm : m ≤ 1000) {K : R → Prop} : wl (reprR (.lst [roadD r, .tuple (b.map .int)])) K = K (.frz (.str (rbText r b))) := by
  rw [wl_reprL (rp_drawn hr hb hn hm) (shp_rb r b) (by omega)]; rfl
theorem rb_plain {m n : Nat} {r : Road} {b : List Int} (hr : Rd n r) (hb : Ob m r b) (hn : n ≤ 100) (hm : m ≤ 1000) : plainStr (rbText r b) := tx_plain (rp_drawn hr hb hn hm).2
end Rx
set_option Elab.async false
set_option linter.all false
set_option maxRecDepth 100000
set_option maxHeartbeats 4000000
namespace Rx
open PySem PySem.Spec PyProof.Rows L2
def b_sets_later__1 : List S := [(.ret (.bi .tuple [(.comp (.ife (.cop .lt (.var 5) (.var 1)) (.var 6) (.bi .max2 [(.var 6), (.var 3)])) (.tup [(.nm 5), (.nm 6)]) (.enum (.var 0)) [] [4, 5, 6])]))]
theorem u_sets_later__1 (s : Option Sl) (ρ : Sto) (K : Fl → Sto → Prop) : wSs b_sets_later__1 (s :: ρ) K = wS (.ret (.bi .tuple [(.comp (.ife (.cop .lt (.var 5) (.var 1)) (.var 6) (.bi .max2 [(.var 6), (.var 3)])) (.tup [(.nm 5), (.nm 6)]) (.enum (.var 0)) [] [4, 5, 6])])) (s :: ρ) K := ss_last _ _ _
def b_sets_later : List S := (.setv 3 (.bop .add (.idx (.var 0) (.var 1)) (.var 2))) :: b_sets_later__1
theorem u_sets_later (s : Option Sl) (ρ : Sto) (K : Fl → Sto → Prop) : wSs b_sets_later (s :: ρ) K = wS (.setv 3 (.bop .add (.idx (.var 0) (.var 1)) (.var 2))) (s :: ρ) fun f ρ1 => nx f b_sets_later__1 ρ1 K := ss_cons _ _
def f_sets_later : Fi := ⟨[false, false, false], evDef 7 b_sets_later⟩
theorem o_sets_later (a0 a1 a2 : Option Sl) (Q : R → Sto → Prop) : wp (f_sets_later.sf [a0, a1, a2]) Q = wSs b_sets_later [a0, a1, a2, none, none, none, none] (kD 3 Q) := w_def (n := 7) (body := b_sets_later) (ρa := [a0, a1, a2]) (Q := Q)
theorem k_sets_later (x0 x1 x2 : Opd) (ρ : Sto) (Q : Opd → Sto → Prop) : wCall f_sets_later [x0, x1, x2] ρ Q = wHard ρ x0 fun d0 ρ0 => wHard ρ0 x1 fun d1 ρ1 => wHard ρ1 x2 fun d2 ρ2 => wp (f_sets_later.sf [some (.frz d0), some (.frz d1), some (.frz d2)]) fun r ρo => wNs 3 ρo (Q (.val r) ρ2) := call_f3 rfl
def b_touched_2a_0a : List S := [(.aug 6 .add (.bop .mul (.lst [(.tup [(.var 7), (.var 8), (.bop .sub (.idx (.idx (.var 5) (.var 7)) (.var 8)) (.var 9))])]) (.bi .int [(.cop .gt (.idx (.idx (.var 5) (.var 7)) (.var 8)) (.var 9))])))]
theorem u_touched_2a_0a (s : Option Sl) (ρ : Sto) (K : Fl → Sto → Prop) : wSs b_touched_2a_0a (s :: ρ) K = wS (.aug 6 .add (.bop .mul (.lst [(.tup [(.var 7), (.var 8), (.bop .sub (.idx (.idx (.var 5) (.var 7)) (.var 8)) (.var 9))])]) (.bi .int [(.cop .gt (.idx (.idx (.var 5) (.var 7)) (.var 8)) (.var 9))]))) (s :: ρ) K := ss_last _ _ _
def b_touched_2a : List S := [(.forr (.tup [(.nm 8), (.nm 9)]) (.enum (.idx (.var 4) (.var 7))) b_touched_2a_0a)]
theorem u_touched_2a (s : Option Sl) (ρ : Sto) (K : Fl → Sto → Prop) : wSs b_touched_2a (s :: ρ) K = wS (.forr (.tup [(.nm 8), (.nm 9)]) (.enum (.idx (.var 4) (.var 7))) b_touched_2a_0a) (s :: ρ) K := ss_last _ _ _
def b_touched__3 : List S := [(.ret (.var 6))]
theorem u_touched__3 (s : Option Sl) (ρ : Sto) (K : Fl → Sto → Prop) : wSs b_touched__3 (s :: ρ) K = wS (.ret (.var 6)) (s :: ρ) K := ss_last _ _ _
def b_touched__2 : List S := (.forr (.nm 7) (.range2 (.const (.int 1)) (.bi .len [(.var 4)])) b_touched_2a) :: b_touched__3
theorem u_touched__2 (s : Option Sl) (ρ : Sto) (K : Fl → Sto → Prop) : wSs b_touched__2 (s :: ρ) K = wS (.forr (.nm 7) (.range2 (.const (.int 1)) (.bi .len [(.var 4)])) b_touched_2a) (s :: ρ) fun f ρ1 => nx f b_touched__3 ρ1 K := ss_cons _ _
def b_touched__1 : List S := (.par [5, 6] [(.call f_books_to [(.var 0), (.call f_sets_later [(.var 1), (.var 2), (.var 3)]), (.bi .len [(.idx (.var 0) (.const (.int 0)))])]), (.lst [])]) :: b_touched__2
theorem u_touched__1 (s : Option Sl) (ρ : Sto) (K : Fl → Sto → Prop) : wSs b_touched__1 (s :: ρ) K = wS (.par [5, 6] [(.call f_books_to [(.var 0), (.call f_sets_later [(.var 1), (.var 2), (.var 3)]), (.bi .len [(.idx (.var 0) (.const (.int 0)))])]), (.lst [])]) (s :: ρ) fun f ρ1 => nx f b_touched__2 ρ1 K := ss_cons _ _
def b_touched : List S := (.setv 4 (.call f_books_to [(.var 0), (.var 1), (.bi .len [(.idx (.var 0) (.const (.int 0)))])])) :: b_touched__1
theorem u_touched (s : Option Sl) (ρ : Sto) (K : Fl → Sto → Prop) : wSs b_touched (s :: ρ) K = wS (.setv 4 (.call f_books_to [(.var 0), (.var 1), (.bi .len [(.idx (.var 0) (.const (.int 0)))])])) (s :: ρ) fun f ρ1 => nx f b_touched__1 ρ1 K := ss_cons _ _
def f_touched : Fi := ⟨[false, false, false, false], evDef 10 b_touched⟩
theorem o_touched (a0 a1 a2 a3 : Option Sl) (Q : R → Sto → Prop) : wp (f_touched.sf [a0, a1, a2, a3]) Q = wSs b_touched [a0, a1, a2, a3, none, none, none, none, none, none] (kD 4 Q) := w_def (n := 10) (body := b_touched) (ρa := [a0, a1, a2, a3]) (Q := Q)
theorem k_touched (x0 x1 x2 x3 : Opd) (ρ : Sto) (Q : Opd → Sto → Prop) : wCall f_touched [x0, x1, x2, x3] ρ Q = wHard ρ x0 fun d0 ρ0 => wHard ρ0 x1 fun d1 ρ1 => wHard ρ1 x2 fun d2 ρ2 => wHard ρ2 x3 fun d3 ρ3 => wp (f_touched.sf [some (.frz d0), some (.frz d1), some (.frz d2), some (.frz d3)]) fun r ρo => wNs 4 ρo (Q (.val r) ρ3) := call_f4 rfl
end Rx
set_option Elab.async false
set_option linter.all false
set_option maxRecDepth 100000
set_option maxHeartbeats 4000000
namespace Rx
open PySem PySem.Spec PyProof.Rows L2
def b_felt : List S := [(.ret (.bop .sub (.call f_coming [(.var 0), (.call f_sets_later [(.var 1), (.var 2), (.var 3)]), (.var 4), (.var 5)]) (.call f_coming [(.var 0), (.var 1), (.var 4), (.var 5)])))]
theorem u_felt (s : Option Sl) (ρ : Sto) (K : Fl → Sto → Prop) : wSs b_felt (s :: ρ) K = wS (.ret (.bop .sub (.call f_coming [(.var 0), (.call f_sets_later [(.var 1), (.var 2), (.var 3)]), (.var 4), (.var 5)]) (.call f_coming [(.var 0), (.var 1), (.var 4), (.var 5)]))) (s :: ρ) K := ss_last _ _ _
def f_felt : Fi := ⟨[false, false, false, false, false, false], evDef 6 b_felt⟩
theorem o_felt (a0 a1 a2 a3 a4 a5 : Option Sl) (Q : R → Sto → Prop) : wp (f_felt.sf [a0, a1, a2, a3, a4, a5]) Q = wSs b_felt [a0, a1, a2, a3, a4, a5] (kD 6 Q) := w_def (n := 6) (body := b_felt) (ρa := [a0, a1, a2, a3, a4, a5]) (Q := Q)
theorem k_felt (x0 x1 x2 x3 x4 x5 : Opd) (ρ : Sto) (Q : Opd → Sto → Prop) : wCall f_felt [x0, x1, x2, x3, x4, x5] ρ Q = wHard ρ x0 fun d0 ρ0 => wHard ρ0 x1 fun d1 ρ1 => wHard ρ1 x2 fun d2 ρ2 => wHard ρ2 x3 fun d3 ρ3 => wHard ρ3 x4 fun d4 ρ4 => wHard ρ4 x5 fun d5 ρ5 => wp (f_felt.sf [some (.frz d0), some (.frz d1), some (.frz d2), some (.frz d3), some (.frz d4), some (.frz d5)]) fun r ρo => wNs 6 ρo (Q (.val r) ρ5) := call_f6 rfl
def b_law_outs_late : List S := [(.ret (.bi .tuple [(.comp (.ife (.cop .lt (.var 4) (.var 1)) (.var 5) (.bi .max2 [(.var 5), (.bop .add (.idx (.var 0) (.var 1)) (.var 2))])) (.tup [(.nm 4), (.nm 5)]) (.enum (.var 0)) [] [3, 4, 5])]))]
theorem u_law_outs_late (s : Option Sl) (ρ : Sto) (K : Fl → Sto → Prop) : wSs b_law_outs_late (s :: ρ) K = wS (.ret (.bi .tuple [(.comp (.ife (.cop .lt (.var 4) (.var 1)) (.var 5) (.bi .max2 [(.var 5), (.bop .add (.idx (.var 0) (.var 1)) (.var 2))])) (.tup [(.nm 4), (.nm 5)]) (.enum (.var 0)) [] [3, 4, 5])])) (s :: ρ) K := ss_last _ _ _
def f_law_outs_late : Fi := ⟨[false, false, false], evDef 6 b_law_outs_late⟩
theorem o_law_outs_late (a0 a1 a2 : Option Sl) (Q : R → Sto → Prop) : wp (f_law_outs_late.sf [a0, a1, a2]) Q = wSs b_law_outs_late [a0, a1, a2, none, none, none] (kD 3 Q) := w_def (n := 6) (body := b_law_outs_late) (ρa := [a0, a1, a2]) (Q := Q)
theorem k_law_outs_late (x0 x1 x2 : Opd) (ρ : Sto) (Q : Opd → Sto → Prop) : wCall f_law_outs_late [x0, x1, x2] ρ Q = wHard ρ x0 fun d0 ρ0 => wHard ρ0 x1 fun d1 ρ1 => wHard ρ1 x2 fun d2 ρ2 => wp (f_law_outs_late.sf [some (.frz d0), some (.frz d1), some (.frz d2)]) fun r ρo => wNs 3 ρo (Q (.val r) ρ2) := call_f3 rfl
def b_law_felt : List S := [(.ret (.bop .sub (.idx (.idx (.call f_law_books [(.var 0), (.call f_law_outs_late [(.var 1), (.var 2), (.var 3)])]) (.var 5)) (.var 4)) (.idx (.idx (.call f_law_books [(.var 0), (.var 1)]) (.var 5)) (.var 4))))]
theorem u_law_felt (s : Option Sl) (ρ : Sto) (K : Fl → Sto → Prop) : wSs b_law_felt (s :: ρ) K = wS (.ret (.bop .sub (.idx (.idx (.call f_law_books [(.var 0), (.call f_law_outs_late [(.var 1), (.var 2), (.var 3)])]) (.var 5)) (.var 4)) (.idx (.idx (.call f_law_books [(.var 0), (.var 1)]) (.var 5)) (.var 4)))) (s :: ρ) K := ss_last _ _ _
def f_law_felt : Fi := ⟨[false, false, false, false, false, false], evDef 6 b_law_felt⟩
theorem o_law_felt (a0 a1 a2 a3 a4 a5 : Option Sl) (Q : R → Sto → Prop) : wp (f_law_felt.sf [a0, a1, a2, a3, a4, a5]) Q = wSs b_law_felt [a0, a1, a2, a3, a4, a5] (kD 6 Q) := w_def (n := 6) (body := b_law_felt) (ρa := [a0, a1, a2, a3, a4, a5]) (Q := Q)
theorem k_law_felt (x0 x1 x2 x3 x4 x5 : Opd) (ρ : Sto) (Q : Opd → Sto → Prop) : wCall f_law_felt [x0, x1, x2, x3, x4, x5] ρ Q = wHard ρ x0 fun d0 ρ0 => wHard ρ0 x1 fun d1 ρ1 => wHard ρ1 x2 fun d2 ρ2 => wHard ρ2 x3 fun d3 ρ3 => wHard ρ3 x4 fun d4 ρ4 => wHard ρ4 x5 fun d5 ρ5 => wp (f_law_felt.sf [some (.frz d0), some (.frz d1), some (.frz d2), some (.frz d3), some (.frz d4), some (.frz d5)]) fun r ρo => wNs 6 ρo (Q (.val r) ρ5) := call_f6 rfl
end Rx
set_option Elab.async false
set_option linter.all false
set_option maxHeartbeats 4000000
/-! SpE: delays -/
namespace Rx
open PySem PySem.Spec L2
set_option maxRecDepth 100000
local macro_rules | `(tactic| simp_all? only [$xs,*]) => `(tactic| simp only [↓e_const, ↓e_bop, ↓e_neg, ↓e_cop, ↓e_ch2, ↓e_isN, ↓e_notN, ↓e_not, ↓e_and, ↓e_or, ↓e_ife, ↓e_idx, ↓e_slc, ↓e_asI, ↓e_rev, ↓e_tup, ↓e_lst, ↓e_call, ↓e_callk, ↓e_bi, ↓e_comp, ↓es_nil, ↓es_cons, ↓ts_nil, ↓ts_cons, ↓it_seq, ↓it_range1, ↓it_range2, ↓it_enum, ↓it_revd, ↓it_zipt, ↓it_zipf, ↓ss_nil, ↓ss_last, ↓s_setv, ↓s_sett, ↓s_par, ↓s_ext, ↓s_mt0, ↓mt0_l, ↓mt0_rev, ↓mt0_clr, ↓s_aug, ↓aug_i, ↓aug_l, ↓augL_l, ↓seti_l, ↓own_l, ↓s_seti, ↓s_expr, ↓app_l, ↓s_app, ↓s_iff, ↓s_whl, ↓s_for, ↓ret_v, ↓ret_s, ↓retS_l, ↓s_ret, ↓s_retN, ↓s_brk, ↓s_cont, ↓s_pass, ↓s_never, ↓nx_n, ↓nx_r, ↓nx_b, ↓nx_c, ↓fl_n, ↓fl_c, ↓fl_b, ↓fl_r, ↓vl_v, ↓vl_s, ↓putr_f, ↓putr_l, ↓tg_n, ↓tg_t, ↓tgs_n, ↓tgs_c, ↓pa_n, ↓pa_c, ↓par_n, ↓par_v, ↓par_s, ↓rd_v, ↓rd_s, ↓rdS_m, ↓ri_v, ↓hd_f, ↓hd_l, ↓hd_s, ↓hs_c, ↓hs_l, ↓hds_n, ↓hds_c, ↓rds_n, ↓rds_c, ↓ab_v, ↓sq_l, ↓sq_t, ↓pd_n, ↓pd_c, ↓ix_z, ↓ix_s, ↓if_t, ↓if_f, ↓if_n, ↓if_d, ↓no_n, ↓no_i, ↓no_b, ↓no_s, ↓no_t, ↓no_l, ↓no_r, ↓bi_add, ↓bi_sub, ↓bi_mul, ↓bi_div, ↓bi_mod, ↓bi_pow, ↓wl_ixN, ↓b_ii, ↓b_ss, ↓b_ll, ↓b_lf, ↓b_fl, ↓b_ff, ↓b_tt, ↓b_lm, ↓b_tm, ↓c_eqi, ↓c_nei, ↓c_lt, ↓c_le, ↓c_gt, ↓c_ge, ↓id_t, ↓id_l, ↓id_o, ↓wl_at0, ↓wl_at1, ↓wl_at2, ↓wl_at3, ↓at_map, ↓sl_t, ↓sl_l, ↓sl_o, ↓oi_n, ↓oi_i, ↓bl_len, ↓len_l, ↓len_f, ↓len_t, ↓len_s, ↓bl_maxs, ↓bl_mins, ↓bl_max2, ↓bl_min2, ↓bl_abs, ↓bl_sum, ↓bl_sumf, ↓bl_all, ↓bl_any, ↓any_map, ↓all_map, ↓bl_listl, ↓bl_listf, ↓bl_listt, ↓bl_tupl, ↓bl_tupf, ↓bl_tupt, ↓bl_intb, ↓bl_inti, ↓bl_str, ↓bl_isi, ↓bl_sorted, ↓bl_repr, ↓max_t, ↓max_l, ↓max_o, ↓min_t, ↓min_l, ↓min_o, ↓kd_r1, ↓kd_r2, ↓kd_r3, ↓kd_r4, ↓kd_r5, ↓kd_r6, ↓kd_r7, ↓ns_1, ↓ns_2, ↓ns_3, ↓ns_4, ↓ns_5, ↓ns_6, ↓ns_7, ↓ns_8, ↓lt_c, ↓lt_d, ↓bk_1, ↓bk_2, ↓bk_3, ↓bk_4, ↓bk_5, ↓bk_6, ↓bk_7, ↓bk_8, ↓wp_ret, ↓wl_some, ↓turn_u, ↓Vf_0, ↓Vt_0, ↓Vm_0, ↓Vf_1, ↓Vt_1, ↓Vm_1, ↓Vf_2, ↓Vt_2, ↓Vm_2, ↓Vf_3, ↓Vt_3, ↓Vm_3, ↓Vf_4, ↓Vt_4, ↓Vm_4, ↓Vf_5, ↓Vt_5, ↓Vm_5, ↓Vf_6, ↓Vt_6, ↓Vm_6, ↓Vf_7, ↓Vt_7, ↓Vm_7, ↓Vf_8, ↓Vt_8, ↓Vm_8, ↓Vf_9, ↓Vt_9, ↓Vm_9, ↓Vf_10, ↓Vt_10, ↓Vm_10, ↓Vf_11, ↓Vt_11, ↓Vm_11, ↓Vf_12, ↓Vt_12, ↓Vm_12, ↓Vf_13, ↓Vt_13, ↓Vm_13, ↓Vf_14, ↓Vt_14, ↓Vm_14, ↓Vf_15, ↓Vt_15, ↓Vm_15, ↓Vf_16, ↓Vt_16, ↓Vm_16, ↓Vf_17, ↓Vt_17, ↓Vm_17, ↓Vf_18, ↓Vt_18, ↓Vm_18, ↓Vf_19, ↓Vt_19, ↓Vm_19, ↓Vf_20, ↓Vt_20, ↓Vm_20, ↓Vf_21, ↓Vt_21, ↓Vm_21, ↓Vf_22, ↓Vt_22, ↓Vm_22, ↓Vf_23, ↓Vt_23, ↓Vm_23, ↓Vf_24, ↓Vt_24, ↓Vm_24, ↓Vf_25, ↓Vt_25, ↓Vm_25, ↓Vf_26, ↓Vt_26, ↓Vm_26, ↓Vf_27, ↓Vt_27, ↓Vm_27, ↓Vf_28, ↓Vt_28, ↓Vm_28, ↓Vf_29, ↓Vt_29, ↓Vm_29, ↓Vf_30, ↓Vt_30, ↓Vm_30, ↓Vf_31, ↓Vt_31, ↓Vm_31, ↓wl_leg0, ↓wl_leg1, ↓wl_leg2, ↓wl_road0, ↓wl_road1, ↓tg_leg, ↓tg_road, ↓W_over, ↓W_held, ↓W_ride_of, ↓W_bounds_of, ↓k_over, ↓k_held, ↓k_ride_of, ↓k_bounds_of, ↓W_same12, ↓k_law_same, e_const, e_bop, e_neg, e_cop, e_ch2, e_isN, e_notN, e_not, e_and, e_or, e_ife, e_idx, e_slc, e_asI, e_rev, e_tup, e_lst, e_call, e_callk, e_bi, e_comp, es_nil, es_cons, ts_nil, ts_cons, it_seq, it_range1, it_range2, it_enum, it_revd, it_zipt, it_zipf, ss_nil, ss_last, s_setv, s_sett, s_par, s_ext, s_mt0, mt0_l, mt0_rev, mt0_clr, s_aug, aug_i, aug_l, augL_l, seti_l, own_l, s_seti, s_expr, app_l, s_app, s_iff, s_whl, s_for, ret_v, ret_s, retS_l, s_ret, s_retN, s_brk, s_cont, s_pass, s_never, nx_n, nx_r, nx_b, nx_c, fl_n, fl_c, fl_b, fl_r, vl_v, vl_s, putr_f, putr_l, tg_n, tg_t, tgs_n, tgs_c, pa_n, pa_c, par_n, par_v, par_s, rd_v, rd_s, rdS_m, ri_v, hd_f, hd_l, hd_s, hs_c, hs_l, hds_n, hds_c, rds_n, rds_c, ab_v, sq_l, sq_t, pd_n, pd_c, ix_z, ix_s, if_t, if_f, if_n, if_d, no_n, no_i, no_b, no_s, no_t, no_l, no_r, bi_add, bi_sub, bi_mul, bi_div, bi_mod, bi_pow, wl_ixN, b_ii, b_ss, b_ll, b_lf, b_fl, b_ff, b_tt, b_lm, b_tm, c_eqi, c_nei, c_lt, c_le, c_gt, c_ge, id_t, id_l, id_o, wl_at0, wl_at1, wl_at2, wl_at3, at_map, sl_t, sl_l, sl_o, oi_n, oi_i, bl_len, len_l, len_f, len_t, len_s, bl_maxs, bl_mins, bl_max2, bl_min2, bl_abs, bl_sum, bl_sumf, bl_all, bl_any, any_map, all_map, bl_listl, bl_listf, bl_listt, bl_tupl, bl_tupf, bl_tupt, bl_intb, bl_inti, bl_str, bl_isi, bl_sorted, bl_repr, max_t, max_l, max_o, min_t, min_l, min_o, kd_r1, kd_r2, kd_r3, kd_r4, kd_r5, kd_r6, kd_r7, ns_1, ns_2, ns_3, ns_4, ns_5, ns_6, ns_7, ns_8, lt_c, lt_d, bk_1, bk_2, bk_3, bk_4, bk_5, bk_6, bk_7, bk_8, wp_ret, wl_some, turn_u, Vf_0, Vt_0, Vm_0, Vf_1, Vt_1, Vm_1, Vf_2, Vt_2, Vm_2, Vf_3, Vt_3, Vm_3, Vf_4, Vt_4, Vm_4, Vf_5, Vt_5, Vm_5, Vf_6, Vt_6, Vm_6, Vf_7, Vt_7, Vm_7, Vf_8, Vt_8, Vm_8, Vf_9, Vt_9, Vm_9, Vf_10, Vt_10, Vm_10, Vf_11, Vt_11, Vm_11, Vf_12, Vt_12, Vm_12, Vf_13, Vt_13, Vm_13, Vf_14, Vt_14, Vm_14, Vf_15, Vt_15, Vm_15, Vf_16, Vt_16, Vm_16, Vf_17, Vt_17, Vm_17, Vf_18, Vt_18, Vm_18, Vf_19, Vt_19, Vm_19, Vf_20, Vt_20, Vm_20, Vf_21, Vt_21, Vm_21, Vf_22, Vt_22, Vm_22, Vf_23, Vt_23, Vm_23, Vf_24, Vt_24, Vm_24, Vf_25, Vt_25, Vm_25, Vf_26, Vt_26, Vm_26, Vf_27, Vt_27, Vm_27, Vf_28, Vt_28, Vm_28, Vf_29, Vt_29, Vm_29, Vf_30, Vt_30, Vm_30, Vf_31, Vt_31, Vm_31, wl_leg0, wl_leg1, wl_leg2, wl_road0, wl_road1, tg_leg, tg_road, W_over, W_held, W_ride_of, W_bounds_of, k_over, k_held, k_ride_of, k_bounds_of, W_same12, k_law_same, put_k, set_c, set_d, set_b, set_f, cln_nil, cln_n, cln_f, cln_m, cln_l, cln_d, szi, szl, dv_t, pw_t, sml_l, sml_r, decide_eq_true_eq, Int.reduceMul, Int.reduceMod, Int.reduceAdd, Int.reduceSub, Int.reduceDiv, Int.reduceNeg, Int.natAbs_zero, un_nil, un_n, un_f, un_m, fz_nil, fz_n, fz_f, fz_m, fz_l, fz_d, nl_nil, nl_n, nl_f, nl_m, nl_l, nl_d, mf_nil, mf_n, mf_f, mf_m, mf_l, mf_d, df_nil, df_n, df_f, df_m, df_l, df_d, ik_n, ik_f, ik_m, ko_n, ko_f, ko_k, ko_o, eqv_ii, cut_m, enum_map, zip_map, ints_zero, wi_n, wi_c, ba_n, ba_c, toD_f, toD_l, slo_f, slo_l, sc_i, sc_b, sc_s, sc_n, sc_l, sc_t, scr_f, scr_l, Bool.and_self, Bool.true_and, Bool.and_true, List.all_cons, List.all_nil, Int.toNat_natCast, Int.natCast_nonneg, Int.reduceLT, Int.reduceLE, Int.cast_ofNat_Int, c_eqS, c_neS, shp_int, shp_bool, shp_none, shp_list, shp_tuple, shpl_nil, shpl_cons, shpl_app, shpl_map, shp_leg, shp_road, implies_true, and_self, List.length_cons, List.length_nil, List.length_map, List.cons_append, List.nil_append, Nat.reduceAdd, Nat.reduceLT, Nat.reduceLeDiff, Nat.zero_add, Int.reduceNeg, Int.reducePow, Int.reduceToNat, true_and, and_true, reduceIte, eq_self, decide_true, decide_false, Bool.not_true, Bool.not_false, Bool.false_eq_true, Bool.true_eq_false, false_implies, forall_const, not_true_eq_false, not_false_eq_true, G_0, L_0, G_1, L_1, G_2, L_2, G_3, L_3, G_4, L_4, G_5, L_5, G_6, L_6, G_7, L_7, G_8, L_8, G_9, L_9, G_10, L_10, G_11, L_11, G_12, L_12, G_13, L_13, G_14, L_14, G_15, L_15, G_16, L_16, G_17, L_17, G_18, L_18, G_19, L_19, G_20, L_20, G_21, L_21, G_22, L_22, G_23, L_23, G_24, L_24, G_25, L_25, G_26, L_26, G_27, L_27, G_28, L_28, G_29, L_29, G_30, L_30, G_31, L_31, intsD, shq_list, shq_tuple, shql_cons, shql_nil, shql_app, shql_map, shq_int, shq_none, shq_bool, $xs,*])
local macro_rules | `(tactic| simp_all? [$xs,*]) => `(tactic| simp only [↓e_const, ↓e_bop, ↓e_neg, ↓e_cop, ↓e_ch2, ↓e_isN, ↓e_notN, ↓e_not, ↓e_and, ↓e_or, ↓e_ife, ↓e_idx, ↓e_slc, ↓e_asI, ↓e_rev, ↓e_tup, ↓e_lst, ↓e_call, ↓e_callk, ↓e_bi, ↓e_comp, ↓es_nil, ↓es_cons, ↓ts_nil, ↓ts_cons, ↓it_seq, ↓it_range1, ↓it_range2, ↓it_enum, ↓it_revd, ↓it_zipt, ↓it_zipf, ↓ss_nil, ↓ss_last, ↓s_setv, ↓s_sett, ↓s_par, ↓s_ext, ↓s_mt0, ↓mt0_l, ↓mt0_rev, ↓mt0_clr, ↓s_aug, ↓aug_i, ↓aug_l, ↓augL_l, ↓seti_l, ↓own_l, ↓s_seti, ↓s_expr, ↓app_l, ↓s_app, ↓s_iff, ↓s_whl, ↓s_for, ↓ret_v, ↓ret_s, ↓retS_l, ↓s_ret, ↓s_retN, ↓s_brk, ↓s_cont, ↓s_pass, ↓s_never, ↓nx_n, ↓nx_r, ↓nx_b, ↓nx_c, ↓fl_n, ↓fl_c, ↓fl_b, ↓fl_r, ↓vl_v, ↓vl_s, ↓putr_f, ↓putr_l, ↓tg_n, ↓tg_t, ↓tgs_n, ↓tgs_c, ↓pa_n, ↓pa_c, ↓par_n, ↓par_v, ↓par_s, ↓rd_v, ↓rd_s, ↓rdS_m, ↓ri_v, ↓hd_f, ↓hd_l, ↓hd_s, ↓hs_c, ↓hs_l, ↓hds_n, ↓hds_c, ↓rds_n, ↓rds_c, ↓ab_v, ↓sq_l, ↓sq_t, ↓pd_n, ↓pd_c, ↓ix_z, ↓ix_s, ↓if_t, ↓if_f, ↓if_n, ↓if_d, ↓no_n, ↓no_i, ↓no_b, ↓no_s, ↓no_t, ↓no_l, ↓no_r, ↓bi_add, ↓bi_sub, ↓bi_mul, ↓bi_div, ↓bi_mod, ↓bi_pow, ↓wl_ixN, ↓b_ii, ↓b_ss, ↓b_ll, ↓b_lf, ↓b_fl, ↓b_ff, ↓b_tt, ↓b_lm, ↓b_tm, ↓c_eqi, ↓c_nei, ↓c_lt, ↓c_le, ↓c_gt, ↓c_ge, ↓id_t, ↓id_l, ↓id_o, ↓wl_at0, ↓wl_at1, ↓wl_at2, ↓wl_at3, ↓at_map, ↓sl_t, ↓sl_l, ↓sl_o, ↓oi_n, ↓oi_i, ↓bl_len, ↓len_l, ↓len_f, ↓len_t, ↓len_s, ↓bl_maxs, ↓bl_mins, ↓bl_max2, ↓bl_min2, ↓bl_abs, ↓bl_sum, ↓bl_sumf, ↓bl_all, ↓bl_any, ↓any_map, ↓all_map, ↓bl_listl, ↓bl_listf, ↓bl_listt, ↓bl_tupl, ↓bl_tupf, ↓bl_tupt, ↓bl_intb, ↓bl_inti, ↓bl_str, ↓bl_isi, ↓bl_sorted, ↓bl_repr, ↓max_t, ↓max_l, ↓max_o, ↓min_t, ↓min_l, ↓min_o, ↓kd_r1, ↓kd_r2, ↓kd_r3, ↓kd_r4, ↓kd_r5, ↓kd_r6, ↓kd_r7, ↓ns_1, ↓ns_2, ↓ns_3, ↓ns_4, ↓ns_5, ↓ns_6, ↓ns_7, ↓ns_8, ↓lt_c, ↓lt_d, ↓bk_1, ↓bk_2, ↓bk_3, ↓bk_4, ↓bk_5, ↓bk_6, ↓bk_7, ↓bk_8, ↓wp_ret, ↓wl_some, ↓turn_u, ↓Vf_0, ↓Vt_0, ↓Vm_0, ↓Vf_1, ↓Vt_1, ↓Vm_1, ↓Vf_2, ↓Vt_2, ↓Vm_2, ↓Vf_3, ↓Vt_3, ↓Vm_3, ↓Vf_4, ↓Vt_4, ↓Vm_4, ↓Vf_5, ↓Vt_5, ↓Vm_5, ↓Vf_6, ↓Vt_6, ↓Vm_6, ↓Vf_7, ↓Vt_7, ↓Vm_7, ↓Vf_8, ↓Vt_8, ↓Vm_8, ↓Vf_9, ↓Vt_9, ↓Vm_9, ↓Vf_10, ↓Vt_10, ↓Vm_10, ↓Vf_11, ↓Vt_11, ↓Vm_11, ↓Vf_12, ↓Vt_12, ↓Vm_12, ↓Vf_13, ↓Vt_13, ↓Vm_13, ↓Vf_14, ↓Vt_14, ↓Vm_14, ↓Vf_15, ↓Vt_15, ↓Vm_15, ↓Vf_16, ↓Vt_16, ↓Vm_16, ↓Vf_17, ↓Vt_17, ↓Vm_17, ↓Vf_18, ↓Vt_18, ↓Vm_18, ↓Vf_19, ↓Vt_19, ↓Vm_19, ↓Vf_20, ↓Vt_20, ↓Vm_20, ↓Vf_21, ↓Vt_21, ↓Vm_21, ↓Vf_22, ↓Vt_22, ↓Vm_22, ↓Vf_23, ↓Vt_23, ↓Vm_23, ↓Vf_24, ↓Vt_24, ↓Vm_24, ↓Vf_25, ↓Vt_25, ↓Vm_25, ↓Vf_26, ↓Vt_26, ↓Vm_26, ↓Vf_27, ↓Vt_27, ↓Vm_27, ↓Vf_28, ↓Vt_28, ↓Vm_28, ↓Vf_29, ↓Vt_29, ↓Vm_29, ↓Vf_30, ↓Vt_30, ↓Vm_30, ↓Vf_31, ↓Vt_31, ↓Vm_31, ↓wl_leg0, ↓wl_leg1, ↓wl_leg2, ↓wl_road0, ↓wl_road1, ↓tg_leg, ↓tg_road, ↓W_over, ↓W_held, ↓W_ride_of, ↓W_bounds_of, ↓k_over, ↓k_held, ↓k_ride_of, ↓k_bounds_of, ↓W_same12, ↓k_law_same, e_const, e_bop, e_neg, e_cop, e_ch2, e_isN, e_notN, e_not, e_and, e_or, e_ife, e_idx, e_slc, e_asI, e_rev, e_tup, e_lst, e_call, e_callk, e_bi, e_comp, es_nil, es_cons, ts_nil, ts_cons, it_seq, it_range1, it_range2, it_enum, it_revd, it_zipt, it_zipf, ss_nil, ss_last, s_setv, s_sett, s_par, s_ext, s_mt0, mt0_l, mt0_rev, mt0_clr, s_aug, aug_i, aug_l, augL_l, seti_l, own_l, s_seti, s_expr, app_l, s_app, s_iff, s_whl, s_for, ret_v, ret_s, retS_l, s_ret, s_retN, s_brk, s_cont, s_pass, s_never, nx_n, nx_r, nx_b, nx_c, fl_n, fl_c, fl_b, fl_r, vl_v, vl_s, putr_f, putr_l, tg_n, tg_t, tgs_n, tgs_c, pa_n, pa_c, par_n, par_v, par_s, rd_v, rd_s, rdS_m, ri_v, hd_f, hd_l, hd_s, hs_c, hs_l, hds_n, hds_c, rds_n, rds_c, ab_v, sq_l, sq_t, pd_n, pd_c, ix_z, ix_s, if_t, if_f, if_n, if_d, no_n, no_i, no_b, no_s, no_t, no_l, no_r, bi_add, bi_sub, bi_mul, bi_div, bi_mod, bi_pow, wl_ixN, b_ii, b_ss, b_ll, b_lf, b_fl, b_ff, b_tt, b_lm, b_tm, c_eqi, c_nei, c_lt, c_le, c_gt, c_ge, id_t, id_l, id_o, wl_at0, wl_at1, wl_at2, wl_at3, at_map, sl_t, sl_l, sl_o, oi_n, oi_i, bl_len, len_l, len_f, len_t, len_s, bl_maxs, bl_mins, bl_max2, bl_min2, bl_abs, bl_sum, bl_sumf, bl_all, bl_any, any_map, all_map, bl_listl, bl_listf, bl_listt, bl_tupl, bl_tupf, bl_tupt, bl_intb, bl_inti, bl_str, bl_isi, bl_sorted, bl_repr, max_t, max_l, max_o, min_t, min_l, min_o, kd_r1, kd_r2, kd_r3, kd_r4, kd_r5, kd_r6, kd_r7, ns_1, ns_2, ns_3, ns_4, ns_5, ns_6, ns_7, ns_8, lt_c, lt_d, bk_1, bk_2, bk_3, bk_4, bk_5, bk_6, bk_7, bk_8, wp_ret, wl_some, turn_u, Vf_0, Vt_0, Vm_0, Vf_1, Vt_1, Vm_1, Vf_2, Vt_2, Vm_2, Vf_3, Vt_3, Vm_3, Vf_4, Vt_4, Vm_4, Vf_5, Vt_5, Vm_5, Vf_6, Vt_6, Vm_6, Vf_7, Vt_7, Vm_7, Vf_8, Vt_8, Vm_8, Vf_9, Vt_9, Vm_9, Vf_10, Vt_10, Vm_10, Vf_11, Vt_11, Vm_11, Vf_12, Vt_12, Vm_12, Vf_13, Vt_13, Vm_13, Vf_14, Vt_14, Vm_14, Vf_15, Vt_15, Vm_15, Vf_16, Vt_16, Vm_16, Vf_17, Vt_17, Vm_17, Vf_18, Vt_18, Vm_18, Vf_19, Vt_19, Vm_19, Vf_20, Vt_20, Vm_20, Vf_21, Vt_21, Vm_21, Vf_22, Vt_22, Vm_22, Vf_23, Vt_23, Vm_23, Vf_24, Vt_24, Vm_24, Vf_25, Vt_25, Vm_25, Vf_26, Vt_26, Vm_26, Vf_27, Vt_27, Vm_27, Vf_28, Vt_28, Vm_28, Vf_29, Vt_29, Vm_29, Vf_30, Vt_30, Vm_30, Vf_31, Vt_31, Vm_31, wl_leg0, wl_leg1, wl_leg2, wl_road0, wl_road1, tg_leg, tg_road, W_over, W_held, W_ride_of, W_bounds_of, k_over, k_held, k_ride_of, k_bounds_of, W_same12, k_law_same, put_k, set_c, set_d, set_b, set_f, cln_nil, cln_n, cln_f, cln_m, cln_l, cln_d, szi, szl, dv_t, pw_t, sml_l, sml_r, decide_eq_true_eq, Int.reduceMul, Int.reduceMod, Int.reduceAdd, Int.reduceSub, Int.reduceDiv, Int.reduceNeg, Int.natAbs_zero, un_nil, un_n, un_f, un_m, fz_nil, fz_n, fz_f, fz_m, fz_l, fz_d, nl_nil, nl_n, nl_f, nl_m, nl_l, nl_d, mf_nil, mf_n, mf_f, mf_m, mf_l, mf_d, df_nil, df_n, df_f, df_m, df_l, df_d, ik_n, ik_f, ik_m, ko_n, ko_f, ko_k, ko_o, eqv_ii, cut_m, enum_map, zip_map, ints_zero, wi_n, wi_c, ba_n, ba_c, toD_f, toD_l, slo_f, slo_l, sc_i, sc_b, sc_s, sc_n, sc_l, sc_t, scr_f, scr_l, Bool.and_self, Bool.true_and, Bool.and_true, List.all_cons, List.all_nil, Int.toNat_natCast, Int.natCast_nonneg, Int.reduceLT, Int.reduceLE, Int.cast_ofNat_Int, c_eqS, c_neS, shp_int, shp_bool, shp_none, shp_list, shp_tuple, shpl_nil, shpl_cons, shpl_app, shpl_map, shp_leg, shp_road, implies_true, and_self, List.length_cons, List.length_nil, List.length_map, List.cons_append, List.nil_append, Nat.reduceAdd, Nat.reduceLT, Nat.reduceLeDiff, Nat.zero_add, Int.reduceNeg, Int.reducePow, Int.reduceToNat, true_and, and_true, reduceIte, eq_self, decide_true, decide_false, Bool.not_true, Bool.not_false, Bool.false_eq_true, Bool.true_eq_false, false_implies, forall_const, not_true_eq_false, not_false_eq_true, G_0, L_0, G_1, L_1, G_2, L_2, G_3, L_3, G_4, L_4, G_5, L_5, G_6, L_6, G_7, L_7, G_8, L_8, G_9, L_9, G_10, L_10, G_11, L_11, G_12, L_12, G_13, L_13, G_14, L_14, G_15, L_15, G_16, L_16, G_17, L_17, G_18, L_18, G_19, L_19, G_20, L_20, G_21, L_21, G_22, L_22, G_23, L_23, G_24, L_24, G_25, L_25, G_26, L_26, G_27, L_27, G_28, L_28, G_29, L_29, G_30, L_30, G_31, L_31, intsD, shq_list, shq_tuple, shql_cons, shql_nil, shql_app, shql_map, shq_int, shq_none, shq_bool, cln_x, un_x, fz_x, nl_x, mf_x, df_x, ik_x, ko_x, $xs,*])
/-- setting-outs, one of them later -/
def laterN (b : List Int) (who by_ : Int) : List Int := b.zipIdx.map fun p => if (p.2 : Int) < who then p.1 else max p.1 (ix b who + by_)
theorem later_len (b : List Int) (w y : Int) : (laterN b w y).length = b.length := by unfold laterN; rw [List.length_map, List.length_zipIdx]
theorem ix_later {b : List Int} {w y : Int} {i : Nat} (h : i < b.length) : ix (laterN b w y) i = if (i : Int) < w then ix b i else max (ix b i) (ix b w + y) := by
  rw [ix_get (by rw [later_len]; exact h), ix_get h]
  unfold laterN
  rw [List.getElem_map, List.getElem_zipIdx]
  simp
theorem W_sets_later {b : List Int} {w y : Int} (hb : b.length < 1000000) (hw : 0 ≤ w) (hw' : w < b.length) (Q : R → Sto → Prop) :
    wp (f_sets_later.sf [some (.frz (.tuple (b.map .int))), some (.frz (.int w)), some (.frz (.int y))]) Q = Q (.frz (.tuple ((laterN b w y).map .int))) [none, none, none] := by
  refine wp_rw (fun Q q => ?_) Q
  simp_all? only [o_sets_later, ↓u_sets_later__1, ↓u_sets_later]
  refine ⟨⟨by omega, hw'⟩, comp_map (α := Int × Nat) (G := fun p => .int (if (p.2 : Int) < w then p.1 else max p.1 (ix b w + y))) rfl (len_bound (by rw [List.length_zipIdx]; omega)) (fun p hp => ?_) ?_⟩
  · simp_all? only [ns_1]
    exact ⟨fun z => by rw [if_pos z], fun z => by rw [if_neg z]⟩
  simp_all? only [o_sets_later, ↓u_sets_later__1, ↓u_sets_later]
  unfold laterN at q
  rw [List.map_map] at q
  exact q
theorem W_law_outs_late {b : List Int} {w y : Int} (hb : b.length < 1000000) (hw : 0 ≤ w) (hw' : w < b.length) (Q : R → Sto → Prop) :
    wp (f_law_outs_late.sf [some (.frz (.tuple (b.map .int))), some (.frz (.int w)), some (.frz (.int y))]) Q = Q (.frz (.tuple ((laterN b w y).map .int))) [none, none, none] := by
  refine wp_rw (fun Q q => ?_) Q
  simp_all? only [o_law_outs_late, ↓u_law_outs_late]
  refine comp_map (α := Int × Nat) (G := fun p => .int (if (p.2 : Int) < w then p.1 else max p.1 (ix b w + y))) rfl (len_bound (by rw [List.length_zipIdx]; omega)) (fun p hp => ?_) ?_
  · simp_all? only [ns_1]
    exact ⟨fun z => by rw [if_pos z], fun z => ⟨⟨by omega, hw'⟩, by rw [if_neg z]⟩⟩
  simp_all? only [o_law_outs_late, ↓u_law_outs_late]
  unfold laterN at q
  rw [List.map_map] at q
  exact q
theorem RbOk.later {r : Road} {b : List Int} (ok : RbOk r b) (w y : Int) : RbOk r (laterN b w y) := ⟨ok.leq, ok.ll, by rw [later_len]; exact ok.bl⟩
def feltN (r : Road) (b : List Int) (w y i k : Int) : Int := comeN r (laterN b w y) i k - comeN r b i k
theorem W_felt {r : Road} {b : List Int} {w y i k : Int} (ok : RbOk r b) (hw : 0 ≤ w) (hw' : w < b.length) (hi : 0 ≤ i) (hi' : i < b.length) (hk : 0 ≤ k) (Q : R → Sto → Prop) :
    wp (f_felt.sf [some (.frz (roadD r)), some (.frz (.tuple (b.map .int))), some (.frz (.int w)), some (.frz (.int y)), some (.frz (.int i)), some (.frz (.int k))]) Q = Q (.frz (.int (feltN r b w y i k))) [none, none, none, none, none, none] := by
  refine wp_rw (fun Q q => ?_) Q
  simp_all? only [o_felt, ↓u_felt, k_sets_later, k_coming, W_sets_later ok.bl hw hw', W_coming ok hi hi' hk, W_coming (ok.later w y) hi (show i < (laterN b w y).length by rw [later_len]; exact hi') hk]
  exact q
theorem W_law_felt {r : Road} {b : List Int} {w y i k : Int} (ok : RbOk r b) (hl : ∀ l ∈ r.legs, LegOk l) (hw : 0 ≤ w) (hw' : w < b.length) (hi : 0 ≤ i) (hi' : i < b.length) (hk : 0 ≤ k) (hk' : k ≤ r.legs.length) (Q : R → Sto → Prop) :
    wp (f_law_felt.sf [some (.frz (roadD r)), some (.frz (.tuple (b.map .int))), some (.frz (.int w)), some (.frz (.int y)), some (.frz (.int i)), some (.frz (.int k))]) Q = Q (.frz (.int (feltN r b w y i k))) [none, none, none, none, none, none] := by
  refine wp_rw (fun Q q => ?_) Q
  have e1 := ix_books_come (b := b) (i := i) ok.leq hk hk'
  have e2 := ix_books_come (b := laterN b w y) (i := i) ok.leq hk hk'
  have e3 := ix_books_len (b := b) ok.leq hk hk'
  have e4 := ix_books_len (b := laterN b w y) ok.leq hk hk'
  rw [later_len] at e4
  simp_all? only [o_law_felt, ↓u_law_felt, k_law_books, k_law_outs_late, W_law_outs_late ok.bl hw hw', W_law_books hl ok.ll ok.bl, W_law_books hl ok.ll (ok.later w y).bl, e1, e2, e3, e4, books_len, ps_len ok.leq]
  exact ⟨⟨by omega, by omega⟩, ⟨by omega, by omega⟩, ⟨by omega, by omega⟩, ⟨by omega, by omega⟩, q⟩
/-- of a delay each feels some, no more than it is -/
theorem later_near {b : List Int} {w y : Int} (s : Srt b) (hw : 0 ≤ w) (hw' : w < b.length) (hy : 0 ≤ y) (i : Nat) (hi : i < b.length) : 0 ≤ ix (laterN b w y) i - ix b i ∧ ix (laterN b w y) i - ix b i ≤ y := by
  rw [ix_later hi]
  by_cases z : (i : Int) < w
  · rw [if_pos z]; omega
  · rw [if_neg z]
    have := srt_le s hw (show w ≤ (i : Int) by omega) (by omega)
    omega
theorem felt_near {r : Road} {b : List Int} {w y : Int} {i k : Nat} (hr : r.legs.length = r.firsts.length) (h : ∀ l ∈ r.legs, LegOk l) (s : Srt b) (hw : 0 ≤ w) (hw' : w < b.length) (hy : 0 ≤ y) (hi : i < b.length) (hk : k ≤ r.legs.length) : 0 ≤ feltN r b w y i k ∧ feltN r b w y i k ≤ y :=
  come_near (m := i) hr hr rfl h hi (by rw [later_len]; exact hi) (fun j hj => later_near s hw hw' hy j (by omega)) (fun k _ => by omega) k hk i (Nat.le_refl _)
/-- nobody ahead feels it -/
theorem felt_ahead {r : Road} {b : List Int} {w y : Int} {i k : Nat} (hr : r.legs.length = r.firsts.length) (h : ∀ l ∈ r.legs, LegOk l) (hiw : (i : Int) < w) (hi : i < b.length) (hk : k ≤ r.legs.length) : feltN r b w y i k = 0 := by
  have := come_near (M := 0) (b := b) (c := laterN b w y) (m := i) hr hr rfl h hi (by rw [later_len]; exact hi) (fun j hj => by rw [ix_later (by omega), if_pos (by omega)]; omega) (fun k _ => by omega) k hk i (Nat.le_refl _)
  unfold feltN
  omega
end Rx
set_option Elab.async false
set_option linter.all false
set_option maxHeartbeats 4000000
/-! SpF: all that a delay touches -/
namespace Rx
open PySem PySem.Spec L2
set_option maxRecDepth 100000
local macro_rules | `(tactic| simp_all? only [$xs,*]) => `(tactic| simp only [↓e_const, ↓e_bop, ↓e_neg, ↓e_cop, ↓e_ch2, ↓e_isN, ↓e_notN, ↓e_not, ↓e_and, ↓e_or, ↓e_ife, ↓e_idx, ↓e_slc, ↓e_asI, ↓e_rev, ↓e_tup, ↓e_lst, ↓e_call, ↓e_callk, ↓e_bi, ↓e_comp, ↓es_nil, ↓es_cons, ↓ts_nil, ↓ts_cons, ↓it_seq, ↓it_range1, ↓it_range2, ↓it_enum, ↓it_revd, ↓it_zipt, ↓it_zipf, ↓ss_nil, ↓ss_last, ↓s_setv, ↓s_sett, ↓s_par, ↓s_ext, ↓s_mt0, ↓mt0_l, ↓mt0_rev, ↓mt0_clr, ↓s_aug, ↓aug_i, ↓aug_l, ↓augL_l, ↓seti_l, ↓own_l, ↓s_seti, ↓s_expr, ↓app_l, ↓s_app, ↓s_iff, ↓s_whl, ↓s_for, ↓ret_v, ↓ret_s, ↓retS_l, ↓s_ret, ↓s_retN, ↓s_brk, ↓s_cont, ↓s_pass, ↓s_never, ↓nx_n, ↓nx_r, ↓nx_b, ↓nx_c, ↓fl_n, ↓fl_c, ↓fl_b, ↓fl_r, ↓vl_v, ↓vl_s, ↓putr_f, ↓putr_l, ↓tg_n, ↓tg_t, ↓tgs_n, ↓tgs_c, ↓pa_n, ↓pa_c, ↓par_n, ↓par_v, ↓par_s, ↓rd_v, ↓rd_s, ↓rdS_m, ↓ri_v, ↓hd_f, ↓hd_l, ↓hd_s, ↓hs_c, ↓hs_l, ↓hds_n, ↓hds_c, ↓rds_n, ↓rds_c, ↓ab_v, ↓sq_l, ↓sq_t, ↓pd_n, ↓pd_c, ↓ix_z, ↓ix_s, ↓if_t, ↓if_f, ↓if_n, ↓if_d, ↓no_n, ↓no_i, ↓no_b, ↓no_s, ↓no_t, ↓no_l, ↓no_r, ↓bi_add, ↓bi_sub, ↓bi_mul, ↓bi_div, ↓bi_mod, ↓bi_pow, ↓wl_ixN, ↓b_ii, ↓b_ss, ↓b_ll, ↓b_lf, ↓b_fl, ↓b_ff, ↓b_tt, ↓b_lm, ↓b_tm, ↓c_eqi, ↓c_nei, ↓c_lt, ↓c_le, ↓c_gt, ↓c_ge, ↓id_t, ↓id_l, ↓id_o, ↓wl_at0, ↓wl_at1, ↓wl_at2, ↓wl_at3, ↓at_map, ↓sl_t, ↓sl_l, ↓sl_o, ↓oi_n, ↓oi_i, ↓bl_len, ↓len_l, ↓len_f, ↓len_t, ↓len_s, ↓bl_maxs, ↓bl_mins, ↓bl_max2, ↓bl_min2, ↓bl_abs, ↓bl_sum, ↓bl_sumf, ↓bl_all, ↓bl_any, ↓any_map, ↓all_map, ↓bl_listl, ↓bl_listf, ↓bl_listt, ↓bl_tupl, ↓bl_tupf, ↓bl_tupt, ↓bl_intb, ↓bl_inti, ↓bl_str, ↓bl_isi, ↓bl_sorted, ↓bl_repr, ↓max_t, ↓max_l, ↓max_o, ↓min_t, ↓min_l, ↓min_o, ↓kd_r1, ↓kd_r2, ↓kd_r3, ↓kd_r4, ↓kd_r5, ↓kd_r6, ↓kd_r7, ↓ns_1, ↓ns_2, ↓ns_3, ↓ns_4, ↓ns_5, ↓ns_6, ↓ns_7, ↓ns_8, ↓lt_c, ↓lt_d, ↓bk_1, ↓bk_2, ↓bk_3, ↓bk_4, ↓bk_5, ↓bk_6, ↓bk_7, ↓bk_8, ↓wp_ret, ↓wl_some, ↓turn_u, ↓Vf_0, ↓Vt_0, ↓Vm_0, ↓Vf_1, ↓Vt_1, ↓Vm_1, ↓Vf_2, ↓Vt_2, ↓Vm_2, ↓Vf_3, ↓Vt_3, ↓Vm_3, ↓Vf_4, ↓Vt_4, ↓Vm_4, ↓Vf_5, ↓Vt_5, ↓Vm_5, ↓Vf_6, ↓Vt_6, ↓Vm_6, ↓Vf_7, ↓Vt_7, ↓Vm_7, ↓Vf_8, ↓Vt_8, ↓Vm_8, ↓Vf_9, ↓Vt_9, ↓Vm_9, ↓Vf_10, ↓Vt_10, ↓Vm_10, ↓Vf_11, ↓Vt_11, ↓Vm_11, ↓Vf_12, ↓Vt_12, ↓Vm_12, ↓Vf_13, ↓Vt_13, ↓Vm_13, ↓Vf_14, ↓Vt_14, ↓Vm_14, ↓Vf_15, ↓Vt_15, ↓Vm_15, ↓Vf_16, ↓Vt_16, ↓Vm_16, ↓Vf_17, ↓Vt_17, ↓Vm_17, ↓Vf_18, ↓Vt_18, ↓Vm_18, ↓Vf_19, ↓Vt_19, ↓Vm_19, ↓Vf_20, ↓Vt_20, ↓Vm_20, ↓Vf_21, ↓Vt_21, ↓Vm_21, ↓Vf_22, ↓Vt_22, ↓Vm_22, ↓Vf_23, ↓Vt_23, ↓Vm_23, ↓Vf_24, ↓Vt_24, ↓Vm_24, ↓Vf_25, ↓Vt_25, ↓Vm_25, ↓Vf_26, ↓Vt_26, ↓Vm_26, ↓Vf_27, ↓Vt_27, ↓Vm_27, ↓Vf_28, ↓Vt_28, ↓Vm_28, ↓Vf_29, ↓Vt_29, ↓Vm_29, ↓Vf_30, ↓Vt_30, ↓Vm_30, ↓Vf_31, ↓Vt_31, ↓Vm_31, ↓wl_leg0, ↓wl_leg1, ↓wl_leg2, ↓wl_road0, ↓wl_road1, ↓tg_leg, ↓tg_road, ↓W_over, ↓W_held, ↓W_ride_of, ↓W_bounds_of, ↓k_over, ↓k_held, ↓k_ride_of, ↓k_bounds_of, ↓W_same12, ↓k_law_same, e_const, e_bop, e_neg, e_cop, e_ch2, e_isN, e_notN, e_not, e_and, e_or, e_ife, e_idx, e_slc, e_asI, e_rev, e_tup, e_lst, e_call, e_callk, e_bi, e_comp, es_nil, es_cons, ts_nil, ts_cons, it_seq, it_range1, it_range2, it_enum, it_revd, it_zipt, it_zipf, ss_nil, ss_last, s_setv, s_sett, s_par, s_ext, s_mt0, mt0_l, mt0_rev, mt0_clr, s_aug, aug_i, aug_l, augL_l, seti_l, own_l, s_seti, s_expr, app_l, s_app, s_iff, s_whl, s_for, ret_v, ret_s, retS_l, s_ret, s_retN, s_brk, s_cont, s_pass, s_never, nx_n, nx_r, nx_b, nx_c, fl_n, fl_c, fl_b, fl_r, vl_v, vl_s, putr_f, putr_l, tg_n, tg_t, tgs_n, tgs_c, pa_n, pa_c, par_n, par_v, par_s, rd_v, rd_s, rdS_m, ri_v, hd_f, hd_l, hd_s, hs_c, hs_l, hds_n, hds_c, rds_n, rds_c, ab_v, sq_l, sq_t, pd_n, pd_c, ix_z, ix_s, if_t, if_f, if_n, if_d, no_n, no_i, no_b, no_s, no_t, no_l, no_r, bi_add, bi_sub, bi_mul, bi_div, bi_mod, bi_pow, wl_ixN, b_ii, b_ss, b_ll, b_lf, b_fl, b_ff, b_tt, b_lm, b_tm, c_eqi, c_nei, c_lt, c_le, c_gt, c_ge, id_t, id_l, id_o, wl_at0, wl_at1, wl_at2, wl_at3, at_map, sl_t, sl_l, sl_o, oi_n, oi_i, bl_len, len_l, len_f, len_t, len_s, bl_maxs, bl_mins, bl_max2, bl_min2, bl_abs, bl_sum, bl_sumf, bl_all, bl_any, any_map, all_map, bl_listl, bl_listf, bl_listt, bl_tupl, bl_tupf, bl_tupt, bl_intb, bl_inti, bl_str, bl_isi, bl_sorted, bl_repr, max_t, max_l, max_o, min_t, min_l, min_o, kd_r1, kd_r2, kd_r3, kd_r4, kd_r5, kd_r6, kd_r7, ns_1, ns_2, ns_3, ns_4, ns_5, ns_6, ns_7, ns_8, lt_c, lt_d, bk_1, bk_2, bk_3, bk_4, bk_5, bk_6, bk_7, bk_8, wp_ret, wl_some, turn_u, Vf_0, Vt_0, Vm_0, Vf_1, Vt_1, Vm_1, Vf_2, Vt_2, Vm_2, Vf_3, Vt_3, Vm_3, Vf_4, Vt_4, Vm_4, Vf_5, Vt_5, Vm_5, Vf_6, Vt_6, Vm_6, Vf_7, Vt_7, Vm_7, Vf_8, Vt_8, Vm_8, Vf_9, Vt_9, Vm_9, Vf_10, Vt_10, Vm_10, Vf_11, Vt_11, Vm_11, Vf_12, Vt_12, Vm_12, Vf_13, Vt_13, Vm_13, Vf_14, Vt_14, Vm_14, Vf_15, Vt_15, Vm_15, Vf_16, Vt_16, Vm_16, Vf_17, Vt_17, Vm_17, Vf_18, Vt_18, Vm_18, Vf_19, Vt_19, Vm_19, Vf_20, Vt_20, Vm_20, Vf_21, Vt_21, Vm_21, Vf_22, Vt_22, Vm_22, Vf_23, Vt_23, Vm_23, Vf_24, Vt_24, Vm_24, Vf_25, Vt_25, Vm_25, Vf_26, Vt_26, Vm_26, Vf_27, Vt_27, Vm_27, Vf_28, Vt_28, Vm_28, Vf_29, Vt_29, Vm_29, Vf_30, Vt_30, Vm_30, Vf_31, Vt_31, Vm_31, wl_leg0, wl_leg1, wl_leg2, wl_road0, wl_road1, tg_leg, tg_road, W_over, W_held, W_ride_of, W_bounds_of, k_over, k_held, k_ride_of, k_bounds_of, W_same12, k_law_same, put_k, set_c, set_d, set_b, set_f, cln_nil, cln_n, cln_f, cln_m, cln_l, cln_d, szi, szl, dv_t, pw_t, sml_l, sml_r, decide_eq_true_eq, Int.reduceMul, Int.reduceMod, Int.reduceAdd, Int.reduceSub, Int.reduceDiv, Int.reduceNeg, Int.natAbs_zero, un_nil, un_n, un_f, un_m, fz_nil, fz_n, fz_f, fz_m, fz_l, fz_d, nl_nil, nl_n, nl_f, nl_m, nl_l, nl_d, mf_nil, mf_n, mf_f, mf_m, mf_l, mf_d, df_nil, df_n, df_f, df_m, df_l, df_d, ik_n, ik_f, ik_m, ko_n, ko_f, ko_k, ko_o, eqv_ii, cut_m, enum_map, zip_map, ints_zero, wi_n, wi_c, ba_n, ba_c, toD_f, toD_l, slo_f, slo_l, sc_i, sc_b, sc_s, sc_n, sc_l, sc_t, scr_f, scr_l, Bool.and_self, Bool.true_and, Bool.and_true, List.all_cons, List.all_nil, Int.toNat_natCast, Int.natCast_nonneg, Int.reduceLT, Int.reduceLE, Int.cast_ofNat_Int, c_eqS, c_neS, shp_int, shp_bool, shp_none, shp_list, shp_tuple, shpl_nil, shpl_cons, shpl_app, shpl_map, shp_leg, shp_road, implies_true, and_self, List.length_cons, List.length_nil, List.length_map, List.cons_append, List.nil_append, Nat.reduceAdd, Nat.reduceLT, Nat.reduceLeDiff, Nat.zero_add, Int.reduceNeg, Int.reducePow, Int.reduceToNat, true_and, and_true, reduceIte, eq_self, decide_true, decide_false, Bool.not_true, Bool.not_false, Bool.false_eq_true, Bool.true_eq_false, false_implies, forall_const, not_true_eq_false, not_false_eq_true, G_0, L_0, G_1, L_1, G_2, L_2, G_3, L_3, G_4, L_4, G_5, L_5, G_6, L_6, G_7, L_7, G_8, L_8, G_9, L_9, G_10, L_10, G_11, L_11, G_12, L_12, G_13, L_13, G_14, L_14, G_15, L_15, G_16, L_16, G_17, L_17, G_18, L_18, G_19, L_19, G_20, L_20, G_21, L_21, G_22, L_22, G_23, L_23, G_24, L_24, G_25, L_25, G_26, L_26, G_27, L_27, G_28, L_28, G_29, L_29, G_30, L_30, G_31, L_31, intsD, shq_list, shq_tuple, shql_cons, shql_nil, shql_app, shql_map, shq_int, shq_none, shq_bool, $xs,*])
local macro_rules | `(tactic| simp_all? [$xs,*]) => `(tactic| simp only [↓e_const, ↓e_bop, ↓e_neg, ↓e_cop, ↓e_ch2, ↓e_isN, ↓e_notN, ↓e_not, ↓e_and, ↓e_or, ↓e_ife, ↓e_idx, ↓e_slc, ↓e_asI, ↓e_rev, ↓e_tup, ↓e_lst, ↓e_call, ↓e_callk, ↓e_bi, ↓e_comp, ↓es_nil, ↓es_cons, ↓ts_nil, ↓ts_cons, ↓it_seq, ↓it_range1, ↓it_range2, ↓it_enum, ↓it_revd, ↓it_zipt, ↓it_zipf, ↓ss_nil, ↓ss_last, ↓s_setv, ↓s_sett, ↓s_par, ↓s_ext, ↓s_mt0, ↓mt0_l, ↓mt0_rev, ↓mt0_clr, ↓s_aug, ↓aug_i, ↓aug_l, ↓augL_l, ↓seti_l, ↓own_l, ↓s_seti, ↓s_expr, ↓app_l, ↓s_app, ↓s_iff, ↓s_whl, ↓s_for, ↓ret_v, ↓ret_s, ↓retS_l, ↓s_ret, ↓s_retN, ↓s_brk, ↓s_cont, ↓s_pass, ↓s_never, ↓nx_n, ↓nx_r, ↓nx_b, ↓nx_c, ↓fl_n, ↓fl_c, ↓fl_b, ↓fl_r, ↓vl_v, ↓vl_s, ↓putr_f, ↓putr_l, ↓tg_n, ↓tg_t, ↓tgs_n, ↓tgs_c, ↓pa_n, ↓pa_c, ↓par_n, ↓par_v, ↓par_s, ↓rd_v, ↓rd_s, ↓rdS_m, ↓ri_v, ↓hd_f, ↓hd_l, ↓hd_s, ↓hs_c, ↓hs_l, ↓hds_n, ↓hds_c, ↓rds_n, ↓rds_c, ↓ab_v, ↓sq_l, ↓sq_t, ↓pd_n, ↓pd_c, ↓ix_z, ↓ix_s, ↓if_t, ↓if_f, ↓if_n, ↓if_d, ↓no_n, ↓no_i, ↓no_b, ↓no_s, ↓no_t, ↓no_l, ↓no_r, ↓bi_add, ↓bi_sub, ↓bi_mul, ↓bi_div, ↓bi_mod, ↓bi_pow, ↓wl_ixN, ↓b_ii, ↓b_ss, ↓b_ll, ↓b_lf, ↓b_fl, ↓b_ff, ↓b_tt, ↓b_lm, ↓b_tm, ↓c_eqi, ↓c_nei, ↓c_lt, ↓c_le, ↓c_gt, ↓c_ge, ↓id_t, ↓id_l, ↓id_o, ↓wl_at0, ↓wl_at1, ↓wl_at2, ↓wl_at3, ↓at_map, ↓sl_t, ↓sl_l, ↓sl_o, ↓oi_n, ↓oi_i, ↓bl_len, ↓len_l, ↓len_f, ↓len_t, ↓len_s, ↓bl_maxs, ↓bl_mins, ↓bl_max2, ↓bl_min2, ↓bl_abs, ↓bl_sum, ↓bl_sumf, ↓bl_all, ↓bl_any, ↓any_map, ↓all_map, ↓bl_listl, ↓bl_listf, ↓bl_listt, ↓bl_tupl, ↓bl_tupf, ↓bl_tupt, ↓bl_intb, ↓bl_inti, ↓bl_str, ↓bl_isi, ↓bl_sorted, ↓bl_repr, ↓max_t, ↓max_l, ↓max_o, ↓min_t, ↓min_l, ↓min_o, ↓kd_r1, ↓kd_r2, ↓kd_r3, ↓kd_r4, ↓kd_r5, ↓kd_r6, ↓kd_r7, ↓ns_1, ↓ns_2, ↓ns_3, ↓ns_4, ↓ns_5, ↓ns_6, ↓ns_7, ↓ns_8, ↓lt_c, ↓lt_d, ↓bk_1, ↓bk_2, ↓bk_3, ↓bk_4, ↓bk_5, ↓bk_6, ↓bk_7, ↓bk_8, ↓wp_ret, ↓wl_some, ↓turn_u, ↓Vf_0, ↓Vt_0, ↓Vm_0, ↓Vf_1, ↓Vt_1, ↓Vm_1, ↓Vf_2, ↓Vt_2, ↓Vm_2, ↓Vf_3, ↓Vt_3, ↓Vm_3, ↓Vf_4, ↓Vt_4, ↓Vm_4, ↓Vf_5, ↓Vt_5, ↓Vm_5, ↓Vf_6, ↓Vt_6, ↓Vm_6, ↓Vf_7, ↓Vt_7, ↓Vm_7, ↓Vf_8, ↓Vt_8, ↓Vm_8, ↓Vf_9, ↓Vt_9, ↓Vm_9, ↓Vf_10, ↓Vt_10, ↓Vm_10, ↓Vf_11, ↓Vt_11, ↓Vm_11, ↓Vf_12, ↓Vt_12, ↓Vm_12, ↓Vf_13, ↓Vt_13, ↓Vm_13, ↓Vf_14, ↓Vt_14, ↓Vm_14, ↓Vf_15, ↓Vt_15, ↓Vm_15, ↓Vf_16, ↓Vt_16, ↓Vm_16, ↓Vf_17, ↓Vt_17, ↓Vm_17, ↓Vf_18, ↓Vt_18, ↓Vm_18, ↓Vf_19, ↓Vt_19, ↓Vm_19, ↓Vf_20, ↓Vt_20, ↓Vm_20, ↓Vf_21, ↓Vt_21, ↓Vm_21, ↓Vf_22, ↓Vt_22, ↓Vm_22, ↓Vf_23, ↓Vt_23, ↓Vm_23, ↓Vf_24, ↓Vt_24, ↓Vm_24, ↓Vf_25, ↓Vt_25, ↓Vm_25, ↓Vf_26, ↓Vt_26, ↓Vm_26, ↓Vf_27, ↓Vt_27, ↓Vm_27, ↓Vf_28, ↓Vt_28, ↓Vm_28, ↓Vf_29, ↓Vt_29, ↓Vm_29, ↓Vf_30, ↓Vt_30, ↓Vm_30, ↓Vf_31, ↓Vt_31, ↓Vm_31, ↓wl_leg0, ↓wl_leg1, ↓wl_leg2, ↓wl_road0, ↓wl_road1, ↓tg_leg, ↓tg_road, ↓W_over, ↓W_held, ↓W_ride_of, ↓W_bounds_of, ↓k_over, ↓k_held, ↓k_ride_of, ↓k_bounds_of, ↓W_same12, ↓k_law_same, e_const, e_bop, e_neg, e_cop, e_ch2, e_isN, e_notN, e_not, e_and, e_or, e_ife, e_idx, e_slc, e_asI, e_rev, e_tup, e_lst, e_call, e_callk, e_bi, e_comp, es_nil, es_cons, ts_nil, ts_cons, it_seq, it_range1, it_range2, it_enum, it_revd, it_zipt, it_zipf, ss_nil, ss_last, s_setv, s_sett, s_par, s_ext, s_mt0, mt0_l, mt0_rev, mt0_clr, s_aug, aug_i, aug_l, augL_l, seti_l, own_l, s_seti, s_expr, app_l, s_app, s_iff, s_whl, s_for, ret_v, ret_s, retS_l, s_ret, s_retN, s_brk, s_cont, s_pass, s_never, nx_n, nx_r, nx_b, nx_c, fl_n, fl_c, fl_b, fl_r, vl_v, vl_s, putr_f, putr_l, tg_n, tg_t, tgs_n, tgs_c, pa_n, pa_c, par_n, par_v, par_s, rd_v, rd_s, rdS_m, ri_v, hd_f, hd_l, hd_s, hs_c, hs_l, hds_n, hds_c, rds_n, rds_c, ab_v, sq_l, sq_t, pd_n, pd_c, ix_z, ix_s, if_t, if_f, if_n, if_d, no_n, no_i, no_b, no_s, no_t, no_l, no_r, bi_add, bi_sub, bi_mul, bi_div, bi_mod, bi_pow, wl_ixN, b_ii, b_ss, b_ll, b_lf, b_fl, b_ff, b_tt, b_lm, b_tm, c_eqi, c_nei, c_lt, c_le, c_gt, c_ge, id_t, id_l, id_o, wl_at0, wl_at1, wl_at2, wl_at3, at_map, sl_t, sl_l, sl_o, oi_n, oi_i, bl_len, len_l, len_f, len_t, len_s, bl_maxs, bl_mins, bl_max2, bl_min2, bl_abs, bl_sum, bl_sumf, bl_all, bl_any, any_map, all_map, bl_listl, bl_listf, bl_listt, bl_tupl, bl_tupf, bl_tupt, bl_intb, bl_inti, bl_str, bl_isi, bl_sorted, bl_repr, max_t, max_l, max_o, min_t, min_l, min_o, kd_r1, kd_r2, kd_r3, kd_r4, kd_r5, kd_r6, kd_r7, ns_1, ns_2, ns_3, ns_4, ns_5, ns_6, ns_7, ns_8, lt_c, lt_d, bk_1, bk_2, bk_3, bk_4, bk_5, bk_6, bk_7, bk_8, wp_ret, wl_some, turn_u, Vf_0, Vt_0, Vm_0, Vf_1, Vt_1, Vm_1, Vf_2, Vt_2, Vm_2, Vf_3, Vt_3, Vm_3, Vf_4, Vt_4, Vm_4, Vf_5, Vt_5, Vm_5, Vf_6, Vt_6, Vm_6, Vf_7, Vt_7, Vm_7, Vf_8, Vt_8, Vm_8, Vf_9, Vt_9, Vm_9, Vf_10, Vt_10, Vm_10, Vf_11, Vt_11, Vm_11, Vf_12, Vt_12, Vm_12, Vf_13, Vt_13, Vm_13, Vf_14, Vt_14, Vm_14, Vf_15, Vt_15, Vm_15, Vf_16, Vt_16, Vm_16, Vf_17, Vt_17, Vm_17, Vf_18, Vt_18, Vm_18, Vf_19, Vt_19, Vm_19, Vf_20, Vt_20, Vm_20, Vf_21, Vt_21, Vm_21, Vf_22, Vt_22, Vm_22, Vf_23, Vt_23, Vm_23, Vf_24, Vt_24, Vm_24, Vf_25, Vt_25, Vm_25, Vf_26, Vt_26, Vm_26, Vf_27, Vt_27, Vm_27, Vf_28, Vt_28, Vm_28, Vf_29, Vt_29, Vm_29, Vf_30, Vt_30, Vm_30, Vf_31, Vt_31, Vm_31, wl_leg0, wl_leg1, wl_leg2, wl_road0, wl_road1, tg_leg, tg_road, W_over, W_held, W_ride_of, W_bounds_of, k_over, k_held, k_ride_of, k_bounds_of, W_same12, k_law_same, put_k, set_c, set_d, set_b, set_f, cln_nil, cln_n, cln_f, cln_m, cln_l, cln_d, szi, szl, dv_t, pw_t, sml_l, sml_r, decide_eq_true_eq, Int.reduceMul, Int.reduceMod, Int.reduceAdd, Int.reduceSub, Int.reduceDiv, Int.reduceNeg, Int.natAbs_zero, un_nil, un_n, un_f, un_m, fz_nil, fz_n, fz_f, fz_m, fz_l, fz_d, nl_nil, nl_n, nl_f, nl_m, nl_l, nl_d, mf_nil, mf_n, mf_f, mf_m, mf_l, mf_d, df_nil, df_n, df_f, df_m, df_l, df_d, ik_n, ik_f, ik_m, ko_n, ko_f, ko_k, ko_o, eqv_ii, cut_m, enum_map, zip_map, ints_zero, wi_n, wi_c, ba_n, ba_c, toD_f, toD_l, slo_f, slo_l, sc_i, sc_b, sc_s, sc_n, sc_l, sc_t, scr_f, scr_l, Bool.and_self, Bool.true_and, Bool.and_true, List.all_cons, List.all_nil, Int.toNat_natCast, Int.natCast_nonneg, Int.reduceLT, Int.reduceLE, Int.cast_ofNat_Int, c_eqS, c_neS, shp_int, shp_bool, shp_none, shp_list, shp_tuple, shpl_nil, shpl_cons, shpl_app, shpl_map, shp_leg, shp_road, implies_true, and_self, List.length_cons, List.length_nil, List.length_map, List.cons_append, List.nil_append, Nat.reduceAdd, Nat.reduceLT, Nat.reduceLeDiff, Nat.zero_add, Int.reduceNeg, Int.reducePow, Int.reduceToNat, true_and, and_true, reduceIte, eq_self, decide_true, decide_false, Bool.not_true, Bool.not_false, Bool.false_eq_true, Bool.true_eq_false, false_implies, forall_const, not_true_eq_false, not_false_eq_true, G_0, L_0, G_1, L_1, G_2, L_2, G_3, L_3, G_4, L_4, G_5, L_5, G_6, L_6, G_7, L_7, G_8, L_8, G_9, L_9, G_10, L_10, G_11, L_11, G_12, L_12, G_13, L_13, G_14, L_14, G_15, L_15, G_16, L_16, G_17, L_17, G_18, L_18, G_19, L_19, G_20, L_20, G_21, L_21, G_22, L_22, G_23, L_23, G_24, L_24, G_25, L_25, G_26, L_26, G_27, L_27, G_28, L_28, G_29, L_29, G_30, L_30, G_31, L_31, intsD, shq_list, shq_tuple, shql_cons, shql_nil, shql_app, shql_map, shq_int, shq_none, shq_bool, cln_x, un_x, fz_x, nl_x, mf_x, df_x, ik_x, ko_x, $xs,*])
/-- at one station, who comes later -/
def tAt (A B : List (List Int)) (k : Int) : List Ev := ((ix A k).zipIdx.filter fun q => decide (q.1 < ix (ix B k) (q.2 : Nat))).map fun q => (k, (q.2 : Int), ix (ix B k) (q.2 : Nat) - q.1)
def touchN (r : Road) (b c : List Int) : List Ev := (List.range r.legs.length).flatMap fun m => tAt (booksN r.ps b) (booksN r.ps c) (1 + (m : Nat))
theorem tAt_len (A B : List (List Int)) (k : Int) : (tAt A B k).length ≤ (ix A k).length := by
  unfold tAt
  rw [List.length_map]
  exact Nat.le_trans (List.length_filter_le _ _) (by rw [List.length_zipIdx]; exact Nat.le_refl _)
theorem flat_le {α β : Type} {f : α → List β} {m : Nat} : ∀ l : List α, (∀ x ∈ l, (f x).length ≤ m) → (l.flatMap f).length ≤ l.length * m
  | [], _ => by simp
  | x :: l, h => by
    rw [List.flatMap_cons, List.length_append, List.length_cons, Nat.add_mul, Nat.one_mul]
    have h2 := h x (by simp)
    have h3 := flat_le l (fun q hq => h q (by simp [hq]))
    omega
theorem its_one (n : Nat) : itInts 1 n = (List.range n).map fun k => .int (1 + (k : Nat)) := rfl
theorem W_touched {r : Road} {b : List Int} {w y : Int} (ok : RbOk r b) (hl : r.legs.length ≤ 1000) (hb : b.length ≤ 1000) (hw : 0 ≤ w) (hw' : w < b.length) (Q : R → Sto → Prop) :
    wp (f_touched.sf [some (.frz (roadD r)), some (.frz (.tuple (b.map .int))), some (.frz (.int w)), some (.frz (.int y))]) Q = Q (.lst ((touchN r b (laterN b w y)).map evD)) [none, none, none, none] := by
  refine wp_rw (fun Q q => ?_) Q
  have okl := ok.later w y
  simp_all? only [o_touched, ↓u_touched_2a_0a, ↓u_touched_2a, ↓u_touched__3, ↓u_touched__2, ↓u_touched__1, ↓u_touched, k_books_to, k_sets_later, W_sets_later ok.bl hw hw', W_books_to ok.leq ok.ll ok.bl, W_books_to okl.leq okl.ll okl.bl, ps_take ok.leq, books_len, ps_len ok.leq]
  have hA : (booksN r.ps b).length = r.legs.length + 1 := by rw [books_len, ps_len ok.leq]
  have hB : (booksN r.ps (laterN b w y)).length = r.legs.length + 1 := by rw [books_len, ps_len ok.leq]
  have lA : ∀ k : Int, 0 ≤ k → k ≤ r.legs.length → (ix (booksN r.ps b) k).length = b.length := fun k h1 h2 => ix_books_len ok.leq h1 h2
  have lB : ∀ k : Int, 0 ≤ k → k ≤ r.legs.length → (ix (booksN r.ps (laterN b w y)) k).length = b.length := fun k h1 h2 => by rw [ix_books_len ok.leq h1 h2, later_len]
  unfold touchN at q
  generalize booksN r.ps b = A at *
  generalize booksN r.ps (laterN b w y) = B at *
  rw [its_one]
  refine ⟨⟨by omega, by omega⟩, for_inv (ys := List.range r.legs.length) (fun pre ρ' => ∃ (x7 x8 x9 : Option Sl), ρ' = [some (.frz (roadD r)), some (.frz (.tuple (b.map .int))), some (.frz (.int w)), some (.frz (.int y)), some (.mut .clean false (A.map intsD)), some (.mut .clean false (B.map intsD)), some (.mut .clean false ((pre.flatMap fun m => tAt A B (1 + (m : Nat))).map evD)), x7, x8, x9] ∧ fr x7 = true ∧ fr x8 = true ∧ fr x9 = true) (by congr 2; omega) ⟨none, none, none, rfl, rfl, rfl, rfl⟩ ?_ ?_⟩
  · rintro pre m post ρ e ⟨x7, x8, x9, rfl, h7, h8, h9⟩
    have hm : m < r.legs.length := List.mem_range.mp (by rw [e]; simp)
    have hp : pre.length + 1 ≤ r.legs.length := by
      have := congrArg List.length e
      simp at this; omega
    have hpre : ∀ x ∈ pre, x < r.legs.length := fun x hx => List.mem_range.mp (by rw [e]; simp [hx])
    have f1 := flat_le (f := fun m : Nat => tAt A B (1 + (m : Nat))) (m := b.length) pre (fun x hx => by have := tAt_len A B (1 + (x : Nat)); rw [lA _ (by omega) (by have := hpre x hx; omega)] at this; exact this)
    have f2 : pre.length * b.length ≤ 1000 * 1000 := Nat.mul_le_mul (by omega) hb
    have g1 := lA (1 + (m : Nat)) (by omega) (by omega)
    have g2 := lB (1 + (m : Nat)) (by omega) (by omega)
    simp_all? [o_touched, ↓u_touched_2a_0a, ↓u_touched_2a, ↓u_touched__3, ↓u_touched__2, ↓u_touched__1, ↓u_touched, h7, h8, h9, hA]
    refine ⟨⟨by omega, by omega⟩, ?_⟩
    refine for_inv (ys := (ix A (1 + (m : Nat))).zipIdx) (fun pr ρ' => ∃ (x8 x9 : Option Sl), ρ' = [some (.frz (roadD r)), some (.frz (.tuple (b.map .int))), some (.frz (.int w)), some (.frz (.int y)), some (.mut .clean false (A.map intsD)), some (.mut .clean false (B.map intsD)), some (.mut .clean false (((pre.flatMap fun m => tAt A B (1 + (m : Nat))) ++ ((pr.filter fun q => decide (q.1 < ix (ix B (1 + (m : Nat))) (q.2 : Nat))).map fun q => ((1 + (m : Nat) : Int), (q.2 : Int), ix (ix B (1 + (m : Nat))) (q.2 : Nat) - q.1))).map evD)), some (.frz (.int (1 + (m : Nat)))), x8, x9] ∧ fr x8 = true ∧ fr x9 = true) rfl ⟨x8, x9, by simp, h8, h9⟩ ?_ ?_
    · rintro pr ⟨x, i⟩ po ρ e' ⟨x8, x9, rfl, h8, h9⟩
      have hi : i < b.length := by
        have : (x, i) ∈ (ix A (1 + (m : Nat))).zipIdx := by rw [e']; simp
        have := List.snd_lt_of_mem_zipIdx this
        simp only [Nat.zero_add] at this
        rw [g1] at this; exact this
      have hpr : pr.length ≤ b.length := by
        have := congrArg List.length e'
        rw [List.length_zipIdx, g1] at this
        simp at this; omega
      have hfl : (pr.filter fun q => decide (q.1 < ix (ix B (1 + (m : Nat))) (q.2 : Nat))).length ≤ pr.length := List.length_filter_le _ _
      have hfm : ((pre.flatMap fun m => tAt A B (1 + (m : Nat))) ++ ((pr.filter fun q => decide (q.1 < ix (ix B (1 + (m : Nat))) (q.2 : Nat))).map fun q => (((1 + (m : Nat) : Int), (q.2 : Int), ix (ix B (1 + (m : Nat))) (q.2 : Nat) - q.1) : Ev))).length ≤ 1001000 := by
        rw [List.length_append, List.length_map]; omega
      by_cases z : x < ix (ix B (1 + (m : Nat))) (i : Nat)
      · have hz : (x < ix (ix B (1 + (m : Nat))) (i : Nat)) = True := eq_true z
        simp_all? [o_touched, ↓u_touched_2a_0a, ↓u_touched_2a, ↓u_touched__3, ↓u_touched__2, ↓u_touched__1, ↓u_touched, h8, h9, hB, g2, hz, if_true, Int.reduceToNat, List.replicate_one, List.flatten_cons, List.flatten_nil, List.append_nil, Nat.mul_one]
        refine ⟨by omega, by omega, by omega, by omega, by omega, some (.frz (.int i)), some (.frz (.int x)), ?_, rfl, rfl⟩
        rw [List.filter_append, List.filter_cons, if_pos (decide_eq_true z), List.filter_nil, List.map_append (l₁ := pr.filter _), ← List.append_assoc, List.map_append (l₂ := List.map _ [(x, i)])]
        rfl
      · have hz : (x < ix (ix B (1 + (m : Nat))) (i : Nat)) = False := eq_false z
        simp_all? [o_touched, ↓u_touched_2a_0a, ↓u_touched_2a, ↓u_touched__3, ↓u_touched__2, ↓u_touched__1, ↓u_touched, h8, h9, hB, g2, hz, if_false, Int.reduceToNat, List.replicate_zero, List.flatten_nil, List.append_nil, Nat.mul_zero, Nat.add_zero]
        refine ⟨by omega, by omega, by omega, by omega, by omega, some (.frz (.int i)), some (.frz (.int x)), ?_, rfl, rfl⟩
        rw [List.filter_append, List.filter_cons, if_neg (by simp; omega), List.filter_nil, List.append_nil]
    · rintro ρ ⟨x8, x9, rfl, h8, h9⟩
      simp_all? [o_touched, ↓u_touched_2a_0a, ↓u_touched_2a, ↓u_touched__3, ↓u_touched__2, ↓u_touched__1, ↓u_touched, h8, h9]
      refine ⟨some (.frz (.int (1 + (m : Nat)))), x8, x9, ?_, rfl, h8, h9⟩
      rw [List.flatMap_append, List.flatMap_cons, List.flatMap_nil, List.append_nil]
      rfl
  · rintro ρ ⟨x7, x8, x9, rfl, h7, h8, h9⟩
    simp_all? [o_touched, ↓u_touched_2a_0a, ↓u_touched_2a, ↓u_touched__3, ↓u_touched__2, ↓u_touched__1, ↓u_touched, h7, h8, h9]
    exact q
/-- later comings as they differ, where none is sooner -/
theorem tAt_ne {A B : List (List Int)} {k : Int} (h : ∀ i : Nat, i < (ix A k).length → ix (ix A k) i ≤ ix (ix B k) i) : tAt A B k = ((ix A k).zipIdx.filter fun q => !decide (ix (ix B k) (q.2 : Nat) = q.1)).map fun q => (k, (q.2 : Int), ix (ix B k) (q.2 : Nat) - q.1) := by
  unfold tAt
  congr 1
  refine List.filter_congr fun q hq => ?_
  have h1 : q.2 < (ix A k).length := by have := List.snd_lt_of_mem_zipIdx hq; omega
  have h2 := h q.2 h1
  have h3 : ix (ix A k) (q.2 : Nat) = q.1 := by
    rw [ix_get h1]
    have := List.fst_eq_of_mem_zipIdx hq
    simpa using this.symm
  rw [h3] at h2
  by_cases z : ix (ix B k) (q.2 : Nat) = q.1
  · rw [decide_eq_false (by omega), decide_eq_true z]; rfl
  · rw [decide_eq_true (by omega), decide_eq_false z]; rfl
end Rx
set_option Elab.async false
set_option linter.all false
set_option maxHeartbeats 4000000
/-! SpG: delays put together; what is touched, looked up -/
namespace Rx
open PySem PySem.Spec L2
theorem later_zero {b : List Int} {w : Int} (s : Srt b) (hw : 0 ≤ w) : laterN b w 0 = b := by
  refine list_ext_ix (later_len _ _ _) fun i hi => ?_
  rw [later_len] at hi
  rw [ix_later hi]
  by_cases z : (i : Int) < w
  · rw [if_pos z]
  · rw [if_neg z]
    have := srt_le s hw (show w ≤ (i : Int) by omega) (by omega)
    omega
theorem later_later {b : List Int} {w x y : Int} (s : Srt b) (hw : 0 ≤ w) (hw' : w < b.length) (hx : 0 ≤ x) (hy : 0 ≤ y) : laterN (laterN b w x) w y = laterN b w (x + y) := by
  refine list_ext_ix (by rw [later_len, later_len, later_len]) fun i hi => ?_
  rw [later_len, later_len] at hi
  have e1 : ix (laterN b w x) w = max (ix b w) (ix b w + x) := by
    obtain ⟨n, rfl⟩ := Int.eq_ofNat_of_zero_le hw
    rw [ix_later (by omega), if_neg (by omega)]
  rw [ix_later (by rw [later_len]; exact hi), ix_later hi, ix_later hi, e1]
  by_cases z : (i : Int) < w
  · rw [if_pos z, if_pos z, if_pos z]
  · rw [if_neg z, if_neg z, if_neg z]; omega
theorem srt_of {b : List Int} (h : ∀ i j : Nat, i < j → j < b.length → ix b i ≤ ix b j) : Srt b := by
  refine List.pairwise_iff_getElem.mpr fun i j hi hj hij => ?_
  have := h i j hij hj
  rwa [ix_get hi, ix_get hj] at this
theorem later_srt {b : List Int} {w y : Int} (s : Srt b) (hw : 0 ≤ w) (hw' : w < b.length) (hy : 0 ≤ y) : Srt (laterN b w y) := by
  refine srt_of fun i j hij hj => ?_
  rw [later_len] at hj
  rw [ix_later (by omega), ix_later hj]
  have h1 := srt_le s (i := (i : Int)) (j := (j : Int)) (by omega) (by omega) (by omega)
  by_cases z : (i : Int) < w
  · rw [if_pos z]
    split <;> omega
  · rw [if_neg z, if_neg (by omega)]; omega
theorem tAt_eq {r : Road} {b c : List Int} (hr : r.legs.length = r.firsts.length) (hcb : c.length = b.length) {m : Nat} (hm : m < r.legs.length) :
    tAt (booksN r.ps b) (booksN r.ps c) (1 + (m : Nat)) = ((List.range b.length).filter fun i => decide (comeN r b (i : Nat) (1 + (m : Nat)) < comeN r c (i : Nat) (1 + (m : Nat)))).map fun i => ((1 + (m : Nat) : Int), ((i : Nat) : Int), comeN r c (i : Nat) (1 + (m : Nat)) - comeN r b (i : Nat) (1 + (m : Nat))) := by
  have hA := ix_books_len (b := b) (k := (1 + (m : Nat) : Int)) hr (by omega) (by omega)
  have e : (ix (booksN r.ps b) (1 + (m : Nat))).zipIdx = (List.range b.length).map fun i => (comeN r b (i : Nat) (1 + (m : Nat)), i) := by
    refine List.ext_getElem (by rw [List.length_zipIdx, hA, List.length_map, List.length_range]) fun i h1 h2 => ?_
    rw [List.length_zipIdx, hA] at h1
    rw [List.getElem_zipIdx, List.getElem_map, List.getElem_range, ← ix_get, ix_books_come hr (by omega) (by omega), Nat.zero_add]
  unfold tAt
  rw [e, List.filter_map, List.map_map]
  have e2 : ∀ i : Nat, ix (ix (booksN r.ps c) (1 + (m : Nat))) i = comeN r c i (1 + (m : Nat)) := fun i => ix_books_come hr (by omega) (by omega)
  simp only [Function.comp_def, e2]
/-- station by station, rider by rider -/
def klt (a b : Ev) : Prop := a.1 < b.1 ∨ (a.1 = b.1 ∧ a.2.1 < b.2.1)
theorem touch_lt {r : Road} {b c : List Int} (hr : r.legs.length = r.firsts.length) (hcb : c.length = b.length) : (touchN r b c).Pairwise klt := by
  unfold touchN
  rw [List.pairwise_flatMap]
  refine ⟨fun m hm => ?_, ?_⟩
  · rw [tAt_eq hr hcb (List.mem_range.mp hm), List.pairwise_map]
    refine List.Pairwise.filter _ ?_
    exact List.pairwise_lt_range.imp fun {x y} h => .inr ⟨rfl, by simp; exact h⟩
  · refine List.Pairwise.imp_of_mem (fun {x y} hx hy h => ?_) List.pairwise_lt_range
    intro p hp q hq
    rw [tAt_eq hr hcb (List.mem_range.mp hx)] at hp
    rw [tAt_eq hr hcb (List.mem_range.mp hy)] at hq
    obtain ⟨i, _, rfl⟩ := List.mem_map.mp hp
    obtain ⟨j, _, rfl⟩ := List.mem_map.mp hq
    exact .inl (by simp; exact h)
theorem mem_touch {r : Road} {b c : List Int} (hr : r.legs.length = r.firsts.length) (hcb : c.length = b.length) {e : Ev} : e ∈ touchN r b c ↔ ∃ k i : Nat, 1 ≤ k ∧ k ≤ r.legs.length ∧ i < b.length ∧ comeN r b i k < comeN r c i k ∧ e = ((k : Int), (i : Int), comeN r c i k - comeN r b i k) := by
  unfold touchN
  rw [List.mem_flatMap]
  constructor
  · rintro ⟨m, hm, he⟩
    rw [tAt_eq hr hcb (List.mem_range.mp hm)] at he
    obtain ⟨i, hi, rfl⟩ := List.mem_map.mp he
    obtain ⟨h1, h2⟩ := List.mem_filter.mp hi
    have hm := List.mem_range.mp hm
    refine ⟨1 + m, i, by omega, by omega, List.mem_range.mp h1, ?_, ?_⟩
    · have := of_decide_eq_true h2
      rw [show ((1 + m : Nat) : Int) = 1 + (m : Int) by omega]; exact this
    · rw [show ((1 + m : Nat) : Int) = 1 + (m : Int) by omega]
  · rintro ⟨k, i, h1, h2, h3, h4, rfl⟩
    refine ⟨k - 1, List.mem_range.mpr (by omega), ?_⟩
    rw [tAt_eq hr hcb (by omega)]
    have e : (1 + ((k - 1 : Nat) : Int)) = (k : Int) := by omega
    rw [e]
    exact List.mem_map.mpr ⟨i, List.mem_filter.mpr ⟨List.mem_range.mpr h3, decide_eq_true h4⟩, rfl⟩
theorem touch_sorted {r : Road} {b c : List Int} (hr : r.legs.length = r.firsts.length) (hcb : c.length = b.length) : sortE (touchN r b c) = touchN r b c :=
  sortE_id ((touch_lt hr hcb).imp fun {x y} h => by rw [evLe_iff]; unfold klt at h; unfold tle; omega)
theorem filter_one {l : List Ev} {p : Ev → Bool} (h : l.Pairwise fun a b => ¬ (p a = true ∧ p b = true)) {e : Ev} (he : e ∈ l) (hp : p e = true) : l.filter p = [e] := by
  induction l with
  | nil => cases he
  | cons a l ih =>
    obtain ⟨h1, h2⟩ := List.pairwise_cons.mp h
    rcases List.mem_cons.mp he with rfl | he
    · rw [List.filter_cons, if_pos hp, List.filter_eq_nil_iff.mpr]
      intro x hx hpx
      exact h1 x hx ⟨hp, hpx⟩
    · rw [List.filter_cons, if_neg (fun hpa => h1 e he ⟨hpa, hp⟩), ih h2 he]
/-- what is touched at one place -/
theorem touch_at {r : Road} {b c : List Int} (hr : r.legs.length = r.firsts.length) (hcb : c.length = b.length) {k i : Nat} (hk : k ≤ r.legs.length) (hi : i < b.length) (hle : comeN r b i k ≤ comeN r c i k) :
    ((touchN r b c).filter fun e => decide (e.1 = (k : Int)) && decide (e.2.1 = (i : Int))).map (fun e => e.2.2) = if 1 ≤ k ∧ comeN r b i k < comeN r c i k then [comeN r c i k - comeN r b i k] else [] := by
  have pw : (touchN r b c).Pairwise fun x y => ¬ ((decide (x.1 = (k : Int)) && decide (x.2.1 = (i : Int))) = true ∧ (decide (y.1 = (k : Int)) && decide (y.2.1 = (i : Int))) = true) := (touch_lt hr hcb).imp fun {x y} h => by
    unfold klt at h
    simp only [Bool.and_eq_true, decide_eq_true_eq]
    omega
  by_cases z : 1 ≤ k ∧ comeN r b i k < comeN r c i k
  · rw [if_pos z, filter_one pw ((mem_touch hr hcb).mpr ⟨k, i, z.1, hk, hi, z.2, rfl⟩) (by simp)]
    rfl
  · rw [if_neg z, List.filter_eq_nil_iff.mpr]
    · rfl
    · intro e he
      obtain ⟨k', i', h1, h2, h3, h4, rfl⟩ := (mem_touch hr hcb).mp he
      simp only [Bool.and_eq_true, decide_eq_true_eq]
      rintro ⟨e1, e2⟩
      have e1 : k' = k := by omega
      have e2 : i' = i := by omega
      subst e1; subst e2
      exact z ⟨h1, h4⟩
theorem eqv_2 (a b c d : Int) : PyData.eqv (.tuple [.int a, .int b]) (.tuple [.int c, .int d]) = (decide (a = c) && decide (b = d)) := by
  rw [PyData.eqv, PyData.eqvAll, PyData.eqvAll, PyData.eqvAll, eqv_ii, eqv_ii, Bool.and_true]
theorem felt_add {r : Road} {b : List Int} {w x y i k : Int} (s : Srt b) (hw : 0 ≤ w) (hw' : w < b.length) (hx : 0 ≤ x) (hy : 0 ≤ y) : feltN r b w (x + y) i k = feltN r b w x i k + feltN r (laterN b w x) w y i k := by
  unfold feltN
  rw [later_later s hw hw' hx hy]; omega
theorem felt_zero {r : Road} {b : List Int} {w i k : Int} (s : Srt b) (hw : 0 ≤ w) : feltN r b w 0 i k = 0 := by
  unfold feltN
  rw [later_zero s hw]; omega
end Rx
set_option Elab.async false
set_option linter.all false
set_option maxHeartbeats 4000000
/-! SpW: a delay beyond all that was told -/
namespace Rx
open PySem PySem.Spec L2
/-- the road that the riders from p on find, the ones ahead gone -/
def aloneR (r : Road) (b : List Int) (p : Nat) : Road := ⟨r.legs, if p = 0 then r.firsts else (ix (comingsN r b) ((p : Int) - 1)).dropLast⟩
theorem later_far {b : List Int} {p : Nat} {far : Int} (hp : p < b.length) (h : ∀ x ∈ b, x ≤ far) : laterN b p (far - ix b p) = b.take p ++ List.replicate (b.length - p) far := by
  refine List.ext_getElem (by rw [later_len, List.length_append, List.length_take, List.length_replicate]; omega) fun i h1 h2 => ?_
  rw [later_len] at h1
  have e : (laterN b p (far - ix b p))[i] = ix (laterN b p (far - ix b p)) i := (ix_get (by rw [later_len]; exact h1)).symm
  rw [e, ix_later h1]
  have hx := h _ (List.getElem_mem h1)
  by_cases z : i < p
  · rw [if_pos (by omega), ix_get h1, List.getElem_append_left (by rw [List.length_take]; omega), List.getElem_take]
  · rw [if_neg (by omega), ix_get h1, List.getElem_append_right (by rw [List.length_take]; omega), List.getElem_replicate]
    omega
theorem take_comings {r : Road} {b : List Int} {p : Nat} (hr : r.legs.length = r.firsts.length) (hp : p ≤ b.length) (h0 : 0 < p) : comingsN r (b.take p) = (comingsN r b).take p := by
  have hl : (b.take p).length = p := by rw [List.length_take]; omega
  have := comings_app (a := b.take p) (c := b.drop p) hr (by omega)
  rw [List.take_append_drop] at this
  have hc : (comingsN r (b.take p)).length = p := by rw [comings_len, hl]
  generalize comingsN r (b.take p) = X at this hc
  rw [this, List.take_append_of_le_length (by omega), List.take_of_length_le (by omega)]
theorem behind_alone {r : Road} {b : List Int} {p : Nat} (hr : r.legs.length = r.firsts.length) (hp : p ≤ b.length) (h0 : 0 < p) : behind r (b.take p) = aloneR r b p := by
  have hl : (b.take p).length = p := by rw [List.length_take]; omega
  unfold behind aloneR
  rw [if_neg (by omega), ix_neg1 (by rw [comings_len]; omega), comings_len, hl, take_comings hr hp h0]
  have hc := comings_len r b
  conv => rhs; rw [← List.take_append_drop p (comingsN r b)]
  rw [ix_app_l (by omega) (by rw [List.length_take]; omega)]
theorem comings_far {r : Road} {b c : List Int} {p : Nat} (hr : r.legs.length = r.firsts.length) (hp : p ≤ b.length) : comingsN r (b.take p ++ c) = (comingsN r b).take p ++ comingsN (aloneR r b p) c := by
  by_cases z : p = 0
  · subst z
    rw [List.take_zero, List.take_zero, List.nil_append, List.nil_append]
    rfl
  · have hl : (b.take p).length = p := by rw [List.length_take]; omega
    rw [comings_app hr (by omega), take_comings hr hp (by omega), behind_alone hr hp (by omega)]
theorem alone_len {r : Road} {b : List Int} {p : Nat} (hr : r.legs.length = r.firsts.length) (hp : p ≤ b.length) : (aloneR r b p).legs.length = (aloneR r b p).firsts.length := by
  unfold aloneR
  by_cases z : p = 0
  · rw [if_pos z]; exact hr
  · rw [if_neg z, List.length_dropLast, told_len hr (by omega) (by omega)]
    rfl
/-- all that a far delay does -/
structure FarOk (r : Road) (b : List Int) (p : Nat) (far : Int) (A : List (List Int)) : Prop where
  eA : A = comingsN (aloneR r b p) (List.replicate (b.length - p) far)
  out : laterN b p (far - ix b p) = b.take p ++ List.replicate (b.length - p) far
  told : comingsN r (laterN b p (far - ix b p)) = (comingsN r b).take p ++ A
  len : A.length = b.length - p
  row : ∀ j : Nat, j < b.length - p → (ix A j).length = r.legs.length + 1
  at_ : ∀ j k : Nat, j < b.length - p → k ≤ r.legs.length → ix (ix A j) k = comeN r (laterN b p (far - ix b p)) ((p + j : Nat) : Int) k
  near : ∀ i k : Nat, i < p → k ≤ r.legs.length → comeN r (laterN b p (far - ix b p)) i k = comeN r b i k
  late : ∀ i k : Nat, p ≤ i → i < b.length → k ≤ r.legs.length → comeN r b i k < comeN r (laterN b p (far - ix b p)) i k
theorem far_ok {r : Road} {b : List Int} {p : Nat} {far : Int} (hr : r.legs.length = r.firsts.length) (hl : ∀ l ∈ r.legs, LegOk l) (s : Srt b) (hp : p < b.length) (h : comeN r b ((b.length : Int) - 1) r.legs.length < far) (h' : ix b (-1) < far) : FarOk r b p far (comingsN (aloneR r b p) (List.replicate (b.length - p) far)) := by
  have hb : ∀ x ∈ b, x ≤ far := fun x hx => by
    obtain ⟨i, hi, rfl⟩ := List.getElem_of_mem hx
    have := srt_le s (i := (i : Int)) (j := (b.length : Int) - 1) (by omega) (by omega) (by omega)
    rw [ix_neg1 (by omega)] at h'
    rw [ix_get hi] at this
    omega
  have out := later_far hp hb
  have told := comings_far (c := List.replicate (b.length - p) far) hr (show p ≤ b.length by omega)
  rw [← out] at told
  have hcl := comings_len r b
  have htl : ((comingsN r b).take p).length = p := by rw [List.length_take]; omega
  have hll := later_len b p (far - ix b p)
  generalize hA : comingsN (aloneR r b p) (List.replicate (b.length - p) far) = A at told
  have hAl : A.length = b.length - p := by rw [← hA, comings_len, List.length_replicate]
  have row : ∀ j : Nat, j < b.length - p → ix A j = ix (comingsN r (laterN b p (far - ix b p))) ((p + j : Nat) : Int) := fun j hj => by
    have := ix_app_r (a := (comingsN r b).take p) (c := A) (i := (j : Int)) (by omega) (by omega)
    rw [htl, ← told] at this
    rw [← this]; congr 1
  refine ⟨hA.symm, out, told, hAl, fun j hj => ?_, fun j k hj hk => ?_, fun i k hi hk => ?_, fun i k hi hi' hk => ?_⟩
  · rw [row j hj, told_len hr (by omega) (by omega)]
  · rw [row j hj, ix_told hr (by omega) (by omega) (by omega) (by omega)]
  · rw [← ix_told hr (by omega) (by omega) (by omega) (by omega), ← ix_told (b := b) hr (by omega) (by omega) (by omega) (by omega), told, ix_app_l (by omega) (by omega)]
    conv => rhs; rw [← List.take_append_drop p (comingsN r b)]
    rw [ix_app_l (by omega) (by omega)]
  · have h1 : comeN r b i k ≤ comeN r b ((b.length : Int) - 1) k := come_le hl s (by omega) (by omega) (by omega)
    have h2 := come_mono (b := b) (i := (b.length : Int) - 1) hr hl (by omega) (by omega) (m := k) (n := r.legs.length) hk (by omega)
    have h3 := come_mono (b := laterN b p (far - ix b p)) (i := (i : Int)) hr hl (by omega) (by omega) (m := 0) (n := k) (by omega) hk
    have h4 : comeN r (laterN b p (far - ix b p)) i (0 : Nat) = ix (laterN b p (far - ix b p)) i := rfl
    rw [h4, ix_later hi', if_neg (by omega)] at h3
    omega
theorem filter_ge (n p : Nat) (hp : p ≤ n) (q : Nat → Bool) (h1 : ∀ i, i < p → q i = false) (h2 : ∀ i, p ≤ i → i < n → q i = true) : (List.range n).filter q = (List.range (n - p)).map (p + ·) := by
  have e : List.range n = List.range p ++ (List.range (n - p)).map (p + ·) := by rw [← List.range_add]; congr 1; omega
  rw [e, List.filter_append, List.filter_eq_nil_iff.mpr (fun i hi => by rw [h1 i (List.mem_range.mp hi)]; simp), List.nil_append, List.filter_eq_self.mpr]
  intro x hx
  obtain ⟨j, hj, rfl⟩ := List.mem_map.mp hx
  have := List.mem_range.mp hj
  exact h2 _ (by omega) (by omega)
/-- what the law reckons: station by station, from rider p on -/
def dueAt (r : Road) (b : List Int) (p : Nat) (A : List (List Int)) (m : Nat) : List Ev := (List.range (b.length - p)).map fun j => ((1 + (m : Nat) : Int), ((p + j : Nat) : Int), ix (ix A j) (1 + (m : Nat)) - ix (ix (comingsN r b) ((p + j : Nat) : Int)) (1 + (m : Nat)))
theorem touch_far {r : Road} {b : List Int} {p : Nat} {far : Int} {A : List (List Int)} (hr : r.legs.length = r.firsts.length) (hp : p < b.length) (ok : FarOk r b p far A) : touchN r b (laterN b p (far - ix b p)) = (List.range r.legs.length).flatMap (dueAt r b p A) := by
  unfold touchN
  rw [List.flatMap_def, List.flatMap_def]
  congr 1
  refine List.map_congr_left fun m hm => ?_
  have hm := List.mem_range.mp hm
  have e1 : (1 + (m : Nat) : Int) = ((1 + m : Nat) : Int) := by omega
  rw [tAt_eq hr (later_len _ _ _) hm, filter_ge b.length p (by omega) _ (fun i hi => ?_) (fun i hi hi' => ?_), List.map_map]
  · unfold dueAt
    refine List.map_congr_left fun j hj => ?_
    have hj := List.mem_range.mp hj
    simp only [Function.comp_def]
    rw [e1, ok.at_ j (1 + m) hj (by omega), ix_told hr (by omega) (by omega) (by omega) (by omega)]
  · rw [e1, ok.near i (1 + m) hi (by omega)]
    simp
  · rw [e1]
    have := ok.late i (1 + m) hi hi' (by omega)
    simp only [decide_eq_true_eq]
    exact this
end Rx
set_option Elab.async false
set_option linter.all false
set_option maxRecDepth 100000
set_option maxHeartbeats 4000000
namespace Rx
open PySem PySem.Spec PyProof.Rows L2
def b_law_due_k09_1a : List S := [(.ext 2 (.comp (.tup [(.var 7), (.var 3), (.var 6)]) (.tup [(.nm 6), (.nm 7)]) (.enum (.var 4)) [(.cop .le (.var 7) (.var 1))] [5, 6, 7]))]
theorem u_law_due_k09_1a (s : Option Sl) (ρ : Sto) (K : Fl → Sto → Prop) : wSs b_law_due_k09_1a (s :: ρ) K = wS (.ext 2 (.comp (.tup [(.var 7), (.var 3), (.var 6)]) (.tup [(.nm 6), (.nm 7)]) (.enum (.var 4)) [(.cop .le (.var 7) (.var 1))] [5, 6, 7])) (s :: ρ) K := ss_last _ _ _
def b_law_due_k09__2 : List S := [(.ret (.bi .sorted [(.var 2)]))]
theorem u_law_due_k09__2 (s : Option Sl) (ρ : Sto) (K : Fl → Sto → Prop) : wSs b_law_due_k09__2 (s :: ρ) K = wS (.ret (.bi .sorted [(.var 2)])) (s :: ρ) K := ss_last _ _ _
def b_law_due_k09__1 : List S := (.forr (.tup [(.nm 3), (.nm 4)]) (.enum (.var 0)) b_law_due_k09_1a) :: b_law_due_k09__2
theorem u_law_due_k09__1 (s : Option Sl) (ρ : Sto) (K : Fl → Sto → Prop) : wSs b_law_due_k09__1 (s :: ρ) K = wS (.forr (.tup [(.nm 3), (.nm 4)]) (.enum (.var 0)) b_law_due_k09_1a) (s :: ρ) fun f ρ1 => nx f b_law_due_k09__2 ρ1 K := ss_cons _ _
def b_law_due_k09 : List S := (.setv 2 (.lst [])) :: b_law_due_k09__1
theorem u_law_due_k09 (s : Option Sl) (ρ : Sto) (K : Fl → Sto → Prop) : wSs b_law_due_k09 (s :: ρ) K = wS (.setv 2 (.lst [])) (s :: ρ) fun f ρ1 => nx f b_law_due_k09__1 ρ1 K := ss_cons _ _
def f_law_due_k09 : Fi := ⟨[false, false], evDef 8 b_law_due_k09⟩
theorem o_law_due_k09 (a0 a1 : Option Sl) (Q : R → Sto → Prop) : wp (f_law_due_k09.sf [a0, a1]) Q = wSs b_law_due_k09 [a0, a1, none, none, none, none, none, none] (kD 2 Q) := w_def (n := 8) (body := b_law_due_k09) (ρa := [a0, a1]) (Q := Q)
theorem k_law_due_k09 (x0 x1 : Opd) (ρ : Sto) (Q : Opd → Sto → Prop) : wCall f_law_due_k09 [x0, x1] ρ Q = wHard ρ x0 fun d0 ρ0 => wHard ρ0 x1 fun d1 ρ1 => wp (f_law_due_k09.sf [some (.frz d0), some (.frz d1)]) fun r ρo => wNs 2 ρo (Q (.val r) ρ1) := call_f2 rfl
def b_law_right_k09_5a__2 : List S := [(.setv 5 (.bop .add (.var 5) (.lst [(.var 8), (.bop .sub (.var 8) (.const (.int 1)))])))]
theorem u_law_right_k09_5a__2 (s : Option Sl) (ρ : Sto) (K : Fl → Sto → Prop) : wSs b_law_right_k09_5a__2 (s :: ρ) K = wS (.setv 5 (.bop .add (.var 5) (.lst [(.var 8), (.bop .sub (.var 8) (.const (.int 1)))]))) (s :: ρ) K := ss_last _ _ _
def b_law_right_k09_5a__1 : List S := (.setv 8 (.idx (.var 7) (.call f_law_draw [(.var 0), (.bi .len [(.var 7)])]))) :: b_law_right_k09_5a__2
theorem u_law_right_k09_5a__1 (s : Option Sl) (ρ : Sto) (K : Fl → Sto → Prop) : wSs b_law_right_k09_5a__1 (s :: ρ) K = wS (.setv 8 (.idx (.var 7) (.call f_law_draw [(.var 0), (.bi .len [(.var 7)])]))) (s :: ρ) fun f ρ1 => nx f b_law_right_k09_5a__2 ρ1 K := ss_cons _ _
def b_law_right_k09_5a : List S := (.setv 7 (.idx (.var 3) (.call f_law_draw [(.var 0), (.bi .len [(.var 3)])]))) :: b_law_right_k09_5a__1
theorem u_law_right_k09_5a (s : Option Sl) (ρ : Sto) (K : Fl → Sto → Prop) : wSs b_law_right_k09_5a (s :: ρ) K = wS (.setv 7 (.idx (.var 3) (.call f_law_draw [(.var 0), (.bi .len [(.var 3)])]))) (s :: ρ) fun f ρ1 => nx f b_law_right_k09_5a__1 ρ1 K := ss_cons _ _
def b_law_right_k09_6a_2a : List S := [(.ret (.const (.bool false)))]
theorem u_law_right_k09_6a_2a (s : Option Sl) (ρ : Sto) (K : Fl → Sto → Prop) : wSs b_law_right_k09_6a_2a (s :: ρ) K = wS (.ret (.const (.bool false))) (s :: ρ) K := ss_last _ _ _
def b_law_right_k09_6a_4a : List S := [(.ret (.const (.bool false)))]
theorem u_law_right_k09_6a_4a (s : Option Sl) (ρ : Sto) (K : Fl → Sto → Prop) : wSs b_law_right_k09_6a_4a (s :: ρ) K = wS (.ret (.const (.bool false))) (s :: ρ) K := ss_last _ _ _
def b_law_right_k09_6a__4 : List S := [(.iff (.not (.call (f_law_same 12) [(.call f_events [(.var 1), (.var 2), (.var 9)]), (.var 10)])) b_law_right_k09_6a_4a [])]
theorem u_law_right_k09_6a__4 (s : Option Sl) (ρ : Sto) (K : Fl → Sto → Prop) : wSs b_law_right_k09_6a__4 (s :: ρ) K = wS (.iff (.not (.call (f_law_same 12) [(.call f_events [(.var 1), (.var 2), (.var 9)]), (.var 10)])) b_law_right_k09_6a_4a []) (s :: ρ) K := ss_last _ _ _
def b_law_right_k09_6a__3 : List S := (.app 11 (.const (.int 0))) :: b_law_right_k09_6a__4
theorem u_law_right_k09_6a__3 (s : Option Sl) (ρ : Sto) (K : Fl → Sto → Prop) : wSs b_law_right_k09_6a__3 (s :: ρ) K = wS (.app 11 (.const (.int 0))) (s :: ρ) fun f ρ1 => nx f b_law_right_k09_6a__4 ρ1 K := ss_cons _ _
def b_law_right_k09_6a__2 : List S := (.iff (.not (.call (f_law_same 12) [(.lst [(.var 11), (.callk f_events [(.var 9), (.var 2), (.var 1)] [2, 1, 0])]), (.lst [(.var 10), (.var 10)])])) b_law_right_k09_6a_2a []) :: b_law_right_k09_6a__3
theorem u_law_right_k09_6a__2 (s : Option Sl) (ρ : Sto) (K : Fl → Sto → Prop) : wSs b_law_right_k09_6a__2 (s :: ρ) K = wS (.iff (.not (.call (f_law_same 12) [(.lst [(.var 11), (.callk f_events [(.var 9), (.var 2), (.var 1)] [2, 1, 0])]), (.lst [(.var 10), (.var 10)])])) b_law_right_k09_6a_2a []) (s :: ρ) fun f ρ1 => nx f b_law_right_k09_6a__3 ρ1 K := ss_cons _ _
def b_law_right_k09_6a__1 : List S := (.setv 11 (.call f_events [(.var 1), (.var 2), (.var 9)])) :: b_law_right_k09_6a__2
theorem u_law_right_k09_6a__1 (s : Option Sl) (ρ : Sto) (K : Fl → Sto → Prop) : wSs b_law_right_k09_6a__1 (s :: ρ) K = wS (.setv 11 (.call f_events [(.var 1), (.var 2), (.var 9)])) (s :: ρ) fun f ρ1 => nx f b_law_right_k09_6a__2 ρ1 K := ss_cons _ _
def b_law_right_k09_6a : List S := (.setv 10 (.call f_law_due_k09 [(.var 3), (.var 9)])) :: b_law_right_k09_6a__1
theorem u_law_right_k09_6a (s : Option Sl) (ρ : Sto) (K : Fl → Sto → Prop) : wSs b_law_right_k09_6a (s :: ρ) K = wS (.setv 10 (.call f_law_due_k09 [(.var 3), (.var 9)])) (s :: ρ) fun f ρ1 => nx f b_law_right_k09_6a__1 ρ1 K := ss_cons _ _
def b_law_right_k09__7 : List S := [(.ret (.const (.bool true)))]
theorem u_law_right_k09__7 (s : Option Sl) (ρ : Sto) (K : Fl → Sto → Prop) : wSs b_law_right_k09__7 (s :: ρ) K = wS (.ret (.const (.bool true))) (s :: ρ) K := ss_last _ _ _
def b_law_right_k09__6 : List S := (.forr (.nm 9) (.seq (.var 5)) b_law_right_k09_6a) :: b_law_right_k09__7
theorem u_law_right_k09__6 (s : Option Sl) (ρ : Sto) (K : Fl → Sto → Prop) : wSs b_law_right_k09__6 (s :: ρ) K = wS (.forr (.nm 9) (.seq (.var 5)) b_law_right_k09_6a) (s :: ρ) fun f ρ1 => nx f b_law_right_k09__7 ρ1 K := ss_cons _ _
def b_law_right_k09__5 : List S := (.forr (.nm 6) (.range1 (.const (.int 4))) b_law_right_k09_5a) :: b_law_right_k09__6
theorem u_law_right_k09__5 (s : Option Sl) (ρ : Sto) (K : Fl → Sto → Prop) : wSs b_law_right_k09__5 (s :: ρ) K = wS (.forr (.nm 6) (.range1 (.const (.int 4))) b_law_right_k09_5a) (s :: ρ) fun f ρ1 => nx f b_law_right_k09__6 ρ1 K := ss_cons _ _
def b_law_right_k09__4 : List S := (.setv 5 (.lst [(.bop .sub (.idx (.var 2) (.const (.int 0))) (.const (.int 1))), (.idx (.var 2) (.const (.int 0))), (.var 4), (.bop .add (.var 4) (.bop .pow (.const (.int 10)) (.const (.int 6)))), (.bop .sub (.var 4) (.const (.int 1))), (.bop .add (.idx (.var 2) (.const (.int 0))) (.call f_law_draw [(.var 0), (.bop .add (.bop .sub (.var 4) (.idx (.var 2) (.const (.int 0)))) (.const (.int 1)))]))])) :: b_law_right_k09__5
theorem u_law_right_k09__4 (s : Option Sl) (ρ : Sto) (K : Fl → Sto → Prop) : wSs b_law_right_k09__4 (s :: ρ) K = wS (.setv 5 (.lst [(.bop .sub (.idx (.var 2) (.const (.int 0))) (.const (.int 1))), (.idx (.var 2) (.const (.int 0))), (.var 4), (.bop .add (.var 4) (.bop .pow (.const (.int 10)) (.const (.int 6)))), (.bop .sub (.var 4) (.const (.int 1))), (.bop .add (.idx (.var 2) (.const (.int 0))) (.call f_law_draw [(.var 0), (.bop .add (.bop .sub (.var 4) (.idx (.var 2) (.const (.int 0)))) (.const (.int 1)))]))])) (s :: ρ) fun f ρ1 => nx f b_law_right_k09__5 ρ1 K := ss_cons _ _
def b_law_right_k09__3 : List S := (.setv 4 (.idx (.idx (.var 3) (.neg (.const (.int 1)))) (.neg (.const (.int 1))))) :: b_law_right_k09__4
theorem u_law_right_k09__3 (s : Option Sl) (ρ : Sto) (K : Fl → Sto → Prop) : wSs b_law_right_k09__3 (s :: ρ) K = wS (.setv 4 (.idx (.idx (.var 3) (.neg (.const (.int 1)))) (.neg (.const (.int 1))))) (s :: ρ) fun f ρ1 => nx f b_law_right_k09__4 ρ1 K := ss_cons _ _
def b_law_right_k09__2 : List S := (.setv 3 (.call f_law_books [(.var 1), (.var 2)])) :: b_law_right_k09__3
theorem u_law_right_k09__2 (s : Option Sl) (ρ : Sto) (K : Fl → Sto → Prop) : wSs b_law_right_k09__2 (s :: ρ) K = wS (.setv 3 (.call f_law_books [(.var 1), (.var 2)])) (s :: ρ) fun f ρ1 => nx f b_law_right_k09__3 ρ1 K := ss_cons _ _
def b_law_right_k09__1 : List S := (.setv 2 (.call f_law_outs [(.var 0), (.var 1), (.const (.int 20))])) :: b_law_right_k09__2
theorem u_law_right_k09__1 (s : Option Sl) (ρ : Sto) (K : Fl → Sto → Prop) : wSs b_law_right_k09__1 (s :: ρ) K = wS (.setv 2 (.call f_law_outs [(.var 0), (.var 1), (.const (.int 20))])) (s :: ρ) fun f ρ1 => nx f b_law_right_k09__2 ρ1 K := ss_cons _ _
def b_law_right_k09 : List S := (.setv 1 (.call f_law_line [(.var 0), (.const (.int 12))])) :: b_law_right_k09__1
theorem u_law_right_k09 (s : Option Sl) (ρ : Sto) (K : Fl → Sto → Prop) : wSs b_law_right_k09 (s :: ρ) K = wS (.setv 1 (.call f_law_line [(.var 0), (.const (.int 12))])) (s :: ρ) fun f ρ1 => nx f b_law_right_k09__1 ρ1 K := ss_cons _ _
def f_law_right_k09 : Fi := ⟨[true], evDef 12 b_law_right_k09⟩
theorem o_law_right_k09 (a0 : Option Sl) (Q : R → Sto → Prop) : wp (f_law_right_k09.sf [a0]) Q = wSs b_law_right_k09 [a0, none, none, none, none, none, none, none, none, none, none, none] (kD 1 Q) := w_def (n := 12) (body := b_law_right_k09) (ρa := [a0]) (Q := Q)
theorem k_law_right_k09 (i : Nat) (ρ : Sto) (Q : Opd → Sto → Prop) : wCall f_law_right_k09 [.slot i] ρ Q = wLt (getS ρ i) fun k l => wp (f_law_right_k09.sf [some (.mut .clean true l)]) fun r ρo => wBk 1 ρo fun l2 => Q (.val r) (ρ.set i (some (.mut .dirt k l2))) := call_t1 rfl
def b_law_k09_1a_1a : List S := [(.ret (.const (.bool false)))]
theorem u_law_k09_1a_1a (s : Option Sl) (ρ : Sto) (K : Fl → Sto → Prop) : wSs b_law_k09_1a_1a (s :: ρ) K = wS (.ret (.const (.bool false))) (s :: ρ) K := ss_last _ _ _
def b_law_k09_1a__1 : List S := [(.iff (.not (.call f_law_right_k09 [(.var 3)])) b_law_k09_1a_1a [])]
theorem u_law_k09_1a__1 (s : Option Sl) (ρ : Sto) (K : Fl → Sto → Prop) : wSs b_law_k09_1a__1 (s :: ρ) K = wS (.iff (.not (.call f_law_right_k09 [(.var 3)])) b_law_k09_1a_1a []) (s :: ρ) K := ss_last _ _ _
def b_law_k09_1a : List S := (.setv 3 (.call f_law_tape [(.var 1), (.var 2)])) :: b_law_k09_1a__1
theorem u_law_k09_1a (s : Option Sl) (ρ : Sto) (K : Fl → Sto → Prop) : wSs b_law_k09_1a (s :: ρ) K = wS (.setv 3 (.call f_law_tape [(.var 1), (.var 2)])) (s :: ρ) fun f ρ1 => nx f b_law_k09_1a__1 ρ1 K := ss_cons _ _
def b_law_k09__2 : List S := [(.ret (.const (.bool true)))]
theorem u_law_k09__2 (s : Option Sl) (ρ : Sto) (K : Fl → Sto → Prop) : wSs b_law_k09__2 (s :: ρ) K = wS (.ret (.const (.bool true))) (s :: ρ) K := ss_last _ _ _
def b_law_k09__1 : List S := (.forr (.nm 2) (.range1 (.bi .len [(.var 1)])) b_law_k09_1a) :: b_law_k09__2
theorem u_law_k09__1 (s : Option Sl) (ρ : Sto) (K : Fl → Sto → Prop) : wSs b_law_k09__1 (s :: ρ) K = wS (.forr (.nm 2) (.range1 (.bi .len [(.var 1)])) b_law_k09_1a) (s :: ρ) fun f ρ1 => nx f b_law_k09__2 ρ1 K := ss_cons _ _
def b_law_k09 : List S := (.setv 1 (.call f_law_folded [(.var 0), (.const (.int 4))])) :: b_law_k09__1
theorem u_law_k09 (s : Option Sl) (ρ : Sto) (K : Fl → Sto → Prop) : wSs b_law_k09 (s :: ρ) K = wS (.setv 1 (.call f_law_folded [(.var 0), (.const (.int 4))])) (s :: ρ) fun f ρ1 => nx f b_law_k09__1 ρ1 K := ss_cons _ _
def f_law_k09 : Fi := ⟨[false], evDef 4 b_law_k09⟩
theorem o_law_k09 (a0 : Option Sl) (Q : R → Sto → Prop) : wp (f_law_k09.sf [a0]) Q = wSs b_law_k09 [a0, none, none, none] (kD 1 Q) := w_def (n := 4) (body := b_law_k09) (ρa := [a0]) (Q := Q)
theorem k_law_k09 (x0 : Opd) (ρ : Sto) (Q : Opd → Sto → Prop) : wCall f_law_k09 [x0] ρ Q = wHard ρ x0 fun d0 ρ0 => wp (f_law_k09.sf [some (.frz d0)]) fun r ρo => wNs 1 ρo (Q (.val r) ρ0) := call_f1 rfl
end Rx
set_option Elab.async false
set_option linter.all false
set_option maxHeartbeats 4000000
/-! K09a -/
namespace Rx
open PySem PySem.Spec L2
set_option maxRecDepth 100000
local macro_rules | `(tactic| simp_all? only [$xs,*]) => `(tactic| simp only [↓e_const, ↓e_bop, ↓e_neg, ↓e_cop, ↓e_ch2, ↓e_isN, ↓e_notN, ↓e_not, ↓e_and, ↓e_or, ↓e_ife, ↓e_idx, ↓e_slc, ↓e_asI, ↓e_rev, ↓e_tup, ↓e_lst, ↓e_call, ↓e_callk, ↓e_bi, ↓e_comp, ↓es_nil, ↓es_cons, ↓ts_nil, ↓ts_cons, ↓it_seq, ↓it_range1, ↓it_range2, ↓it_enum, ↓it_revd, ↓it_zipt, ↓it_zipf, ↓ss_nil, ↓ss_last, ↓s_setv, ↓s_sett, ↓s_par, ↓s_ext, ↓s_mt0, ↓mt0_l, ↓mt0_rev, ↓mt0_clr, ↓s_aug, ↓aug_i, ↓aug_l, ↓augL_l, ↓seti_l, ↓own_l, ↓s_seti, ↓s_expr, ↓app_l, ↓s_app, ↓s_iff, ↓s_whl, ↓s_for, ↓ret_v, ↓ret_s, ↓retS_l, ↓s_ret, ↓s_retN, ↓s_brk, ↓s_cont, ↓s_pass, ↓s_never, ↓nx_n, ↓nx_r, ↓nx_b, ↓nx_c, ↓fl_n, ↓fl_c, ↓fl_b, ↓fl_r, ↓vl_v, ↓vl_s, ↓putr_f, ↓putr_l, ↓tg_n, ↓tg_t, ↓tgs_n, ↓tgs_c, ↓pa_n, ↓pa_c, ↓par_n, ↓par_v, ↓par_s, ↓rd_v, ↓rd_s, ↓rdS_m, ↓ri_v, ↓hd_f, ↓hd_l, ↓hd_s, ↓hs_c, ↓hs_l, ↓hds_n, ↓hds_c, ↓rds_n, ↓rds_c, ↓ab_v, ↓sq_l, ↓sq_t, ↓pd_n, ↓pd_c, ↓ix_z, ↓ix_s, ↓if_t, ↓if_f, ↓if_n, ↓if_d, ↓no_n, ↓no_i, ↓no_b, ↓no_s, ↓no_t, ↓no_l, ↓no_r, ↓bi_add, ↓bi_sub, ↓bi_mul, ↓bi_div, ↓bi_mod, ↓bi_pow, ↓wl_ixN, ↓b_ii, ↓b_ss, ↓b_ll, ↓b_lf, ↓b_fl, ↓b_ff, ↓b_tt, ↓b_lm, ↓b_tm, ↓c_eqi, ↓c_nei, ↓c_lt, ↓c_le, ↓c_gt, ↓c_ge, ↓id_t, ↓id_l, ↓id_o, ↓wl_at0, ↓wl_at1, ↓wl_at2, ↓wl_at3, ↓at_map, ↓sl_t, ↓sl_l, ↓sl_o, ↓oi_n, ↓oi_i, ↓bl_len, ↓len_l, ↓len_f, ↓len_t, ↓len_s, ↓bl_maxs, ↓bl_mins, ↓bl_max2, ↓bl_min2, ↓bl_abs, ↓bl_sum, ↓bl_sumf, ↓bl_all, ↓bl_any, ↓any_map, ↓all_map, ↓bl_listl, ↓bl_listf, ↓bl_listt, ↓bl_tupl, ↓bl_tupf, ↓bl_tupt, ↓bl_intb, ↓bl_inti, ↓bl_str, ↓bl_isi, ↓bl_sorted, ↓bl_repr, ↓max_t, ↓max_l, ↓max_o, ↓min_t, ↓min_l, ↓min_o, ↓kd_r1, ↓kd_r2, ↓kd_r3, ↓kd_r4, ↓kd_r5, ↓kd_r6, ↓kd_r7, ↓ns_1, ↓ns_2, ↓ns_3, ↓ns_4, ↓ns_5, ↓ns_6, ↓ns_7, ↓ns_8, ↓lt_c, ↓lt_d, ↓bk_1, ↓bk_2, ↓bk_3, ↓bk_4, ↓bk_5, ↓bk_6, ↓bk_7, ↓bk_8, ↓wp_ret, ↓wl_some, ↓turn_u, ↓Vf_0, ↓Vt_0, ↓Vm_0, ↓Vf_1, ↓Vt_1, ↓Vm_1, ↓Vf_2, ↓Vt_2, ↓Vm_2, ↓Vf_3, ↓Vt_3, ↓Vm_3, ↓Vf_4, ↓Vt_4, ↓Vm_4, ↓Vf_5, ↓Vt_5, ↓Vm_5, ↓Vf_6, ↓Vt_6, ↓Vm_6, ↓Vf_7, ↓Vt_7, ↓Vm_7, ↓Vf_8, ↓Vt_8, ↓Vm_8, ↓Vf_9, ↓Vt_9, ↓Vm_9, ↓Vf_10, ↓Vt_10, ↓Vm_10, ↓Vf_11, ↓Vt_11, ↓Vm_11, ↓Vf_12, ↓Vt_12, ↓Vm_12, ↓Vf_13, ↓Vt_13, ↓Vm_13, ↓Vf_14, ↓Vt_14, ↓Vm_14, ↓Vf_15, ↓Vt_15, ↓Vm_15, ↓Vf_16, ↓Vt_16, ↓Vm_16, ↓Vf_17, ↓Vt_17, ↓Vm_17, ↓Vf_18, ↓Vt_18, ↓Vm_18, ↓Vf_19, ↓Vt_19, ↓Vm_19, ↓Vf_20, ↓Vt_20, ↓Vm_20, ↓Vf_21, ↓Vt_21, ↓Vm_21, ↓Vf_22, ↓Vt_22, ↓Vm_22, ↓Vf_23, ↓Vt_23, ↓Vm_23, ↓Vf_24, ↓Vt_24, ↓Vm_24, ↓Vf_25, ↓Vt_25, ↓Vm_25, ↓Vf_26, ↓Vt_26, ↓Vm_26, ↓Vf_27, ↓Vt_27, ↓Vm_27, ↓Vf_28, ↓Vt_28, ↓Vm_28, ↓Vf_29, ↓Vt_29, ↓Vm_29, ↓Vf_30, ↓Vt_30, ↓Vm_30, ↓Vf_31, ↓Vt_31, ↓Vm_31, ↓wl_leg0, ↓wl_leg1, ↓wl_leg2, ↓wl_road0, ↓wl_road1, ↓tg_leg, ↓tg_road, ↓W_over, ↓W_held, ↓W_ride_of, ↓W_bounds_of, ↓k_over, ↓k_held, ↓k_ride_of, ↓k_bounds_of, ↓W_same12, ↓k_law_same, e_const, e_bop, e_neg, e_cop, e_ch2, e_isN, e_notN, e_not, e_and, e_or, e_ife, e_idx, e_slc, e_asI, e_rev, e_tup, e_lst, e_call, e_callk, e_bi, e_comp, es_nil, es_cons, ts_nil, ts_cons, it_seq, it_range1, it_range2, it_enum, it_revd, it_zipt, it_zipf, ss_nil, ss_last, s_setv, s_sett, s_par, s_ext, s_mt0, mt0_l, mt0_rev, mt0_clr, s_aug, aug_i, aug_l, augL_l, seti_l, own_l, s_seti, s_expr, app_l, s_app, s_iff, s_whl, s_for, ret_v, ret_s, retS_l, s_ret, s_retN, s_brk, s_cont, s_pass, s_never, nx_n, nx_r, nx_b, nx_c, fl_n, fl_c, fl_b, fl_r, vl_v, vl_s, putr_f, putr_l, tg_n, tg_t, tgs_n, tgs_c, pa_n, pa_c, par_n, par_v, par_s, rd_v, rd_s, rdS_m, ri_v, hd_f, hd_l, hd_s, hs_c, hs_l, hds_n, hds_c, rds_n, rds_c, ab_v, sq_l, sq_t, pd_n, pd_c, ix_z, ix_s, if_t, if_f, if_n, if_d, no_n, no_i, no_b, no_s, no_t, no_l, no_r, bi_add, bi_sub, bi_mul, bi_div, bi_mod, bi_pow, wl_ixN, b_ii, b_ss, b_ll, b_lf, b_fl, b_ff, b_tt, b_lm, b_tm, c_eqi, c_nei, c_lt, c_le, c_gt, c_ge, id_t, id_l, id_o, wl_at0, wl_at1, wl_at2, wl_at3, at_map, sl_t, sl_l, sl_o, oi_n, oi_i, bl_len, len_l, len_f, len_t, len_s, bl_maxs, bl_mins, bl_max2, bl_min2, bl_abs, bl_sum, bl_sumf, bl_all, bl_any, any_map, all_map, bl_listl, bl_listf, bl_listt, bl_tupl, bl_tupf, bl_tupt, bl_intb, bl_inti, bl_str, bl_isi, bl_sorted, bl_repr, max_t, max_l, max_o, min_t, min_l, min_o, kd_r1, kd_r2, kd_r3, kd_r4, kd_r5, kd_r6, kd_r7, ns_1, ns_2, ns_3, ns_4, ns_5, ns_6, ns_7, ns_8, lt_c, lt_d, bk_1, bk_2, bk_3, bk_4, bk_5, bk_6, bk_7, bk_8, wp_ret, wl_some, turn_u, Vf_0, Vt_0, Vm_0, Vf_1, Vt_1, Vm_1, Vf_2, Vt_2, Vm_2, Vf_3, Vt_3, Vm_3, Vf_4, Vt_4, Vm_4, Vf_5, Vt_5, Vm_5, Vf_6, Vt_6, Vm_6, Vf_7, Vt_7, Vm_7, Vf_8, Vt_8, Vm_8, Vf_9, Vt_9, Vm_9, Vf_10, Vt_10, Vm_10, Vf_11, Vt_11, Vm_11, Vf_12, Vt_12, Vm_12, Vf_13, Vt_13, Vm_13, Vf_14, Vt_14, Vm_14, Vf_15, Vt_15, Vm_15, Vf_16, Vt_16, Vm_16, Vf_17, Vt_17, Vm_17, Vf_18, Vt_18, Vm_18, Vf_19, Vt_19, Vm_19, Vf_20, Vt_20, Vm_20, Vf_21, Vt_21, Vm_21, Vf_22, Vt_22, Vm_22, Vf_23, Vt_23, Vm_23, Vf_24, Vt_24, Vm_24, Vf_25, Vt_25, Vm_25, Vf_26, Vt_26, Vm_26, Vf_27, Vt_27, Vm_27, Vf_28, Vt_28, Vm_28, Vf_29, Vt_29, Vm_29, Vf_30, Vt_30, Vm_30, Vf_31, Vt_31, Vm_31, wl_leg0, wl_leg1, wl_leg2, wl_road0, wl_road1, tg_leg, tg_road, W_over, W_held, W_ride_of, W_bounds_of, k_over, k_held, k_ride_of, k_bounds_of, W_same12, k_law_same, put_k, set_c, set_d, set_b, set_f, cln_nil, cln_n, cln_f, cln_m, cln_l, cln_d, szi, szl, dv_t, pw_t, sml_l, sml_r, decide_eq_true_eq, Int.reduceMul, Int.reduceMod, Int.reduceAdd, Int.reduceSub, Int.reduceDiv, Int.reduceNeg, Int.natAbs_zero, un_nil, un_n, un_f, un_m, fz_nil, fz_n, fz_f, fz_m, fz_l, fz_d, nl_nil, nl_n, nl_f, nl_m, nl_l, nl_d, mf_nil, mf_n, mf_f, mf_m, mf_l, mf_d, df_nil, df_n, df_f, df_m, df_l, df_d, ik_n, ik_f, ik_m, ko_n, ko_f, ko_k, ko_o, eqv_ii, cut_m, enum_map, zip_map, ints_zero, wi_n, wi_c, ba_n, ba_c, toD_f, toD_l, slo_f, slo_l, sc_i, sc_b, sc_s, sc_n, sc_l, sc_t, scr_f, scr_l, Bool.and_self, Bool.true_and, Bool.and_true, List.all_cons, List.all_nil, Int.toNat_natCast, Int.natCast_nonneg, Int.reduceLT, Int.reduceLE, Int.cast_ofNat_Int, c_eqS, c_neS, shp_int, shp_bool, shp_none, shp_list, shp_tuple, shpl_nil, shpl_cons, shpl_app, shpl_map, shp_leg, shp_road, implies_true, and_self, List.length_cons, List.length_nil, List.length_map, List.cons_append, List.nil_append, Nat.reduceAdd, Nat.reduceLT, Nat.reduceLeDiff, Nat.zero_add, Int.reduceNeg, Int.reducePow, Int.reduceToNat, true_and, and_true, reduceIte, eq_self, decide_true, decide_false, Bool.not_true, Bool.not_false, Bool.false_eq_true, Bool.true_eq_false, false_implies, forall_const, not_true_eq_false, not_false_eq_true, G_0, L_0, G_1, L_1, G_2, L_2, G_3, L_3, G_4, L_4, G_5, L_5, G_6, L_6, G_7, L_7, G_8, L_8, G_9, L_9, G_10, L_10, G_11, L_11, G_12, L_12, G_13, L_13, G_14, L_14, G_15, L_15, G_16, L_16, G_17, L_17, G_18, L_18, G_19, L_19, G_20, L_20, G_21, L_21, G_22, L_22, G_23, L_23, G_24, L_24, G_25, L_25, G_26, L_26, G_27, L_27, G_28, L_28, G_29, L_29, G_30, L_30, G_31, L_31, intsD, shq_list, shq_tuple, shql_cons, shql_nil, shql_app, shql_map, shq_int, shq_none, shq_bool, $xs,*])
local macro_rules | `(tactic| simp_all? [$xs,*]) => `(tactic| simp only [↓e_const, ↓e_bop, ↓e_neg, ↓e_cop, ↓e_ch2, ↓e_isN, ↓e_notN, ↓e_not, ↓e_and, ↓e_or, ↓e_ife, ↓e_idx, ↓e_slc, ↓e_asI, ↓e_rev, ↓e_tup, ↓e_lst, ↓e_call, ↓e_callk, ↓e_bi, ↓e_comp, ↓es_nil, ↓es_cons, ↓ts_nil, ↓ts_cons, ↓it_seq, ↓it_range1, ↓it_range2, ↓it_enum, ↓it_revd, ↓it_zipt, ↓it_zipf, ↓ss_nil, ↓ss_last, ↓s_setv, ↓s_sett, ↓s_par, ↓s_ext, ↓s_mt0, ↓mt0_l, ↓mt0_rev, ↓mt0_clr, ↓s_aug, ↓aug_i, ↓aug_l, ↓augL_l, ↓seti_l, ↓own_l, ↓s_seti, ↓s_expr, ↓app_l, ↓s_app, ↓s_iff, ↓s_whl, ↓s_for, ↓ret_v, ↓ret_s, ↓retS_l, ↓s_ret, ↓s_retN, ↓s_brk, ↓s_cont, ↓s_pass, ↓s_never, ↓nx_n, ↓nx_r, ↓nx_b, ↓nx_c, ↓fl_n, ↓fl_c, ↓fl_b, ↓fl_r, ↓vl_v, ↓vl_s, ↓putr_f, ↓putr_l, ↓tg_n, ↓tg_t, ↓tgs_n, ↓tgs_c, ↓pa_n, ↓pa_c, ↓par_n, ↓par_v, ↓par_s, ↓rd_v, ↓rd_s, ↓rdS_m, ↓ri_v, ↓hd_f, ↓hd_l, ↓hd_s, ↓hs_c, ↓hs_l, ↓hds_n, ↓hds_c, ↓rds_n, ↓rds_c, ↓ab_v, ↓sq_l, ↓sq_t, ↓pd_n, ↓pd_c, ↓ix_z, ↓ix_s, ↓if_t, ↓if_f, ↓if_n, ↓if_d, ↓no_n, ↓no_i, ↓no_b, ↓no_s, ↓no_t, ↓no_l, ↓no_r, ↓bi_add, ↓bi_sub, ↓bi_mul, ↓bi_div, ↓bi_mod, ↓bi_pow, ↓wl_ixN, ↓b_ii, ↓b_ss, ↓b_ll, ↓b_lf, ↓b_fl, ↓b_ff, ↓b_tt, ↓b_lm, ↓b_tm, ↓c_eqi, ↓c_nei, ↓c_lt, ↓c_le, ↓c_gt, ↓c_ge, ↓id_t, ↓id_l, ↓id_o, ↓wl_at0, ↓wl_at1, ↓wl_at2, ↓wl_at3, ↓at_map, ↓sl_t, ↓sl_l, ↓sl_o, ↓oi_n, ↓oi_i, ↓bl_len, ↓len_l, ↓len_f, ↓len_t, ↓len_s, ↓bl_maxs, ↓bl_mins, ↓bl_max2, ↓bl_min2, ↓bl_abs, ↓bl_sum, ↓bl_sumf, ↓bl_all, ↓bl_any, ↓any_map, ↓all_map, ↓bl_listl, ↓bl_listf, ↓bl_listt, ↓bl_tupl, ↓bl_tupf, ↓bl_tupt, ↓bl_intb, ↓bl_inti, ↓bl_str, ↓bl_isi, ↓bl_sorted, ↓bl_repr, ↓max_t, ↓max_l, ↓max_o, ↓min_t, ↓min_l, ↓min_o, ↓kd_r1, ↓kd_r2, ↓kd_r3, ↓kd_r4, ↓kd_r5, ↓kd_r6, ↓kd_r7, ↓ns_1, ↓ns_2, ↓ns_3, ↓ns_4, ↓ns_5, ↓ns_6, ↓ns_7, ↓ns_8, ↓lt_c, ↓lt_d, ↓bk_1, ↓bk_2, ↓bk_3, ↓bk_4, ↓bk_5, ↓bk_6, ↓bk_7, ↓bk_8, ↓wp_ret, ↓wl_some, ↓turn_u, ↓Vf_0, ↓Vt_0, ↓Vm_0, ↓Vf_1, ↓Vt_1, ↓Vm_1, ↓Vf_2, ↓Vt_2, ↓Vm_2, ↓Vf_3, ↓Vt_3, ↓Vm_3, ↓Vf_4, ↓Vt_4, ↓Vm_4, ↓Vf_5, ↓Vt_5, ↓Vm_5, ↓Vf_6, ↓Vt_6, ↓Vm_6, ↓Vf_7, ↓Vt_7, ↓Vm_7, ↓Vf_8, ↓Vt_8, ↓Vm_8, ↓Vf_9, ↓Vt_9, ↓Vm_9, ↓Vf_10, ↓Vt_10, ↓Vm_10, ↓Vf_11, ↓Vt_11, ↓Vm_11, ↓Vf_12, ↓Vt_12, ↓Vm_12, ↓Vf_13, ↓Vt_13, ↓Vm_13, ↓Vf_14, ↓Vt_14, ↓Vm_14, ↓Vf_15, ↓Vt_15, ↓Vm_15, ↓Vf_16, ↓Vt_16, ↓Vm_16, ↓Vf_17, ↓Vt_17, ↓Vm_17, ↓Vf_18, ↓Vt_18, ↓Vm_18, ↓Vf_19, ↓Vt_19, ↓Vm_19, ↓Vf_20, ↓Vt_20, ↓Vm_20, ↓Vf_21, ↓Vt_21, ↓Vm_21, ↓Vf_22, ↓Vt_22, ↓Vm_22, ↓Vf_23, ↓Vt_23, ↓Vm_23, ↓Vf_24, ↓Vt_24, ↓Vm_24, ↓Vf_25, ↓Vt_25, ↓Vm_25, ↓Vf_26, ↓Vt_26, ↓Vm_26, ↓Vf_27, ↓Vt_27, ↓Vm_27, ↓Vf_28, ↓Vt_28, ↓Vm_28, ↓Vf_29, ↓Vt_29, ↓Vm_29, ↓Vf_30, ↓Vt_30, ↓Vm_30, ↓Vf_31, ↓Vt_31, ↓Vm_31, ↓wl_leg0, ↓wl_leg1, ↓wl_leg2, ↓wl_road0, ↓wl_road1, ↓tg_leg, ↓tg_road, ↓W_over, ↓W_held, ↓W_ride_of, ↓W_bounds_of, ↓k_over, ↓k_held, ↓k_ride_of, ↓k_bounds_of, ↓W_same12, ↓k_law_same, e_const, e_bop, e_neg, e_cop, e_ch2, e_isN, e_notN, e_not, e_and, e_or, e_ife, e_idx, e_slc, e_asI, e_rev, e_tup, e_lst, e_call, e_callk, e_bi, e_comp, es_nil, es_cons, ts_nil, ts_cons, it_seq, it_range1, it_range2, it_enum, it_revd, it_zipt, it_zipf, ss_nil, ss_last, s_setv, s_sett, s_par, s_ext, s_mt0, mt0_l, mt0_rev, mt0_clr, s_aug, aug_i, aug_l, augL_l, seti_l, own_l, s_seti, s_expr, app_l, s_app, s_iff, s_whl, s_for, ret_v, ret_s, retS_l, s_ret, s_retN, s_brk, s_cont, s_pass, s_never, nx_n, nx_r, nx_b, nx_c, fl_n, fl_c, fl_b, fl_r, vl_v, vl_s, putr_f, putr_l, tg_n, tg_t, tgs_n, tgs_c, pa_n, pa_c, par_n, par_v, par_s, rd_v, rd_s, rdS_m, ri_v, hd_f, hd_l, hd_s, hs_c, hs_l, hds_n, hds_c, rds_n, rds_c, ab_v, sq_l, sq_t, pd_n, pd_c, ix_z, ix_s, if_t, if_f, if_n, if_d, no_n, no_i, no_b, no_s, no_t, no_l, no_r, bi_add, bi_sub, bi_mul, bi_div, bi_mod, bi_pow, wl_ixN, b_ii, b_ss, b_ll, b_lf, b_fl, b_ff, b_tt, b_lm, b_tm, c_eqi, c_nei, c_lt, c_le, c_gt, c_ge, id_t, id_l, id_o, wl_at0, wl_at1, wl_at2, wl_at3, at_map, sl_t, sl_l, sl_o, oi_n, oi_i, bl_len, len_l, len_f, len_t, len_s, bl_maxs, bl_mins, bl_max2, bl_min2, bl_abs, bl_sum, bl_sumf, bl_all, bl_any, any_map, all_map, bl_listl, bl_listf, bl_listt, bl_tupl, bl_tupf, bl_tupt, bl_intb, bl_inti, bl_str, bl_isi, bl_sorted, bl_repr, max_t, max_l, max_o, min_t, min_l, min_o, kd_r1, kd_r2, kd_r3, kd_r4, kd_r5, kd_r6, kd_r7, ns_1, ns_2, ns_3, ns_4, ns_5, ns_6, ns_7, ns_8, lt_c, lt_d, bk_1, bk_2, bk_3, bk_4, bk_5, bk_6, bk_7, bk_8, wp_ret, wl_some, turn_u, Vf_0, Vt_0, Vm_0, Vf_1, Vt_1, Vm_1, Vf_2, Vt_2, Vm_2, Vf_3, Vt_3, Vm_3, Vf_4, Vt_4, Vm_4, Vf_5, Vt_5, Vm_5, Vf_6, Vt_6, Vm_6, Vf_7, Vt_7, Vm_7, Vf_8, Vt_8, Vm_8, Vf_9, Vt_9, Vm_9, Vf_10, Vt_10, Vm_10, Vf_11, Vt_11, Vm_11, Vf_12, Vt_12, Vm_12, Vf_13, Vt_13, Vm_13, Vf_14, Vt_14, Vm_14, Vf_15, Vt_15, Vm_15, Vf_16, Vt_16, Vm_16, Vf_17, Vt_17, Vm_17, Vf_18, Vt_18, Vm_18, Vf_19, Vt_19, Vm_19, Vf_20, Vt_20, Vm_20, Vf_21, Vt_21, Vm_21, Vf_22, Vt_22, Vm_22, Vf_23, Vt_23, Vm_23, Vf_24, Vt_24, Vm_24, Vf_25, Vt_25, Vm_25, Vf_26, Vt_26, Vm_26, Vf_27, Vt_27, Vm_27, Vf_28, Vt_28, Vm_28, Vf_29, Vt_29, Vm_29, Vf_30, Vt_30, Vm_30, Vf_31, Vt_31, Vm_31, wl_leg0, wl_leg1, wl_leg2, wl_road0, wl_road1, tg_leg, tg_road, W_over, W_held, W_ride_of, W_bounds_of, k_over, k_held, k_ride_of, k_bounds_of, W_same12, k_law_same, put_k, set_c, set_d, set_b, set_f, cln_nil, cln_n, cln_f, cln_m, cln_l, cln_d, szi, szl, dv_t, pw_t, sml_l, sml_r, decide_eq_true_eq, Int.reduceMul, Int.reduceMod, Int.reduceAdd, Int.reduceSub, Int.reduceDiv, Int.reduceNeg, Int.natAbs_zero, un_nil, un_n, un_f, un_m, fz_nil, fz_n, fz_f, fz_m, fz_l, fz_d, nl_nil, nl_n, nl_f, nl_m, nl_l, nl_d, mf_nil, mf_n, mf_f, mf_m, mf_l, mf_d, df_nil, df_n, df_f, df_m, df_l, df_d, ik_n, ik_f, ik_m, ko_n, ko_f, ko_k, ko_o, eqv_ii, cut_m, enum_map, zip_map, ints_zero, wi_n, wi_c, ba_n, ba_c, toD_f, toD_l, slo_f, slo_l, sc_i, sc_b, sc_s, sc_n, sc_l, sc_t, scr_f, scr_l, Bool.and_self, Bool.true_and, Bool.and_true, List.all_cons, List.all_nil, Int.toNat_natCast, Int.natCast_nonneg, Int.reduceLT, Int.reduceLE, Int.cast_ofNat_Int, c_eqS, c_neS, shp_int, shp_bool, shp_none, shp_list, shp_tuple, shpl_nil, shpl_cons, shpl_app, shpl_map, shp_leg, shp_road, implies_true, and_self, List.length_cons, List.length_nil, List.length_map, List.cons_append, List.nil_append, Nat.reduceAdd, Nat.reduceLT, Nat.reduceLeDiff, Nat.zero_add, Int.reduceNeg, Int.reducePow, Int.reduceToNat, true_and, and_true, reduceIte, eq_self, decide_true, decide_false, Bool.not_true, Bool.not_false, Bool.false_eq_true, Bool.true_eq_false, false_implies, forall_const, not_true_eq_false, not_false_eq_true, G_0, L_0, G_1, L_1, G_2, L_2, G_3, L_3, G_4, L_4, G_5, L_5, G_6, L_6, G_7, L_7, G_8, L_8, G_9, L_9, G_10, L_10, G_11, L_11, G_12, L_12, G_13, L_13, G_14, L_14, G_15, L_15, G_16, L_16, G_17, L_17, G_18, L_18, G_19, L_19, G_20, L_20, G_21, L_21, G_22, L_22, G_23, L_23, G_24, L_24, G_25, L_25, G_26, L_26, G_27, L_27, G_28, L_28, G_29, L_29, G_30, L_30, G_31, L_31, intsD, shq_list, shq_tuple, shql_cons, shql_nil, shql_app, shql_map, shq_int, shq_none, shq_bool, cln_x, un_x, fz_x, nl_x, mf_x, df_x, ik_x, ko_x, $xs,*])
theorem come_high {r : Road} {b : List Int} {i M : Int} (hr : r.legs.length = r.firsts.length) (h : ∀ l ∈ r.legs, LegOk l) (hM : ∀ l ∈ r.legs, l.full ≤ M) (hi : 0 ≤ i) (hi' : i < b.length) : ∀ {k : Nat}, k ≤ r.legs.length → comeN r b i k ≤ ix b i + M * k
  | 0, _ => by show ix b i ≤ ix b i + M * 0; omega
  | k + 1, hk => by
    have ih := come_high (b := b) hr h hM hi hi' (k := k) (by omega)
    have st := come_succ (b := b) hr hi hi' (k := (k : Int)) (by omega) (by omega)
    have ok := h _ (ix_mem (l := r.legs) (i := (k : Int)) (by omega) (by omega))
    have okM := hM _ (ix_mem (l := r.legs) (i := (k : Int)) (by omega) (by omega))
    have := ride_bounds ok (standN r b i k)
    unfold LegOk at ok
    rw [show ((k + 1 : Nat) : Int) = (k : Int) + 1 from rfl, Int.mul_add]
    omega
theorem W_law_due_k09 {r : Road} {b : List Int} {beat : Int} (ok : RbOk r b) (hl : r.legs.length ≤ 1000) (hb : b.length ≤ 1000) (Q : R → Sto → Prop) :
    wp (f_law_due_k09.sf [some (.frz (.list ((booksN r.ps b).map intsD))), some (.frz (.int beat))]) Q = Q (.lst ((evsN r b beat).map evD)) [none, none] := by
  refine wp_rw (fun Q q => ?_) Q
  simp_all? only [o_law_due_k09, ↓u_law_due_k09_1a, ↓u_law_due_k09__2, ↓u_law_due_k09__1, ↓u_law_due_k09]
  refine for_inv (ys := (booksN r.ps b).zipIdx) (fun pre ρ' => ∃ x3 x4, ρ' = [some (.frz (.list ((booksN r.ps b).map intsD))), some (.frz (.int beat)), some (.mut .clean false ((pre.flatMap (evAt beat)).map evD)), x3, x4, none, none, none] ∧ fr x3 = true ∧ fr x4 = true) rfl ⟨none, none, rfl, rfl, rfl⟩ ?_ ?_
  · rintro pre ⟨bk, k⟩ post ρ e ⟨x4, x5, rfl, h4, h5⟩
    have hmem : ∀ p ∈ pre ++ (bk, k) :: post, p.1.length ≤ b.length := fun p hp => by
      rw [← e] at hp
      exact Nat.le_of_eq (books_all_len r.ps b p.1 (List.fst_mem_of_mem_zipIdx hp))
    have hlen := congrArg List.length e
    rw [List.length_zipIdx, books_len, List.length_append, List.length_cons] at hlen
    have hps : r.ps.length = r.legs.length := by unfold Road.ps; rw [List.length_zip, ← ok.leq]; omega
    have h1 := flat_len (beat := beat) pre (fun p hp => hmem p (List.mem_append_left _ hp))
    have h2 : (evAt beat (bk, k)).length ≤ bk.length := evAt_len beat (bk, k)
    have h3 : bk.length ≤ b.length := hmem (bk, k) (by simp)
    have h6 : pre.length * b.length ≤ 1000 * 1000 := Nat.mul_le_mul (by omega) hb
    unfold intsD
    simp_all? [o_law_due_k09, ↓u_law_due_k09_1a, ↓u_law_due_k09__2, ↓u_law_due_k09__1, ↓u_law_due_k09, h4, h5]
    refine comp_filter (α := Int × Nat) (G := fun q => evD (q.1, (k : Int), (q.2 : Int))) (fun q => decide (q.1 ≤ beat)) rfl (len_bound (by rw [List.length_zipIdx]; omega)) (fun q hq => ?_) ?_
    · simp_all? only [ns_1]
      exact ⟨fun h => ⟨h, rfl⟩, fun h => decide_eq_false h⟩
    · simp_all? only [o_law_due_k09, ↓u_law_due_k09_1a, ↓u_law_due_k09__2, ↓u_law_due_k09__1, ↓u_law_due_k09]
      replace h2 : (bk.zipIdx.filter fun q => decide (q.1 ≤ beat)).length ≤ bk.length := by unfold evAt at h2; rw [List.length_map] at h2; exact h2
      refine ⟨by omega, some (.frz (.int k)), some (.frz (.list (bk.map .int))), ?_, rfl, rfl⟩
      rw [List.flatMap_append, List.flatMap_cons, List.flatMap_nil, List.append_nil, List.map_append, show (evAt beat (bk, k)).map evD = (bk.zipIdx.filter fun q => decide (q.1 ≤ beat)).map fun q => evD (q.1, (k : Int), (q.2 : Int)) from List.map_map]
  · rintro ρ ⟨x4, x5, rfl, h4, h5⟩
    simp_all? [o_law_due_k09, ↓u_law_due_k09_1a, ↓u_law_due_k09__2, ↓u_law_due_k09__1, ↓u_law_due_k09, h4, h5]
    have h1 := flat_len (beat := beat) (m := b.length) (booksN r.ps b).zipIdx (fun p hp => Nat.le_of_eq (books_all_len r.ps b p.1 (List.fst_mem_of_mem_zipIdx hp)))
    rw [List.length_zipIdx, books_len] at h1
    have hps : r.ps.length = r.legs.length := by unfold Road.ps; rw [List.length_zip, ← ok.leq]; omega
    have h6 : (r.ps.length + 1) * b.length ≤ 1001 * 1000 := Nat.mul_le_mul (by omega) hb
    rw [wl_sortE (Nat.le_trans (Nat.le_trans h1 h6) (by decide)) (t := false)]
    exact q
theorem shq_ev (k : Nat) (e : Ev) : shq (k + 1) (evD e) = True := by
  unfold evD
  rw [shq_tuple, shql_cons, shql_cons, shql_cons, shql_nil, shq_int, shq_int, shq_int]
  exact eq_true ⟨by simp, trivial, trivial, trivial, trivial⟩
theorem right_w {t : Tp} {Q : R → Sto → Prop} (hc : t.c + 1000 ≤ 2 ^ 40) (h : ∀ t', t'.c ≤ t.c + 1000 → Q (.frz (.bool true)) [tS t']) : wp (f_law_right_k09.sf [tS t]) Q := by
  simp_all? only [o_law_right_k09, ↓u_law_right_k09_5a__2, ↓u_law_right_k09_5a__1, ↓u_law_right_k09_5a, ↓u_law_right_k09_6a_2a, ↓u_law_right_k09_6a_4a, ↓u_law_right_k09_6a__4, ↓u_law_right_k09_6a__3, ↓u_law_right_k09_6a__2, ↓u_law_right_k09_6a__1, ↓u_law_right_k09_6a, ↓u_law_right_k09__7, ↓u_law_right_k09__6, ↓u_law_right_k09__5, ↓u_law_right_k09__4, ↓u_law_right_k09__3, ↓u_law_right_k09__2, ↓u_law_right_k09__1, ↓u_law_right_k09, k_law_line, k_law_outs, k_law_draw]
  refine line_d (n := 12) (by omega) (by omega) (by omega) fun r t1 hr hc1 => ?_
  simp_all? only [o_law_right_k09, ↓u_law_right_k09_5a__2, ↓u_law_right_k09_5a__1, ↓u_law_right_k09_5a, ↓u_law_right_k09_6a_2a, ↓u_law_right_k09_6a_4a, ↓u_law_right_k09_6a__4, ↓u_law_right_k09_6a__3, ↓u_law_right_k09_6a__2, ↓u_law_right_k09_6a__1, ↓u_law_right_k09_6a, ↓u_law_right_k09__7, ↓u_law_right_k09__6, ↓u_law_right_k09__5, ↓u_law_right_k09__4, ↓u_law_right_k09__3, ↓u_law_right_k09__2, ↓u_law_right_k09__1, ↓u_law_right_k09, k_law_line, k_law_outs, k_law_draw]
  refine outs_d (n := 20) hr.ne hr.fne hr.ok hr.full (by have := hr.le; omega) (by omega) (by omega) (by omega) fun b t2 hb hc2 => ?_
  have ok : RbOk r b := .of hr hb (by omega) (by omega)
  have hbp : 0 < b.length := List.length_pos_iff.mpr hb.ne
  have hb20 := hb.len
  have hl12 := hr.le
  have hl1 := hr.pos
  have hleq := hr.leq
  have bl : (booksN r.ps b).length = r.legs.length + 1 := by rw [books_len, ps_len hleq]
  have bk : ∀ k : Int, 0 ≤ k → k ≤ r.legs.length → (ix (booksN r.ps b) k).length = b.length := fun k h1 h2 => ix_books_len hleq h1 h2
  have lastk : ix (booksN r.ps b) (-1) = ix (booksN r.ps b) r.legs.length := by
    rw [ix_neg1 (by omega), bl]; congr 1; omega
  have last : ix (ix (booksN r.ps b) (-1)) (-1) = comeN r b ((b.length : Int) - 1) r.legs.length := by
    rw [lastk, ix_neg1 (by rw [bk _ (by omega) (by omega)]; exact hbp), bk _ (by omega) (by omega), ix_books_come hleq (by omega) (by omega)]
  have lenl : (ix (booksN r.ps b) (-1)).length = b.length := by rw [lastk, bk _ (by omega) (by omega)]
  have c1 := come_high (b := b) (i := (b.length : Int) - 1) hleq hr.ok hr.full (by omega) (by omega) (k := r.legs.length) (by omega)
  have c2 : ix b ((b.length : Int) - 1) ≤ 1000000000000 := by
    have := (hb.high' hr _ (ix_mem (l := b) (i := (b.length : Int) - 1) (by omega) (by omega))).2
    exact this
  have c3 : -1000000000000 ≤ ix b 0 := (hb.high' hr _ (ix_mem (l := b) (i := 0) (by omega) (by omega))).1
  have c4 : ix b 0 ≤ comeN r b ((b.length : Int) - 1) r.legs.length := by
    have h1 := srt_le hb.srt (i := 0) (j := (b.length : Int) - 1) (by omega) (by omega) (by omega)
    have h2 := come_mono (b := b) (i := (b.length : Int) - 1) hleq hr.ok (by omega) (by omega) (m := 0) (n := r.legs.length) (by omega) (by omega)
    have h3 : comeN r b ((b.length : Int) - 1) (0 : Nat) = ix b ((b.length : Int) - 1) := rfl
    omega
  simp_all? only [o_law_right_k09, ↓u_law_right_k09_5a__2, ↓u_law_right_k09_5a__1, ↓u_law_right_k09_5a, ↓u_law_right_k09_6a_2a, ↓u_law_right_k09_6a_4a, ↓u_law_right_k09_6a__4, ↓u_law_right_k09_6a__3, ↓u_law_right_k09_6a__2, ↓u_law_right_k09_6a__1, ↓u_law_right_k09_6a, ↓u_law_right_k09__7, ↓u_law_right_k09__6, ↓u_law_right_k09__5, ↓u_law_right_k09__4, ↓u_law_right_k09__3, ↓u_law_right_k09__2, ↓u_law_right_k09__1, ↓u_law_right_k09, k_law_books, k_law_draw, W_law_books hr.ok ok.ll ok.bl, last, lenl, bl]
  refine ⟨⟨by omega, by omega⟩, ⟨by omega, by omega⟩, ⟨by omega, by omega⟩, ⟨by omega, by omega⟩, ⟨by omega, by omega⟩, ⟨by omega, by omega⟩, ?_⟩
  generalize hM : comeN r b ((b.length : Int) - 1) r.legs.length = M at c1 c4
  have c5 : (300000 : Int) * (r.legs.length : Int) ≤ 300000 * 12 := by omega
  refine draw_w (by omega) (by omega) (by omega) fun d t3 ad bd ct3 => ?_
  simp_all? [o_law_right_k09, ↓u_law_right_k09_5a__2, ↓u_law_right_k09_5a__1, ↓u_law_right_k09_5a, ↓u_law_right_k09_6a_2a, ↓u_law_right_k09_6a_4a, ↓u_law_right_k09_6a__4, ↓u_law_right_k09_6a__3, ↓u_law_right_k09_6a__2, ↓u_law_right_k09_6a__1, ↓u_law_right_k09_6a, ↓u_law_right_k09__7, ↓u_law_right_k09__6, ↓u_law_right_k09__5, ↓u_law_right_k09__4, ↓u_law_right_k09__3, ↓u_law_right_k09__2, ↓u_law_right_k09__1, ↓u_law_right_k09]
  refine for_inv (ys := List.range 4) (fun pre ρ' => ∃ (t' : Tp) (S : List Int) (x6 x7 x8 : Option Sl), ρ' = [tS t', some (.frz (roadD r)), some (.frz (.tuple (b.map .int))), some (.mut .clean false ((booksN r.ps b).map intsD)), some (.frz (.int M)), some (.mut .clean false (S.map .int)), x6, x7, x8, none, none, none] ∧ t'.c ≤ t3.c + 2 * pre.length ∧ S.length = 6 + 2 * pre.length ∧ fr x6 = true ∧ fr x7 = true ∧ fr x8 = true) rfl ⟨t3, [ix b 0 - 1, ix b 0, M, M + 1000000, M - 1, ix b 0 + d], none, none, none, rfl, by simp, rfl, rfl, rfl, rfl⟩ ?_ ?_
  · rintro pre k post ρ e ⟨t4, S, x6, x7, x8, rfl, hc3, hS, h6, h7, h8⟩
    have hp : pre.length + 1 ≤ 4 := by
      have := congrArg List.length e
      simp at this; omega
    clear e
    simp_all? [o_law_right_k09, ↓u_law_right_k09_5a__2, ↓u_law_right_k09_5a__1, ↓u_law_right_k09_5a, ↓u_law_right_k09_6a_2a, ↓u_law_right_k09_6a_4a, ↓u_law_right_k09_6a__4, ↓u_law_right_k09_6a__3, ↓u_law_right_k09_6a__2, ↓u_law_right_k09_6a__1, ↓u_law_right_k09_6a, ↓u_law_right_k09__7, ↓u_law_right_k09__6, ↓u_law_right_k09__5, ↓u_law_right_k09__4, ↓u_law_right_k09__3, ↓u_law_right_k09__2, ↓u_law_right_k09__1, ↓u_law_right_k09, k_law_draw, h6, h7, h8, bl]
    refine draw_w (by omega) (by omega) (by omega) fun i t5 ai bi ct5 => ?_
    have e4 := bk i ai (by omega)
    simp_all? [o_law_right_k09, ↓u_law_right_k09_5a__2, ↓u_law_right_k09_5a__1, ↓u_law_right_k09_5a, ↓u_law_right_k09_6a_2a, ↓u_law_right_k09_6a_4a, ↓u_law_right_k09_6a__4, ↓u_law_right_k09_6a__3, ↓u_law_right_k09_6a__2, ↓u_law_right_k09_6a__1, ↓u_law_right_k09_6a, ↓u_law_right_k09__7, ↓u_law_right_k09__6, ↓u_law_right_k09__5, ↓u_law_right_k09__4, ↓u_law_right_k09__3, ↓u_law_right_k09__2, ↓u_law_right_k09__1, ↓u_law_right_k09, k_law_draw, h6, h7, h8, bl, e4]
    refine ⟨⟨by omega, by omega⟩, ?_⟩
    refine draw_w (by omega) (by omega) (by omega) fun j t6 aj bj ct6 => ?_
    simp_all? [o_law_right_k09, ↓u_law_right_k09_5a__2, ↓u_law_right_k09_5a__1, ↓u_law_right_k09_5a, ↓u_law_right_k09_6a_2a, ↓u_law_right_k09_6a_4a, ↓u_law_right_k09_6a__4, ↓u_law_right_k09_6a__3, ↓u_law_right_k09_6a__2, ↓u_law_right_k09_6a__1, ↓u_law_right_k09_6a, ↓u_law_right_k09__7, ↓u_law_right_k09__6, ↓u_law_right_k09__5, ↓u_law_right_k09__4, ↓u_law_right_k09__3, ↓u_law_right_k09__2, ↓u_law_right_k09__1, ↓u_law_right_k09, k_law_draw, h6, h7, h8, bl, e4]
    refine ⟨⟨by omega, by omega⟩, by omega, t6, S ++ [ix (ix (booksN r.ps b) i) j, ix (ix (booksN r.ps b) i) j - 1], some (.frz (.int (k : Nat))), some (.frz (.list ((ix (booksN r.ps b) i).map .int))), some (.frz (.int (ix (ix (booksN r.ps b) i) j))), ?_, by rw [List.length_append, List.length_singleton]; omega, by rw [List.length_append, List.length_append, hS]; simp; omega, rfl, rfl, rfl⟩
    rw [List.map_append]; rfl
  rintro ρ ⟨t4, S, x6, x7, x8, rfl, hc3, hS, h6, h7, h8⟩
  rw [List.length_range] at hc3 hS
  simp_all? [o_law_right_k09, ↓u_law_right_k09_5a__2, ↓u_law_right_k09_5a__1, ↓u_law_right_k09_5a, ↓u_law_right_k09_6a_2a, ↓u_law_right_k09_6a_4a, ↓u_law_right_k09_6a__4, ↓u_law_right_k09_6a__3, ↓u_law_right_k09_6a__2, ↓u_law_right_k09_6a__1, ↓u_law_right_k09_6a, ↓u_law_right_k09__7, ↓u_law_right_k09__6, ↓u_law_right_k09__5, ↓u_law_right_k09__4, ↓u_law_right_k09__3, ↓u_law_right_k09__2, ↓u_law_right_k09__1, ↓u_law_right_k09, h6, h7, h8]
  refine for_inv (ys := S) (fun pre ρ' => ∃ (z : Bool) (A B : List D) (x9 : Option Sl), ρ' = [tS t4, some (.frz (roadD r)), some (.frz (.tuple (b.map .int))), (if z then some (.frz (.list ((booksN r.ps b).map intsD))) else some (.mut .clean false ((booksN r.ps b).map intsD))), some (.frz (.int M)), some (.frz (.list (S.map .int))), x6, x7, x8, x9, (if z then some (.mut .clean false A) else none), (if z then some (.mut .clean false B) else none)] ∧ fr x9 = true) rfl ⟨false, [], [], none, rfl, rfl⟩ ?_ ?_
  · rintro pre beat post ρ e ⟨z, A, B, x9, rfl, h9⟩
    have hb1 := evs_bound (r := r) (b := b) (beat := beat)
    have hb2 : (r.ps.length + 1) * b.length ≤ 13 * 20 := Nat.mul_le_mul (by rw [ps_len hleq]; omega) (by omega)
    have hL : ∀ ds : List D, ds.length ≤ 1 → True := fun _ _ => trivial
    have q1 : ((evsN r b beat).map evD).length ≤ 1000000 := by rw [List.length_map]; omega
    have q2 : ((evsN r b beat).length ≤ 1000000) = True := eq_true (by omega)
    have q3 : ((evsN r b beat).length < 16777216) = True := eq_true (by omega)
    have q4 : ∀ k, (∀ x ∈ evsN r b beat, shq (k + 1) (evD x)) = True := fun k => eq_true fun x _ => by rw [shq_ev]; trivial
    have s1 : shq 11 (.list ((evsN r b beat).map evD)) := by
      rw [shq_list]
      exact ⟨q1, fun d hd => by obtain ⟨x, _, rfl⟩ := List.mem_map.mp hd; rw [shq_ev]; trivial⟩
    have s2 : shq 11 (.list [.list ((evsN r b beat).map evD), .list ((evsN r b beat).map evD)]) := by
      have s3 : shq 10 (.list ((evsN r b beat).map evD)) := by
        rw [shq_list]
        exact ⟨q1, fun d hd => by obtain ⟨x, _, rfl⟩ := List.mem_map.mp hd; rw [shq_ev]; trivial⟩
      rw [shq_list, shql_cons, shql_cons, shql_nil]
      exact ⟨by simp, s3, s3, trivial⟩
    cases z <;>
    · simp_all? [o_law_right_k09, ↓u_law_right_k09_5a__2, ↓u_law_right_k09_5a__1, ↓u_law_right_k09_5a, ↓u_law_right_k09_6a_2a, ↓u_law_right_k09_6a_4a, ↓u_law_right_k09_6a__4, ↓u_law_right_k09_6a__3, ↓u_law_right_k09_6a__2, ↓u_law_right_k09_6a__1, ↓u_law_right_k09_6a, ↓u_law_right_k09__7, ↓u_law_right_k09__6, ↓u_law_right_k09__5, ↓u_law_right_k09__4, ↓u_law_right_k09__3, ↓u_law_right_k09__2, ↓u_law_right_k09__1, ↓u_law_right_k09, W_same12 s1, W_same12 s2, q3, k_law_due_k09, k_events, k_law_same, h6, h7, h8, h9, if_true, Bool.false_eq_true, if_false, W_law_due_k09 ok (show r.legs.length ≤ 1000 by omega) (show b.length ≤ 1000 by omega), W_events ok (show r.legs.length ≤ 1000 by omega) (show b.length ≤ 1000 by omega)]
      exact ⟨true, (evsN r b beat).map evD, (evsN r b beat).map evD ++ [.int 0], some (.frz (.int beat)), rfl, rfl⟩
  rintro ρ ⟨z, A, B, x9, rfl, h9⟩
  cases z <;>
  · simp_all? [o_law_right_k09, ↓u_law_right_k09_5a__2, ↓u_law_right_k09_5a__1, ↓u_law_right_k09_5a, ↓u_law_right_k09_6a_2a, ↓u_law_right_k09_6a_4a, ↓u_law_right_k09_6a__4, ↓u_law_right_k09_6a__3, ↓u_law_right_k09_6a__2, ↓u_law_right_k09_6a__1, ↓u_law_right_k09_6a, ↓u_law_right_k09__7, ↓u_law_right_k09__6, ↓u_law_right_k09__5, ↓u_law_right_k09__4, ↓u_law_right_k09__3, ↓u_law_right_k09__2, ↓u_law_right_k09__1, ↓u_law_right_k09, h6, h7, h8, h9, if_true, Bool.false_eq_true, if_false]
    exact h _ (by omega)
theorem says : LawSays f_law_k09 63 := by
  intro ns hn
  obtain ⟨r, ρ, e, h⟩ := wp_out (o := f_law_k09.sf (lawArg ns)) (Q := fun r _ => r = .frz (.bool true)) (by
    unfold lawArg
    simp_all? only [o_law_k09, ↓u_law_k09_1a_1a, ↓u_law_k09_1a__1, ↓u_law_k09_1a, ↓u_law_k09__2, ↓u_law_k09__1, ↓u_law_k09, k_law_folded]
    refine folded_w (m := 4) (by omega) (by omega) (by omega) fun cs h1 h2 => ?_
    simp_all? only [o_law_k09, ↓u_law_k09_1a_1a, ↓u_law_k09_1a__1, ↓u_law_k09_1a, ↓u_law_k09__2, ↓u_law_k09__1, ↓u_law_k09, k_law_tape, k_law_right_k09]
    refine ⟨⟨by omega, by omega⟩, for_inv (ys := List.range cs.length) (fun pre ρ' => ∃ (z : Bool) (x2 x3 : Option Sl), ρ' = [some (.frz (.list (ns.map .int))), (if z then some (.frz (.list (cs.map .int))) else some (.mut .clean false (cs.map .int))), x2, x3] ∧ fr x2 = true ∧ fr x3 = true) rfl ⟨false, none, none, rfl, rfl, rfl⟩ ?_ ?_⟩
    · rintro pre k post ρ e ⟨z, x2, x3, rfl, h2', h3⟩
      have hk : k < cs.length := List.mem_range.mp (by rw [e]; simp)
      cases z <;>
      · simp_all? [o_law_k09, ↓u_law_k09_1a_1a, ↓u_law_k09_1a__1, ↓u_law_k09_1a, ↓u_law_k09__2, ↓u_law_k09__1, ↓u_law_k09, k_law_tape, k_law_right_k09, if_true, Bool.false_eq_true, if_false, h2', h3]
        refine tape_w hk (by omega) fun t ht => ?_
        simp_all? [o_law_k09, ↓u_law_k09_1a_1a, ↓u_law_k09_1a__1, ↓u_law_k09_1a, ↓u_law_k09__2, ↓u_law_k09__1, ↓u_law_k09, k_law_right_k09, h2', h3, tp_sc]
        refine right_w (by omega) fun t' ht' => ?_
        simp_all? [o_law_k09, ↓u_law_k09_1a_1a, ↓u_law_k09_1a__1, ↓u_law_k09_1a, ↓u_law_k09__2, ↓u_law_k09__1, ↓u_law_k09, k_law_right_k09, h2', tp_sc]
        exact ⟨true, _, _, rfl, rfl, rfl⟩
    · rintro ρ ⟨z, x2, x3, rfl, h2', h3⟩
      cases z <;>
      · simp_all? [o_law_k09, ↓u_law_k09_1a_1a, ↓u_law_k09_1a__1, ↓u_law_k09_1a, ↓u_law_k09__2, ↓u_law_k09__1, ↓u_law_k09, if_true, Bool.false_eq_true, if_false, h2', h3])
  exact ⟨ρ, by rw [e, h]⟩
end Rx
set_option Elab.async false
set_option linter.all false
set_option maxRecDepth 100000
set_option maxHeartbeats 4000000
namespace Rx
open PySem PySem.Spec PyProof.Rows L2
/-! the text -/
def topS (i : Nat) : Stmt := PySem.Challenge.pw_restedhorses_k09_all_comings_to_a_beat.main.body.getD i (.Pass ⟨0, 0, 0, 0⟩)
abbrev s_bounds_of : Stmt := topS 1
def N_bounds_of : List Str := ["leg", "full", "least", "most"]
def e_bounds_of : FnE := ⟨f_bounds_of, []⟩
def C_bounds_of : CC := ⟨N_bounds_of, [], [], []⟩
theorem sc_bounds_of : FnScope N_bounds_of ["leg"] (defScope s_bounds_of) := ⟨rfl, rfl, rfl, by decide +kernel, rfl, by decide +kernel, by decide +kernel⟩
theorem c_bounds_of : compDef C_bounds_of s_bounds_of = some b_bounds_of := by kernel_rfl
abbrev s_held : Stmt := topS 2
def N_held : List Str := ["leg", "stand", "low", "high"]
def e_held : FnE := ⟨f_held, []⟩
def C_held : CC := ⟨N_held, [("bounds_of", e_bounds_of)], [], ["max", "min"]⟩
theorem sc_held : FnScope N_held ["leg", "stand"] (defScope s_held) := ⟨rfl, rfl, rfl, by decide +kernel, rfl, by decide +kernel, by decide +kernel⟩
theorem c_held : compDef C_held s_held = some b_held := by kernel_rfl
abbrev s_ride_of : Stmt := topS 3
def N_ride_of : List Str := ["leg", "stand"]
def e_ride_of : FnE := ⟨f_ride_of, []⟩
def C_ride_of : CC := ⟨N_ride_of, [("held", e_held)], [], []⟩
theorem sc_ride_of : FnScope N_ride_of ["leg", "stand"] (defScope s_ride_of) := ⟨rfl, rfl, rfl, by decide +kernel, rfl, by decide +kernel, by decide +kernel⟩
theorem c_ride_of : compDef C_ride_of s_ride_of = some b_ride_of := by kernel_rfl
abbrev s_horses_at : Stmt := topS 5
def N_horses_at : List Str := ["first", "comes"]
def e_horses_at : FnE := ⟨f_horses_at, []⟩
def C_horses_at : CC := ⟨N_horses_at, [], [], []⟩
theorem sc_horses_at : FnScope N_horses_at ["first", "comes"] (defScope s_horses_at) := ⟨rfl, rfl, rfl, by decide +kernel, rfl, by decide +kernel, by decide +kernel⟩
theorem c_horses_at : compDef C_horses_at s_horses_at = some b_horses_at := by kernel_rfl
abbrev s_comes_next : Stmt := topS 6
def N_comes_next : List Str := ["leg", "first", "comes", "horses", ".0", "come", "horse"]
def e_comes_next : FnE := ⟨f_comes_next, []⟩
def C_comes_next : CC := ⟨N_comes_next, [("ride_of", e_ride_of), ("horses_at", e_horses_at)], [], ["zip"]⟩
theorem sc_comes_next : FnScope N_comes_next ["leg", "first", "comes"] (defScope s_comes_next) := ⟨rfl, rfl, rfl, by decide +kernel, rfl, by decide +kernel, by decide +kernel⟩
theorem c_comes_next : compDef C_comes_next s_comes_next = some b_comes_next := by kernel_rfl
abbrev s_books_to : Stmt := topS 7
def N_books_to : List Str := ["road", "sets", "station", "legs", "firsts", "books", "leg", "first"]
def e_books_to : FnE := ⟨f_books_to, []⟩
def C_books_to : CC := ⟨N_books_to, [("comes_next", e_comes_next)], [], ["list", "zip"]⟩
theorem sc_books_to : FnScope N_books_to ["road", "sets", "station"] (defScope s_books_to) := ⟨rfl, rfl, rfl, by decide +kernel, rfl, by decide +kernel, by decide +kernel⟩
theorem c_books_to : compDef C_books_to s_books_to = some b_books_to := by kernel_rfl
abbrev s_events : Stmt := topS 8
def N_events : List Str := ["road", "sets", "beat", "found", "station", "book", ".0", "rider", "come"]
def e_events : FnE := ⟨f_events, [(0, ["beat", "sets", "road"], [2, 1, 0])]⟩
def C_events : CC := ⟨N_events, [("books_to", e_books_to)], [], ["enumerate", "len", "sorted"]⟩
theorem sc_events : FnScope N_events ["road", "sets", "beat"] (defScope s_events) := ⟨rfl, rfl, rfl, by decide +kernel, rfl, by decide +kernel, by decide +kernel⟩
theorem c_events : compDef C_events s_events = some b_events := by kernel_rfl
abbrev s_law_tape : Stmt := topS 10
def N_law_tape : List Str := ["_law_script", "_law_k", "_law_cell"]
def e_law_tape : FnE := ⟨f_law_tape, []⟩
def C_law_tape : CC := ⟨N_law_tape, [], [], ["abs", "int", "len"]⟩
theorem sc_law_tape : FnScope N_law_tape ["_law_script", "_law_k"] (defScope s_law_tape) := ⟨rfl, rfl, rfl, by decide +kernel, rfl, by decide +kernel, by decide +kernel⟩
theorem c_law_tape : compDef C_law_tape s_law_tape = some b_law_tape := by kernel_rfl
abbrev s_law_draw : Stmt := topS 11
def N_law_draw : List Str := ["_law_tape_here", "_law_many", "_law_found", "_law_once", "_law_twice", "_law_wide"]
def e_law_draw : FnE := ⟨f_law_draw, []⟩
def C_law_draw : CC := ⟨N_law_draw, [], [], []⟩
theorem sc_law_draw : FnScope N_law_draw ["_law_tape_here", "_law_many"] (defScope s_law_draw) := ⟨rfl, rfl, rfl, by decide +kernel, rfl, by decide +kernel, by decide +kernel⟩
theorem c_law_draw : compDef C_law_draw s_law_draw = some b_law_draw := by kernel_rfl
abbrev s_law_folded : Stmt := topS 12
def N_law_folded : List Str := ["_law_script", "_law_many", "_law_cells", "_law_k", "_law_cell"]
def e_law_folded : FnE := ⟨f_law_folded, []⟩
def C_law_folded : CC := ⟨N_law_folded, [], [], ["enumerate", "list"]⟩
theorem sc_law_folded : FnScope N_law_folded ["_law_script", "_law_many"] (defScope s_law_folded) := ⟨rfl, rfl, rfl, by decide +kernel, rfl, by decide +kernel, by decide +kernel⟩
theorem c_law_folded : compDef C_law_folded s_law_folded = some b_law_folded := by kernel_rfl
abbrev s_law_same : Stmt := topS 13
def N_law_same : List Str := ["_law_found", "_law_due_here", ".0", "_law_mine", "_law_its"]
def e_law_same (n : Nat) : FnE := ⟨f_law_same n, []⟩
def C_law_same (n : Nat) : CC := ⟨N_law_same, [("_law_same", e_law_same n)], [], ["all", "bool", "int", "isinstance", "len", "list", "str", "tuple", "zip"]⟩
theorem sc_law_same : FnScope N_law_same ["_law_found", "_law_due_here"] (defScope s_law_same) := ⟨rfl, rfl, rfl, by decide +kernel, rfl, by decide +kernel, by decide +kernel⟩
theorem c_law_same (n : Nat) : compDef (C_law_same n) s_law_same = some (b_law_same (f_law_same n)) := by kernel_rfl
abbrev s_law_leg : Stmt := topS 14
def N_law_leg : List Str := ["_law_tape_here", "_law_mode", "_law_slow", "_law_quick", "_law_more"]
def e_law_leg : FnE := ⟨f_law_leg, []⟩
def C_law_leg : CC := ⟨N_law_leg, [("_law_draw", e_law_draw)], [], ["max"]⟩
theorem sc_law_leg : FnScope N_law_leg ["_law_tape_here"] (defScope s_law_leg) := ⟨rfl, rfl, rfl, by decide +kernel, rfl, by decide +kernel, by decide +kernel⟩
theorem c_law_leg : compDef C_law_leg s_law_leg = some b_law_leg := by kernel_rfl
abbrev s_law_line : Stmt := topS 15
def N_law_line : List Str := ["_law_tape_here", "_law_utmost", "_law_size", "_law_kinds", "_law_lanes", "_law_base", "_law_wide", ".0", "_law_k"]
def e_law_line : FnE := ⟨f_law_line, []⟩
def C_law_line : CC := ⟨N_law_line, [("_law_draw", e_law_draw), ("_law_leg", e_law_leg)], [], ["len", "range", "tuple"]⟩
theorem sc_law_line : FnScope N_law_line ["_law_tape_here", "_law_utmost"] (defScope s_law_line) := ⟨rfl, rfl, rfl, by decide +kernel, rfl, by decide +kernel, by decide +kernel⟩
theorem c_law_line : compDef C_law_line s_law_line = some b_law_line := by kernel_rfl
abbrev s_law_outs : Stmt := topS 16
def N_law_outs : List Str := ["_law_tape_here", "_law_line_here", "_law_utmost", "_law_full", "_law_quick", "_law_slow", "_law_found", "_law_k", "_law_inner"]
def e_law_outs : FnE := ⟨f_law_outs, []⟩
def C_law_outs : CC := ⟨N_law_outs, [("_law_draw", e_law_draw)], [], ["len", "max", "range", "tuple"]⟩
theorem sc_law_outs : FnScope N_law_outs ["_law_tape_here", "_law_line_here", "_law_utmost"] (defScope s_law_outs) := ⟨rfl, rfl, rfl, by decide +kernel, rfl, by decide +kernel, by decide +kernel⟩
theorem c_law_outs : compDef C_law_outs s_law_outs = some b_law_outs := by kernel_rfl
abbrev s_law_books : Stmt := topS 17
def N_law_books : List Str := ["_law_line_here", "_law_outs_here", "_law_books_here", "_law_lane", "_law_horse", "_law_found", "_law_come"]
def e_law_books : FnE := ⟨f_law_books, []⟩
def C_law_books : CC := ⟨N_law_books, [], [], ["list", "sorted", "zip"]⟩
theorem sc_law_books : FnScope N_law_books ["_law_line_here", "_law_outs_here"] (defScope s_law_books) := ⟨rfl, rfl, rfl, by decide +kernel, rfl, by decide +kernel, by decide +kernel⟩
theorem c_law_books : compDef C_law_books s_law_books = some b_law_books := by kernel_rfl
abbrev s_law_due_k09 : Stmt := topS 18
def N_law_due_k09 : List Str := ["_law_books_here", "_law_beat_here", "_law_found", "_law_spot", "_law_book", ".0", "_law_man", "_law_come"]
def e_law_due_k09 : FnE := ⟨f_law_due_k09, []⟩
def C_law_due_k09 : CC := ⟨N_law_due_k09, [], [], ["enumerate", "sorted"]⟩
theorem sc_law_due_k09 : FnScope N_law_due_k09 ["_law_books_here", "_law_beat_here"] (defScope s_law_due_k09) := ⟨rfl, rfl, rfl, by decide +kernel, rfl, by decide +kernel, by decide +kernel⟩
theorem c_law_due_k09 : compDef C_law_due_k09 s_law_due_k09 = some b_law_due_k09 := by kernel_rfl
abbrev s_law_right_k09 : Stmt := topS 19
def N_law_right_k09 : List Str := ["_law_tape_here", "_law_line_here", "_law_outs_here", "_law_books_here", "_law_last", "_law_some", "_law_k", "_law_book", "_law_come", "_law_beat_here", "_law_due_here", "_law_found"]
def e_law_right_k09 : FnE := ⟨f_law_right_k09, []⟩
def C_law_right_k09 : CC := ⟨N_law_right_k09, [("events", e_events), ("_law_draw", e_law_draw), ("_law_same", (e_law_same 12)), ("_law_line", e_law_line), ("_law_outs", e_law_outs), ("_law_books", e_law_books), ("_law_due", e_law_due_k09)], [], ["len", "range"]⟩
theorem sc_law_right_k09 : FnScope N_law_right_k09 ["_law_tape_here"] (defScope s_law_right_k09) := ⟨rfl, rfl, rfl, by decide +kernel, rfl, by decide +kernel, by decide +kernel⟩
theorem c_law_right_k09 : compDef C_law_right_k09 s_law_right_k09 = some b_law_right_k09 := by kernel_rfl
abbrev s_law_k09 : Stmt := topS 20
def N_law_k09 : List Str := ["_law_script", "_law_cells", "_law_k", "_law_tape_here"]
def e_law_k09 : FnE := ⟨f_law_k09, []⟩
def C_law_k09 : CC := ⟨N_law_k09, [("_law_tape", e_law_tape), ("_law_folded", e_law_folded), ("_law_right", e_law_right_k09)], [], ["len", "range"]⟩
theorem sc_law_k09 : FnScope N_law_k09 ["_law_script"] (defScope s_law_k09) := ⟨rfl, rfl, rfl, by decide +kernel, rfl, by decide +kernel, by decide +kernel⟩
theorem c_law_k09 : compDef C_law_k09 s_law_k09 = some b_law_k09 := by kernel_rfl
/-! what the top has written -/
theorem all_mk {P : Program} {w : World} {K : PySem.W.Frag} {h : Heap} {mg : Str → Option Value} {fa : Addr} (X : K.In h) (G : h.Ns mainGlobals mg) (hfa : mg "law" = some (.ref fa))
    {od0 an0 : Option Addr} {sl0 : Array (Option Value)} {oc0 kV0 dc0 pm0 cd0 ct0 : Value} {f0 : Addr}
    (a0 : PySem.W.nsIn K mainGlobals "bounds_of" = some (some (.ref f0))) (l0 : K.lookup f0 = some ⟨oc0, od0, .func (PySem.W.fnOf "bounds_of" "bounds_of" (defArgs s_bounds_of) (defBody s_bounds_of) (defScope s_bounds_of) .none kV0 dc0 pm0 an0 cd0 ct0), sl0⟩) (c0 : PySem.W.codeIn K cd0 "bounds_of" = true) (k0 : PySem.W.keepIn K (.ref f0) = true)
    {od1 an1 : Option Addr} {sl1 : Array (Option Value)} {oc1 kV1 dc1 pm1 cd1 ct1 : Value} {f1 : Addr}
    (a1 : PySem.W.nsIn K mainGlobals "held" = some (some (.ref f1))) (l1 : K.lookup f1 = some ⟨oc1, od1, .func (PySem.W.fnOf "held" "held" (defArgs s_held) (defBody s_held) (defScope s_held) .none kV1 dc1 pm1 an1 cd1 ct1), sl1⟩) (c1 : PySem.W.codeIn K cd1 "held" = true) (k1 : PySem.W.keepIn K (.ref f1) = true)
    {od2 an2 : Option Addr} {sl2 : Array (Option Value)} {oc2 kV2 dc2 pm2 cd2 ct2 : Value} {f2 : Addr}
    (a2 : PySem.W.nsIn K mainGlobals "ride_of" = some (some (.ref f2))) (l2 : K.lookup f2 = some ⟨oc2, od2, .func (PySem.W.fnOf "ride_of" "ride_of" (defArgs s_ride_of) (defBody s_ride_of) (defScope s_ride_of) .none kV2 dc2 pm2 an2 cd2 ct2), sl2⟩) (c2 : PySem.W.codeIn K cd2 "ride_of" = true) (k2 : PySem.W.keepIn K (.ref f2) = true)
    {od3 an3 : Option Addr} {sl3 : Array (Option Value)} {oc3 kV3 dc3 pm3 cd3 ct3 : Value} {f3 : Addr}
    (a3 : PySem.W.nsIn K mainGlobals "horses_at" = some (some (.ref f3))) (l3 : K.lookup f3 = some ⟨oc3, od3, .func (PySem.W.fnOf "horses_at" "horses_at" (defArgs s_horses_at) (defBody s_horses_at) (defScope s_horses_at) .none kV3 dc3 pm3 an3 cd3 ct3), sl3⟩) (c3 : PySem.W.codeIn K cd3 "horses_at" = true) (k3 : PySem.W.keepIn K (.ref f3) = true)
    {od4 an4 : Option Addr} {sl4 : Array (Option Value)} {oc4 kV4 dc4 pm4 cd4 ct4 : Value} {f4 : Addr}
    (a4 : PySem.W.nsIn K mainGlobals "comes_next" = some (some (.ref f4))) (l4 : K.lookup f4 = some ⟨oc4, od4, .func (PySem.W.fnOf "comes_next" "comes_next" (defArgs s_comes_next) (defBody s_comes_next) (defScope s_comes_next) .none kV4 dc4 pm4 an4 cd4 ct4), sl4⟩) (c4 : PySem.W.codeIn K cd4 "comes_next" = true) (k4 : PySem.W.keepIn K (.ref f4) = true)
    {od5 an5 : Option Addr} {sl5 : Array (Option Value)} {oc5 kV5 dc5 pm5 cd5 ct5 : Value} {f5 : Addr}
    (a5 : PySem.W.nsIn K mainGlobals "books_to" = some (some (.ref f5))) (l5 : K.lookup f5 = some ⟨oc5, od5, .func (PySem.W.fnOf "books_to" "books_to" (defArgs s_books_to) (defBody s_books_to) (defScope s_books_to) .none kV5 dc5 pm5 an5 cd5 ct5), sl5⟩) (c5 : PySem.W.codeIn K cd5 "books_to" = true) (k5 : PySem.W.keepIn K (.ref f5) = true)
    {od6 an6 : Option Addr} {sl6 : Array (Option Value)} {oc6 kV6 dc6 pm6 cd6 ct6 : Value} {f6 : Addr}
    (a6 : PySem.W.nsIn K mainGlobals "events" = some (some (.ref f6))) (l6 : K.lookup f6 = some ⟨oc6, od6, .func (PySem.W.fnOf "events" "events" (defArgs s_events) (defBody s_events) (defScope s_events) .none kV6 dc6 pm6 an6 cd6 ct6), sl6⟩) (c6 : PySem.W.codeIn K cd6 "events" = true) (k6 : PySem.W.keepIn K (.ref f6) = true)
    {od7 an7 : Option Addr} {sl7 : Array (Option Value)} {oc7 kV7 dc7 pm7 cd7 ct7 : Value} {f7 : Addr}
    (a7 : PySem.W.nsIn K mainGlobals "_law_tape" = some (some (.ref f7))) (l7 : K.lookup f7 = some ⟨oc7, od7, .func (PySem.W.fnOf "_law_tape" "_law_tape" (defArgs s_law_tape) (defBody s_law_tape) (defScope s_law_tape) .none kV7 dc7 pm7 an7 cd7 ct7), sl7⟩) (c7 : PySem.W.codeIn K cd7 "_law_tape" = true) (k7 : PySem.W.keepIn K (.ref f7) = true)
    {od8 an8 : Option Addr} {sl8 : Array (Option Value)} {oc8 kV8 dc8 pm8 cd8 ct8 : Value} {f8 : Addr}
    (a8 : PySem.W.nsIn K mainGlobals "_law_draw" = some (some (.ref f8))) (l8 : K.lookup f8 = some ⟨oc8, od8, .func (PySem.W.fnOf "_law_draw" "_law_draw" (defArgs s_law_draw) (defBody s_law_draw) (defScope s_law_draw) .none kV8 dc8 pm8 an8 cd8 ct8), sl8⟩) (c8 : PySem.W.codeIn K cd8 "_law_draw" = true) (k8 : PySem.W.keepIn K (.ref f8) = true)
    {od9 an9 : Option Addr} {sl9 : Array (Option Value)} {oc9 kV9 dc9 pm9 cd9 ct9 : Value} {f9 : Addr}
    (a9 : PySem.W.nsIn K mainGlobals "_law_folded" = some (some (.ref f9))) (l9 : K.lookup f9 = some ⟨oc9, od9, .func (PySem.W.fnOf "_law_folded" "_law_folded" (defArgs s_law_folded) (defBody s_law_folded) (defScope s_law_folded) .none kV9 dc9 pm9 an9 cd9 ct9), sl9⟩) (c9 : PySem.W.codeIn K cd9 "_law_folded" = true) (k9 : PySem.W.keepIn K (.ref f9) = true)
    {od10 an10 : Option Addr} {sl10 : Array (Option Value)} {oc10 kV10 dc10 pm10 cd10 ct10 : Value} {f10 : Addr}
    (a10 : PySem.W.nsIn K mainGlobals "_law_same" = some (some (.ref f10))) (l10 : K.lookup f10 = some ⟨oc10, od10, .func (PySem.W.fnOf "_law_same" "_law_same" (defArgs s_law_same) (defBody s_law_same) (defScope s_law_same) .none kV10 dc10 pm10 an10 cd10 ct10), sl10⟩) (c10 : PySem.W.codeIn K cd10 "_law_same" = true) (k10 : PySem.W.keepIn K (.ref f10) = true)
    {od11 an11 : Option Addr} {sl11 : Array (Option Value)} {oc11 kV11 dc11 pm11 cd11 ct11 : Value} {f11 : Addr}
    (a11 : PySem.W.nsIn K mainGlobals "_law_leg" = some (some (.ref f11))) (l11 : K.lookup f11 = some ⟨oc11, od11, .func (PySem.W.fnOf "_law_leg" "_law_leg" (defArgs s_law_leg) (defBody s_law_leg) (defScope s_law_leg) .none kV11 dc11 pm11 an11 cd11 ct11), sl11⟩) (c11 : PySem.W.codeIn K cd11 "_law_leg" = true) (k11 : PySem.W.keepIn K (.ref f11) = true)
    {od12 an12 : Option Addr} {sl12 : Array (Option Value)} {oc12 kV12 dc12 pm12 cd12 ct12 : Value} {f12 : Addr}
    (a12 : PySem.W.nsIn K mainGlobals "_law_line" = some (some (.ref f12))) (l12 : K.lookup f12 = some ⟨oc12, od12, .func (PySem.W.fnOf "_law_line" "_law_line" (defArgs s_law_line) (defBody s_law_line) (defScope s_law_line) .none kV12 dc12 pm12 an12 cd12 ct12), sl12⟩) (c12 : PySem.W.codeIn K cd12 "_law_line" = true) (k12 : PySem.W.keepIn K (.ref f12) = true)
    {od13 an13 : Option Addr} {sl13 : Array (Option Value)} {oc13 kV13 dc13 pm13 cd13 ct13 : Value} {f13 : Addr}
    (a13 : PySem.W.nsIn K mainGlobals "_law_outs" = some (some (.ref f13))) (l13 : K.lookup f13 = some ⟨oc13, od13, .func (PySem.W.fnOf "_law_outs" "_law_outs" (defArgs s_law_outs) (defBody s_law_outs) (defScope s_law_outs) .none kV13 dc13 pm13 an13 cd13 ct13), sl13⟩) (c13 : PySem.W.codeIn K cd13 "_law_outs" = true) (k13 : PySem.W.keepIn K (.ref f13) = true)
    {od14 an14 : Option Addr} {sl14 : Array (Option Value)} {oc14 kV14 dc14 pm14 cd14 ct14 : Value} {f14 : Addr}
    (a14 : PySem.W.nsIn K mainGlobals "_law_books" = some (some (.ref f14))) (l14 : K.lookup f14 = some ⟨oc14, od14, .func (PySem.W.fnOf "_law_books" "_law_books" (defArgs s_law_books) (defBody s_law_books) (defScope s_law_books) .none kV14 dc14 pm14 an14 cd14 ct14), sl14⟩) (c14 : PySem.W.codeIn K cd14 "_law_books" = true) (k14 : PySem.W.keepIn K (.ref f14) = true)
    {od15 an15 : Option Addr} {sl15 : Array (Option Value)} {oc15 kV15 dc15 pm15 cd15 ct15 : Value} {f15 : Addr}
    (a15 : PySem.W.nsIn K mainGlobals "_law_due" = some (some (.ref f15))) (l15 : K.lookup f15 = some ⟨oc15, od15, .func (PySem.W.fnOf "_law_due" "_law_due" (defArgs s_law_due_k09) (defBody s_law_due_k09) (defScope s_law_due_k09) .none kV15 dc15 pm15 an15 cd15 ct15), sl15⟩) (c15 : PySem.W.codeIn K cd15 "_law_due" = true) (k15 : PySem.W.keepIn K (.ref f15) = true)
    {od16 an16 : Option Addr} {sl16 : Array (Option Value)} {oc16 kV16 dc16 pm16 cd16 ct16 : Value} {f16 : Addr}
    (a16 : PySem.W.nsIn K mainGlobals "_law_right" = some (some (.ref f16))) (l16 : K.lookup f16 = some ⟨oc16, od16, .func (PySem.W.fnOf "_law_right" "_law_right" (defArgs s_law_right_k09) (defBody s_law_right_k09) (defScope s_law_right_k09) .none kV16 dc16 pm16 an16 cd16 ct16), sl16⟩) (c16 : PySem.W.codeIn K cd16 "_law_right" = true) (k16 : PySem.W.keepIn K (.ref f16) = true)
    {od17 an17 : Option Addr} {sl17 : Array (Option Value)} {oc17 kV17 dc17 pm17 cd17 ct17 : Value} {f17 : Addr}
    (a17 : PySem.W.nsIn K mainGlobals "law" = some (some (.ref f17))) (l17 : K.lookup f17 = some ⟨oc17, od17, .func (PySem.W.fnOf "law" "law" (defArgs s_law_k09) (defBody s_law_k09) (defScope s_law_k09) .none kV17 dc17 pm17 an17 cd17 ct17), sl17⟩) (c17 : PySem.W.codeIn K cd17 "law" = true) (k17 : PySem.W.keepIn K (.ref f17) = true)
    (z0 : PySem.W.nsIn K mainGlobals "abs" = some none) (z1 : PySem.W.nsIn K mainGlobals "all" = some none) (z2 : PySem.W.nsIn K mainGlobals "bool" = some none) (z3 : PySem.W.nsIn K mainGlobals "enumerate" = some none) (z4 : PySem.W.nsIn K mainGlobals "int" = some none) (z5 : PySem.W.nsIn K mainGlobals "isinstance" = some none) (z6 : PySem.W.nsIn K mainGlobals "len" = some none) (z7 : PySem.W.nsIn K mainGlobals "list" = some none) (z8 : PySem.W.nsIn K mainGlobals "max" = some none) (z9 : PySem.W.nsIn K mainGlobals "min" = some none) (z10 : PySem.W.nsIn K mainGlobals "range" = some none) (z11 : PySem.W.nsIn K mainGlobals "sorted" = some none) (z12 : PySem.W.nsIn K mainGlobals "str" = some none) (z13 : PySem.W.nsIn K mainGlobals "tuple" = some none) (z14 : PySem.W.nsIn K mainGlobals "zip" = some none) :
    ∃ fd : FuncData, (∀ (s : Shared) (u : Value), BindsTo s fd ⟨[u], []⟩ [("_law_script", u)]) ∧ ∀ base : Heap, K.In base → base.Ns mainGlobals mg → FnG P w K mg base 15 fa fd ["_law_script"] (SpecOf K f_law_k09) := by
  have ee := hfa.symm.trans (PySem.W.mg_of X G a17)
  cases ee
  refine ⟨PySem.W.fnOf "law" "law" (defArgs s_law_k09) (defBody s_law_k09) (defScope s_law_k09) .none kV17 dc17 pm17 an17 cd17 ct17, fun s u => .of_eq rfl, fun base _ _ => ?_⟩
  ·
    have m_abs : mg "abs" = none := PySem.W.mg_none_of X G z0
    have m_all : mg "all" = none := PySem.W.mg_none_of X G z1
    have m_bool : mg "bool" = none := PySem.W.mg_none_of X G z2
    have m_enumerate : mg "enumerate" = none := PySem.W.mg_none_of X G z3
    have m_int : mg "int" = none := PySem.W.mg_none_of X G z4
    have m_isinstance : mg "isinstance" = none := PySem.W.mg_none_of X G z5
    have m_len : mg "len" = none := PySem.W.mg_none_of X G z6
    have m_list : mg "list" = none := PySem.W.mg_none_of X G z7
    have m_max : mg "max" = none := PySem.W.mg_none_of X G z8
    have m_min : mg "min" = none := PySem.W.mg_none_of X G z9
    have m_range : mg "range" = none := PySem.W.mg_none_of X G z10
    have m_sorted : mg "sorted" = none := PySem.W.mg_none_of X G z11
    have m_str : mg "str" = none := PySem.W.mg_none_of X G z12
    have m_tuple : mg "tuple" = none := PySem.W.mg_none_of X G z13
    have m_zip : mg "zip" = none := PySem.W.mg_none_of X G z14
    have F0 := fun_mk (st := s_bounds_of) l0 c0 k0
    have T0 : Tops C_bounds_of P w K mg base 0 := tops_of all_nil all_nil all_nil
    have G0 := def_ok (ms := f_bounds_of.modes) F0 sc_bounds_of T0 rfl c_bounds_of
    have B0 := F0.binds (ps := ["leg"]) fun _ _ _ _ _ _ us hl => match us, hl with | [_], _ => rfl
    have E0 : Ent P w K mg base 1 "bounds_of" e_bounds_of := ⟨1, _, _, _, PySem.W.mg_of X G a0, k0, B0, Nat.le_refl _, G0, all_nil⟩
    have F1 := fun_mk (st := s_held) l1 c1 k1
    have T1 : Tops C_held P w K mg base 1 := tops_of (all_cons (E0.mono (by decide)) all_nil) all_nil (all_cons m_max (all_cons m_min all_nil))
    have G1 := def_ok (ms := f_held.modes) F1 sc_held T1 rfl c_held
    have B1 := F1.binds (ps := ["leg", "stand"]) fun _ _ _ _ _ _ us hl => match us, hl with | [_, _], _ => rfl
    have E1 : Ent P w K mg base 2 "held" e_held := ⟨2, _, _, _, PySem.W.mg_of X G a1, k1, B1, Nat.le_refl _, G1, all_nil⟩
    have F2 := fun_mk (st := s_ride_of) l2 c2 k2
    have T2 : Tops C_ride_of P w K mg base 2 := tops_of (all_cons (E1.mono (by decide)) all_nil) all_nil all_nil
    have G2 := def_ok (ms := f_ride_of.modes) F2 sc_ride_of T2 rfl c_ride_of
    have B2 := F2.binds (ps := ["leg", "stand"]) fun _ _ _ _ _ _ us hl => match us, hl with | [_, _], _ => rfl
    have E2 : Ent P w K mg base 3 "ride_of" e_ride_of := ⟨3, _, _, _, PySem.W.mg_of X G a2, k2, B2, Nat.le_refl _, G2, all_nil⟩
    have F3 := fun_mk (st := s_horses_at) l3 c3 k3
    have T3 : Tops C_horses_at P w K mg base 0 := tops_of all_nil all_nil all_nil
    have G3 := def_ok (ms := f_horses_at.modes) F3 sc_horses_at T3 rfl c_horses_at
    have B3 := F3.binds (ps := ["first", "comes"]) fun _ _ _ _ _ _ us hl => match us, hl with | [_, _], _ => rfl
    have E3 : Ent P w K mg base 1 "horses_at" e_horses_at := ⟨1, _, _, _, PySem.W.mg_of X G a3, k3, B3, Nat.le_refl _, G3, all_nil⟩
    have F4 := fun_mk (st := s_comes_next) l4 c4 k4
    have T4 : Tops C_comes_next P w K mg base 3 := tops_of (all_cons (E2.mono (by decide)) (all_cons (E3.mono (by decide)) all_nil)) all_nil (all_cons m_zip all_nil)
    have G4 := def_ok (ms := f_comes_next.modes) F4 sc_comes_next T4 rfl c_comes_next
    have B4 := F4.binds (ps := ["leg", "first", "comes"]) fun _ _ _ _ _ _ us hl => match us, hl with | [_, _, _], _ => rfl
    have E4 : Ent P w K mg base 4 "comes_next" e_comes_next := ⟨4, _, _, _, PySem.W.mg_of X G a4, k4, B4, Nat.le_refl _, G4, all_nil⟩
    have F5 := fun_mk (st := s_books_to) l5 c5 k5
    have T5 : Tops C_books_to P w K mg base 4 := tops_of (all_cons (E4.mono (by decide)) all_nil) all_nil (all_cons m_list (all_cons m_zip all_nil))
    have G5 := def_ok (ms := f_books_to.modes) F5 sc_books_to T5 rfl c_books_to
    have B5 := F5.binds (ps := ["road", "sets", "station"]) fun _ _ _ _ _ _ us hl => match us, hl with | [_, _, _], _ => rfl
    have E5 : Ent P w K mg base 5 "books_to" e_books_to := ⟨5, _, _, _, PySem.W.mg_of X G a5, k5, B5, Nat.le_refl _, G5, all_nil⟩
    have F6 := fun_mk (st := s_events) l6 c6 k6
    have T6 : Tops C_events P w K mg base 5 := tops_of (all_cons (E5.mono (by decide)) all_nil) all_nil (all_cons m_enumerate (all_cons m_len (all_cons m_sorted all_nil)))
    have G6 := def_ok (ms := f_events.modes) F6 sc_events T6 rfl c_events
    have B6 := F6.binds (ps := ["road", "sets", "beat"]) fun _ _ _ _ _ _ us hl => match us, hl with | [_, _, _], _ => rfl
    have E6 : Ent P w K mg base 6 "events" e_events := ⟨6, _, _, _, PySem.W.mg_of X G a6, k6, B6, Nat.le_refl _, G6, (all_cons (show KBd K _ ["road", "sets", "beat"] (0, ["beat", "sets", "road"], [2, 1, 0]) from fun us ws h1 h2 => match us, ws, h1, h2 with | [], [x0, x1, x2], _, _ => ⟨[x2, x1, x0], rfl, rfl⟩) all_nil)⟩
    have F7 := fun_mk (st := s_law_tape) l7 c7 k7
    have T7 : Tops C_law_tape P w K mg base 0 := tops_of all_nil all_nil (all_cons m_abs (all_cons m_int (all_cons m_len all_nil)))
    have G7 := def_ok (ms := f_law_tape.modes) F7 sc_law_tape T7 rfl c_law_tape
    have B7 := F7.binds (ps := ["_law_script", "_law_k"]) fun _ _ _ _ _ _ us hl => match us, hl with | [_, _], _ => rfl
    have E7 : Ent P w K mg base 1 "_law_tape" e_law_tape := ⟨1, _, _, _, PySem.W.mg_of X G a7, k7, B7, Nat.le_refl _, G7, all_nil⟩
    have F8 := fun_mk (st := s_law_draw) l8 c8 k8
    have T8 : Tops C_law_draw P w K mg base 0 := tops_of all_nil all_nil all_nil
    have G8 := def_ok (ms := f_law_draw.modes) F8 sc_law_draw T8 rfl c_law_draw
    have B8 := F8.binds (ps := ["_law_tape_here", "_law_many"]) fun _ _ _ _ _ _ us hl => match us, hl with | [_, _], _ => rfl
    have E8 : Ent P w K mg base 1 "_law_draw" e_law_draw := ⟨1, _, _, _, PySem.W.mg_of X G a8, k8, B8, Nat.le_refl _, G8, all_nil⟩
    have F9 := fun_mk (st := s_law_folded) l9 c9 k9
    have T9 : Tops C_law_folded P w K mg base 0 := tops_of all_nil all_nil (all_cons m_enumerate (all_cons m_list all_nil))
    have G9 := def_ok (ms := f_law_folded.modes) F9 sc_law_folded T9 rfl c_law_folded
    have B9 := F9.binds (ps := ["_law_script", "_law_many"]) fun _ _ _ _ _ _ us hl => match us, hl with | [_, _], _ => rfl
    have E9 : Ent P w K mg base 1 "_law_folded" e_law_folded := ⟨1, _, _, _, PySem.W.mg_of X G a9, k9, B9, Nat.le_refl _, G9, all_nil⟩
    have F10 := fun_mk (st := s_law_same) l10 c10 k10
    have B10 := F10.binds (ps := ["_law_found", "_law_due_here"]) fun _ _ _ _ _ _ us hl => match us, hl with | [_, _], _ => rfl
    have ER10 : ∀ n, Ent P w K mg base (1 + n) "_law_same" (e_law_same n) := fun n => by
      induction n with
      | zero => exact ⟨1, _, _, _, PySem.W.mg_of X G a10, k10, B10, Nat.le_refl _, fnG_stuck rfl, all_nil⟩
      | succ n ih =>
        have T : Tops (C_law_same n) P w K mg base (1 + n) := tops_of (all_cons ih all_nil) all_nil (all_cons m_all (all_cons m_bool (all_cons m_int (all_cons m_isinstance (all_cons m_len (all_cons m_list (all_cons m_str (all_cons m_tuple (all_cons m_zip all_nil)))))))))
        exact ⟨1 + n + 1, _, _, _, PySem.W.mg_of X G a10, k10, B10, Nat.le_refl _, def_ok (ms := (f_law_same (n + 1)).modes) F10 sc_law_same T rfl (c_law_same n), all_nil⟩
    have E10 : Ent P w K mg base 13 "_law_same" (e_law_same 12) := ER10 12
    have F11 := fun_mk (st := s_law_leg) l11 c11 k11
    have T11 : Tops C_law_leg P w K mg base 1 := tops_of (all_cons (E8.mono (by decide)) all_nil) all_nil (all_cons m_max all_nil)
    have G11 := def_ok (ms := f_law_leg.modes) F11 sc_law_leg T11 rfl c_law_leg
    have B11 := F11.binds (ps := ["_law_tape_here"]) fun _ _ _ _ _ _ us hl => match us, hl with | [_], _ => rfl
    have E11 : Ent P w K mg base 2 "_law_leg" e_law_leg := ⟨2, _, _, _, PySem.W.mg_of X G a11, k11, B11, Nat.le_refl _, G11, all_nil⟩
    have F12 := fun_mk (st := s_law_line) l12 c12 k12
    have T12 : Tops C_law_line P w K mg base 2 := tops_of (all_cons (E8.mono (by decide)) (all_cons (E11.mono (by decide)) all_nil)) all_nil (all_cons m_len (all_cons m_range (all_cons m_tuple all_nil)))
    have G12 := def_ok (ms := f_law_line.modes) F12 sc_law_line T12 rfl c_law_line
    have B12 := F12.binds (ps := ["_law_tape_here", "_law_utmost"]) fun _ _ _ _ _ _ us hl => match us, hl with | [_, _], _ => rfl
    have E12 : Ent P w K mg base 3 "_law_line" e_law_line := ⟨3, _, _, _, PySem.W.mg_of X G a12, k12, B12, Nat.le_refl _, G12, all_nil⟩
    have F13 := fun_mk (st := s_law_outs) l13 c13 k13
    have T13 : Tops C_law_outs P w K mg base 1 := tops_of (all_cons (E8.mono (by decide)) all_nil) all_nil (all_cons m_len (all_cons m_max (all_cons m_range (all_cons m_tuple all_nil))))
    have G13 := def_ok (ms := f_law_outs.modes) F13 sc_law_outs T13 rfl c_law_outs
    have B13 := F13.binds (ps := ["_law_tape_here", "_law_line_here", "_law_utmost"]) fun _ _ _ _ _ _ us hl => match us, hl with | [_, _, _], _ => rfl
    have E13 : Ent P w K mg base 2 "_law_outs" e_law_outs := ⟨2, _, _, _, PySem.W.mg_of X G a13, k13, B13, Nat.le_refl _, G13, all_nil⟩
    have F14 := fun_mk (st := s_law_books) l14 c14 k14
    have T14 : Tops C_law_books P w K mg base 0 := tops_of all_nil all_nil (all_cons m_list (all_cons m_sorted (all_cons m_zip all_nil)))
    have G14 := def_ok (ms := f_law_books.modes) F14 sc_law_books T14 rfl c_law_books
    have B14 := F14.binds (ps := ["_law_line_here", "_law_outs_here"]) fun _ _ _ _ _ _ us hl => match us, hl with | [_, _], _ => rfl
    have E14 : Ent P w K mg base 1 "_law_books" e_law_books := ⟨1, _, _, _, PySem.W.mg_of X G a14, k14, B14, Nat.le_refl _, G14, all_nil⟩
    have F15 := fun_mk (st := s_law_due_k09) l15 c15 k15
    have T15 : Tops C_law_due_k09 P w K mg base 0 := tops_of all_nil all_nil (all_cons m_enumerate (all_cons m_sorted all_nil))
    have G15 := def_ok (ms := f_law_due_k09.modes) F15 sc_law_due_k09 T15 rfl c_law_due_k09
    have B15 := F15.binds (ps := ["_law_books_here", "_law_beat_here"]) fun _ _ _ _ _ _ us hl => match us, hl with | [_, _], _ => rfl
    have E15 : Ent P w K mg base 1 "_law_due" e_law_due_k09 := ⟨1, _, _, _, PySem.W.mg_of X G a15, k15, B15, Nat.le_refl _, G15, all_nil⟩
    have F16 := fun_mk (st := s_law_right_k09) l16 c16 k16
    have T16 : Tops C_law_right_k09 P w K mg base 13 := tops_of (all_cons (E6.mono (by decide)) (all_cons (E8.mono (by decide)) (all_cons (E10.mono (by decide)) (all_cons (E12.mono (by decide)) (all_cons (E13.mono (by decide)) (all_cons (E14.mono (by decide)) (all_cons (E15.mono (by decide)) all_nil))))))) all_nil (all_cons m_len (all_cons m_range all_nil))
    have G16 := def_ok (ms := f_law_right_k09.modes) F16 sc_law_right_k09 T16 rfl c_law_right_k09
    have B16 := F16.binds (ps := ["_law_tape_here"]) fun _ _ _ _ _ _ us hl => match us, hl with | [_], _ => rfl
    have E16 : Ent P w K mg base 14 "_law_right" e_law_right_k09 := ⟨14, _, _, _, PySem.W.mg_of X G a16, k16, B16, Nat.le_refl _, G16, all_nil⟩
    have F17 := fun_mk (st := s_law_k09) l17 c17 k17
    have T17 : Tops C_law_k09 P w K mg base 14 := tops_of (all_cons (E7.mono (by decide)) (all_cons (E9.mono (by decide)) (all_cons (E16.mono (by decide)) all_nil))) all_nil (all_cons m_len (all_cons m_range all_nil))
    have G17 := def_ok (ms := f_law_k09.modes) F17 sc_law_k09 T17 rfl c_law_k09
    exact G17
end Rx
open PySem PySem.W PyProof.Rows
set_option maxHeartbeats 0 in
theorem PySem.Challenge.cw_restedhorses_k09_all_comings_to_a_beat_holds : PySem.Challenge.rw_restedhorses_k09_all_comings_to_a_beat.Holds := by
  w_on; o_law; k_head; (case hw => w_witness2)
  k_fill
  refine Rx.walk_end (l := PySem.Challenge.rw_restedhorses_k09_all_comings_to_a_beat) (n := 63) (k := 15) (x := "_law_script") (fi := Rx.f_law_k09) rfl (by decide) rfl ⟨rfl, by decide, by decide⟩ (fun w h Y => PySem.W.kIn_of Y) ?F rfl Rx.says
  case F =>
    intro w mg fa h KX G hmg
    refine' Rx.all_mk KX G hmg ?a0 ?l0 ?c0 ?k0 ?a1 ?l1 ?c1 ?k1 ?a2 ?l2 ?c2 ?k2 ?a3 ?l3 ?c3 ?k3 ?a4 ?l4 ?c4 ?k4 ?a5 ?l5 ?c5 ?k5 ?a6 ?l6 ?c6 ?k6 ?a7 ?l7 ?c7 ?k7 ?a8 ?l8 ?c8 ?k8 ?a9 ?l9 ?c9 ?k9 ?a10 ?l10 ?c10 ?k10 ?a11 ?l11 ?c11 ?k11 ?a12 ?l12 ?c12 ?k12 ?a13 ?l13 ?c13 ?k13 ?a14 ?l14 ?c14 ?k14 ?a15 ?l15 ?c15 ?k15 ?a16 ?l16 ?c16 ?k16 ?a17 ?l17 ?c17 ?k17 ?z0 ?z1 ?z2 ?z3 ?z4 ?z5 ?z6 ?z7 ?z8 ?z9 ?z10 ?z11 ?z12 ?z13 ?z14
    (case a0 => k_is); (case l0 => k_is); (case c0 => k_is); (case k0 => k_is); (case a1 => k_is); (case l1 => k_is); (case c1 => k_is); (case k1 => k_is); (case a2 => k_is); (case l2 => k_is); (case c2 => k_is); (case k2 => k_is); (case a3 => k_is); (case l3 => k_is); (case c3 => k_is); (case k3 => k_is); (case a4 => k_is); (case l4 => k_is); (case c4 => k_is); (case k4 => k_is); (case a5 => k_is); (case l5 => k_is); (case c5 => k_is); (case k5 => k_is); (case a6 => k_is); (case l6 => k_is); (case c6 => k_is); (case k6 => k_is); (case a7 => k_is); (case l7 => k_is); (case c7 => k_is); (case k7 => k_is); (case a8 => k_is); (case l8 => k_is); (case c8 => k_is); (case k8 => k_is); (case a9 => k_is); (case l9 => k_is); (case c9 => k_is); (case k9 => k_is); (case a10 => k_is); (case l10 => k_is); (case c10 => k_is); (case k10 => k_is); (case a11 => k_is); (case l11 => k_is); (case c11 => k_is); (case k11 => k_is); (case a12 => k_is); (case l12 => k_is); (case c12 => k_is); (case k12 => k_is); (case a13 => k_is); (case l13 => k_is); (case c13 => k_is); (case k13 => k_is); (case a14 => k_is); (case l14 => k_is); (case c14 => k_is); (case k14 => k_is); (case a15 => k_is); (case l15 => k_is); (case c15 => k_is); (case k15 => k_is); (case a16 => k_is); (case l16 => k_is); (case c16 => k_is); (case k16 => k_is); (case a17 => k_is); (case l17 => k_is); (case c17 => k_is); (case k17 => k_is); (case z0 => k_is); (case z1 => k_is); (case z2 => k_is); (case z3 => k_is); (case z4 => k_is); (case z5 => k_is); (case z6 => k_is); (case z7 => k_is); (case z8 => k_is); (case z9 => k_is); (case z10 => k_is); (case z11 => k_is); (case z12 => k_is); (case z13 => k_is); (case z14 => k_is)
