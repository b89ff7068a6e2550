import PyProof.Rows.All
import HandS.TupMul
import HandS.TupLe
import KE.KTupSum
import HandS.List
import HandS.ForMost
import HandS.ForExc
import HandS.TupAny
import HandS.Wide
import HandS.Conv
import HandS.Deep
import HandS.Style
import KE.KDictKeyed
import HandS.Zip
import HandS.Rev
import HandS.DictComp
import HandS.IsInst
import HandS.WordsExc
import PySem.Challenge.RW_foundasked_k06_whole_lies
set_option Elab.async false
set_option linter.all false
set_option maxRecDepth 100000

set_option linter.all false
set_option maxRecDepth 100000
set_option maxHeartbeats 4000000
/-! EvT: a tuple taken once or no times; sums of tuples. -/
namespace Ev
open PySem PySem.Spec PyProof.Rows
open L2 (Hp HO V Cx Inv SqL SqT Vals OpR CallR RelV R2 VK EP upd)
/-- taken once: the same tuple -/
theorem mul_once (l : Addr) (items : Array Value) (n : Nat) (dd : Option Addr) (sl : Array (Option Value)) (u : Tok) :
    Meets (Builtin.«tuple.__mul__» ⟨[.ref l, .int 1 u], []⟩) (fun _ R s => s.heap.get? l = some { cls := .type "tuple", dict := dd, data := .seq items n, slots := sl } ∧ R (.ok (.ret (Value.ref l))) s) :=
  .of_wp fun prog w A R s h => by
    obtain ⟨hp, g, d, tk, os⟩ := s
    obtain ⟨hl, h⟩ := h
    have f1 := AutoSeq1.idx_int
    wp_walk using wpAny_loadPart' hl
    exact ⟨_, rfl, h⟩
/-- taken no times: an empty one -/
theorem mul_never (l : Addr) (items : Array Value) (n : Nat) (dd : Option Addr) (sl : Array (Option Value)) (u : Tok) (hi : items.isEmpty = false) :
    Meets (Builtin.«tuple.__mul__» ⟨[.ref l, .int 0 u], []⟩) (fun _ R s => s.heap.get? l = some { cls := .type "tuple", dict := dd, data := .seq items n, slots := sl } ∧
      R (.ok (.ret (Value.ref s.heap.objs.size))) { s with heap := s.heap.push { cls := Value.type "tuple", data := Data.seq #[] }, toks := s.toks }) :=
  .of_wp fun prog w A R s h => by
    obtain ⟨hp, g, d, tk, os⟩ := s
    obtain ⟨hl, h⟩ := h
    have f1 := AutoSeq1.idx_int
    wp_walk using wpAny_loadPart' hl
    exact ⟨_, rfl, h⟩
section
variable {X : Cx}
/-- a tuple times 1, times 0 -/
def rTimes01 (K : PySem.W.Frag) : R2 := fun x y H Q => ∃ l k xs, x = .ref l ∧ y = .int k ∧ SqT K H l xs ∧ xs ≠ [] ∧ ((k = 1 ∧ Q (.ref l) H) ∨ (k = 0 ∧ ∀ p, H p = none → Q (.ref p) (upd H p (.tup []))))
theorem op_times01 : OpR X (binaryOp .Mult) (rTimes01 X.K) := by
  rintro pins s σ H _ _ v u Q I rx ry ⟨l, k, xs, rfl, rfl, hT, ne, way⟩
  cases rx
  obtain ⟨t, rfl⟩ := ry
  obtain ⟨its, rv, ⟨⟨cls, dd, data, sl⟩, at_, hc, n, hd⟩, _⟩ := I.tuple hT
  dsimp only at hc hd
  subst hc hd
  have full : its.toArray.isEmpty = false := by
    cases its with
    | cons _ _ => rfl
    | nil => exact absurd (List.eq_nil_of_length_eq_zero rv.length) ne
  have kind : s.TypeIs (.ref l) "tuple" := ⟨_, at_, rfl⟩
  have self : ∀ R, wpAny (model X.prog X.w) X.A (call (.builtin "tuple.__mul__") [.ref l, .int k t]) R X.xe s → wpAny (model X.prog X.w) X.A (binaryOp .Mult (.ref l) (.int k t)) R X.xe s := fun R h =>
    wpAny_binaryOp_repeat_ref (T := "tuple") (U := "int") (by decide) kind (fun s' => typeIs_int s' k t) L2.noFill_tuple_mul F.fills_int_mul F.slot_int_rmul L2.repeat_tuple F.slot_int_index.lookup
      (call_meets F.slot_int_rmul (typeIs_int s k t) F.entry_int_rmul (F.args_int_rmul_2 _ _) (L2.int_rmul_tuple k t l its.toArray n dd sl) ⟨at_, rfl, kind, h⟩)
  refine self _ ?_
  rcases way with ⟨rfl, q⟩ | ⟨rfl, q⟩
  · exact call_meets F.slot_tuple_mul kind F.entry_tuple_mul (F.args_tuple_mul_2 _ _) (mul_once l its.toArray n dd sl t) ⟨at_, .ref l, H, I, rfl, q⟩
  · refine call_meets F.slot_tuple_mul kind F.entry_tuple_mul (F.args_tuple_mul_2 _ _) (mul_never l its.toArray n dd sl t full) ⟨at_, .ref s.heap.objs.size, _, ?_, rfl, q _ (I.hok.fresh (Nat.le_refl _))⟩
    exact I.laid (t' := s.toks) (o := .tup []) (fun _ _ => Heap.get?_push_of_some _) (Nat.le_refl _) ⟨Nat.zero_le _, [], .nil, IsTup.new _ _⟩
end
theorem cr_sumT {X : Cx} (hc : X.calm = true) : CallR X (.builtin "sum") (fun vs H Q => ∃ (a : Addr) (ns : List Int), vs = [V.ref a] ∧ SqT X.K H a (ns.map V.int) ∧ Q (.int ns.sum) H) := by
  rintro pins s σ H vs us Q I r ⟨a, ns, rfl, hs, q⟩
  obtain ⟨its, rv, ht, _⟩ := I.tuple hs
  rw [Vals.ref1 r]
  have nums := rv.ints
  obtain ⟨xs, e⟩ := nums.allInts.items
  have hn : numsOf its.toArray.toList = ns := nums.numsOf
  rw [e, nums_intItems] at hn
  have ht : s.heap.IsTuple a its.toArray := ht
  rw [e] at ht
  refine PySem.W.ktm_sumG (I.ok.hd hc) ht fun h' tk t' keeps => ?_
  rw [preSum_eq, List.take_of_length_le (by simp), hn]
  exact ⟨.int ns.sum, H, I.kept keeps, ⟨_, rfl⟩, q⟩
end Ev

set_option linter.all false
set_option maxRecDepth 100000
/-! Ev: plain data, a small language of slots, and its evaluator. -/
namespace Ev
open PySem
open L2 (ixN)
open HT (sIx lexLt)

/-- plain data: what never changes again -/
inductive D where
  | non | bl (b : Bool) | int (i : Int) | str (x : Str)
  | tup (ds : List D) | lst (ds : List D)
  | ins (c : Nat) (fs : List D)
  deriving Inhabited

mutual
def D.beq : D → D → Bool
  | .non, .non => true
  | .bl a, .bl b => a == b
  | .bl a, .int j => (if a then (1 : Int) else 0) == j
  | .int i, .bl b => i == (if b then (1 : Int) else 0)
  | .int i, .int j => i == j
  | .str x, .str y => x == y
  | .lst xs, .lst ys => D.beqs xs ys
  | .tup xs, .tup ys => D.beqs xs ys
  | _, _ => false
def D.beqs : List D → List D → Bool
  | [], [] => true
  | x :: xs, y :: ys => D.beq x y && D.beqs xs ys
  | _, _ => false
end

def D.isNon : D → Bool
  | .non => true
  | _ => false
def strOkS (x : Str) : Bool := x.cps.all (· < 0x110000)
mutual
/-- data that == may look at: nested at most n deep, no instances -/
def D.ok : D → Nat → Bool
  | .non, _ => true
  | .bl _, _ => true
  | .int _, _ => true
  | .str x, _ => strOkS x
  | .tup ds, n => match n with | 0 => false | n + 1 => D.oks ds n
  | .lst ds, n => match n with | 0 => false | n + 1 => D.oks ds n
  | .ins _ _, _ => false
def D.oks : List D → Nat → Bool
  | [], _ => true
  | d :: ds, n => D.ok d n && D.oks ds n
end

/-- what may change: a list, a dict with plain keys (ints, texts), a dict with tuples as keys -/
inductive Ct where
  | lst (ds : List D)
  | dk (kvs : List (D × D))
  | dx (kvs : List (D × D))
  | obj (fs : List D)
  deriving Inhabited
abbrev Mem := List Ct

/-- a slot of a frame -/
inductive Sl where
  | un | val (d : D) | own (c : Ct) | cell (n : Nat)
  deriving Inhabited
abbrev Fr := List Sl

/-- an error: its class, its place -/
structure Er where
  cls : Nat
  place : D

inductive R (α : Type) where
  | ok (a : α) (m : Mem)
  | exc (e : Er) (m : Mem)
  | bad

def R.bind {α β : Type} (r : R α) (f : α → Mem → R β) : R β := match r with
  | .ok a m => f a m
  | .exc e m => .exc e m
  | .bad => .bad
@[simp] theorem R.bind_ok {α β : Type} (a : α) (m : Mem) (f : α → Mem → R β) : (R.ok a m).bind f = f a m := rfl
@[simp] theorem R.bind_exc {α β : Type} (e : Er) (m : Mem) (f : α → Mem → R β) : (R.exc e m).bind f = .exc e m := rfl
@[simp] theorem R.bind_bad {α β : Type} (f : α → Mem → R β) : (R.bad : R α).bind f = .bad := rfl
theorem R.bind_eq_ok {α β : Type} {r : R α} {f : α → Mem → R β} {b : β} {m : Mem} (h : r.bind f = .ok b m) : ∃ a m1, r = .ok a m1 ∧ f a m1 = .ok b m := by
  cases r with
  | ok a m1 => exact ⟨a, m1, rfl, h⟩
  | exc e m1 => cases h
  | bad => cases h
/-- lift an option -/
def opt {α : Type} (o : Option α) (m : Mem) : R α := match o with | some a => .ok a m | none => .bad
@[simp] theorem opt_some {α : Type} (a : α) (m : Mem) : opt (some a) m = .ok a m := rfl
@[simp] theorem opt_none {α : Type} (m : Mem) : opt (none : Option α) m = .bad := rfl
theorem opt_eq_ok {α : Type} {o : Option α} {a : α} {m m' : Mem} (h : opt o m = .ok a m') : o = some a ∧ m' = m := by
  cases o with
  | none => cases h
  | some b => cases h; exact ⟨rfl, rfl⟩

/-- a call's argument, a call's answer -/
inductive Ar where
  | d (d : D) | c (n : Nat)
inductive Rv where
  | d (d : D) | f (c : Ct)
abbrev CF := Nat → List Ar → Mem → R Rv

/-! ### the language -/
inductive Bop | add | sub | mul | fdiv | mod | pow | shl | shr | band | bor | bxor
  deriving DecidableEq
inductive Cop | eq | ne | lt | le | gt | ge | isN | notN | isin | notin
  deriving DecidableEq
inductive Bi | len | abs | int | bool | min | max | sum | all | any | list | tuple | sorted | lenset | sortset | str
  deriving DecidableEq
inductive Mt | get1 | get2 | index | count
  deriving DecidableEq
inductive Ty | int | bool | str | tup | lst | ins (c : Nat)
  deriving DecidableEq
/-- a target: one slot, or a tuple of slots -/
inductive Tg | one (i : Nat) | many (is : List Nat)
  deriving DecidableEq
mutual
inductive Ex
  | int (i : Int) | bl (b : Bool) | non | str (x : Str)
  | var (i : Nat)
  | con (x : Str) (d : D)
  | bin (o : Bop) (a b : Ex)
  | neg (a : Ex) | not (a : Ex)
  | and (es : Exs) | or (es : Exs)
  | cmp (o : Cop) (a b : Ex)
  | cmp2 (o p : Cop) (a b c : Ex)
  | ite (c a b : Ex)
  | tup (es : Exs) | lst (es : Exs)
  | idx (a i : Ex)
  | slc (a lo hi : Ex)
  | rev (a : Ex)
  | call (f : Nat) (es : Exs)
  | meth (f : Nat) (es : Exs)
  | mk (c f : Nat) (es : Exs)
  | bi (b : Bi) (es : Exs)
  | mt (m : Mt) (es : Exs)
  | attr (o : Ex) (c f : Nat)
  | isi (t : Ty) (e : Ex)
  | lc (tg : Tg) (it : It) (cd : Ex) (elt : Ex)
  | lc2 (tg : Tg) (it : It) (cd : Ex) (tg2 : Tg) (it2 : It) (cd2 : Ex) (elt : Ex)
  | d0 (x : Bool)
  | dct (x : Bool) (ks vs : Exs)
  | dc (x : Bool) (tg : Tg) (it : It) (cd : Ex) (k v : Ex)
  | rngl (as : Exs) | rngt (as : Exs)
  | no
inductive Exs
  | nil | cons (e : Ex) (es : Exs)
inductive It
  | rng (as : Exs) | seq (a : Ex) | zip (a b : Ex) | enum (a : Ex) | rvs (a : Ex)
end
mutual
inductive St
  | asg (i : Nat) (e : Ex)
  | asgO (i : Nat) (e : Ex)
  | asgC (i : Nat) (e : Ex)
  | asgT (is : List Nat) (e : Ex)
  | setI (i : Nat) (k v : Ex)
  | aug (o : Bop) (i : Nat) (e : Ex)
  | augI (o : Bop) (i : Nat) (k e : Ex)
  | ex (e : Ex)
  | app (i : Nat) (e : Ex)
  | ext (i : Nat) (e : Ex)
  | pop (j : Option Nat) (i : Nat) (k : Ex)
  | ite (c : Ex) (a b : Sts)
  | whl (c : Ex) (b : Sts)
  | for (tg : Tg) (it : It) (b : Sts)
  | ret (e : Ex)
  | retO (e : Ex)
  | retN
  | brk | cont | pass
  | frz (i : Nat)
  | fgt (i : Nat)
  | fld (f : Nat) (e : Ex)
  | raise (c : Nat) (e : Ex)
inductive Sts
  | nil | cons (s : St) (ss : Sts)
end
/-- a def: how many parameters, how many slots, its body -/
structure Fn where
  np : Nat
  ns : Nat
  ini : Bool
  body : Sts

/-! ### operations on data -/
def line : Nat := 16777216
def lenOk (n : Nat) : Bool := decide (n ≤ line)
def mulOk (i j : Int) : Bool := decide (i.natAbs.log2 + j.natAbs.log2 < 1000000)
def powOk (i j : Int) : Bool := decide (0 ≤ j ∧ j ≤ 1000000 ∧ i.natAbs < 2 ^ 64)
def divOk (j : Int) : Bool := decide (0 < j ∧ j.natAbs.log2 < 9000)
def bitAnd (x y : Int) : Int := ((x.toNat &&& y.toNat : Nat) : Int)
def bitOr (x y : Int) : Int := ((x.toNat ||| y.toNat : Nat) : Int)
def bitXor (x y : Int) : Int := ((x.toNat ^^^ y.toNat : Nat) : Int)
def intOp : Bop → Int → Int → Option Int
  | .add, i, j => some (i + j)
  | .sub, i, j => some (i - j)
  | .mul, i, j => if mulOk i j then some (i * j) else none
  | .fdiv, i, j => if divOk j then some (i / j) else none
  | .mod, i, j => if 0 < j then some (i % j) else none
  | .pow, i, j => if powOk i j then some (i ^ j.toNat) else none
  | .shl, i, j => if powOk i j then some (i * 2 ^ j.toNat) else none
  | .shr, i, j => if 0 ≤ j then some (i / 2 ^ j.toNat) else none
  | .band, i, j => if 0 ≤ i ∧ 0 ≤ j then some (bitAnd i j) else none
  | .bor, _, _ => none
  | .bxor, _, _ => none
/-- what an expression is looked at as -/
inductive Vw where
  | d (d : D) | c (c : Ct) | r (n : Nat)
/-- a cell's content, as it is now -/
def Vw.at (m : Mem) : Vw → Vw
  | .r n => match m[n]? with | some x => .c x | none => .r n
  | v => v
/-- the items of a list or tuple -/
def Vw.seq : Vw → Option (Bool × List D)
  | .d (.tup ds) => some (true, ds)
  | .d (.lst ds) => some (false, ds)
  | .c (.lst ds) => some (false, ds)
  | _ => none
def Vw.dat : Vw → Option D
  | .d x => some x
  | .c (.lst ds) => some (.lst ds)
  | _ => none
/-- freeze -/
def Rv.dat : Rv → Option D
  | .d x => some x
  | .f (.lst ds) => some (.lst ds)
  | _ => none
def Rv.vw : Rv → Vw
  | .d x => .d x
  | .f x => .c x
def Rv.frs : Rv → Option Ct
  | .f x => some x
  | _ => none
def repeatL (ds : List D) (k : Int) : List D := (List.replicate k.toNat ds).flatten
def binV (o : Bop) (a b : Vw) : Option Rv :=
  match a, b with
  | .d (.int i), .d (.int j) => (intOp o i j).map (fun k => .d (.int k))
  | .d (.tup xs), .d (.tup ys) => match o with
    | .add => if lenOk (xs.length + ys.length) then some (.d (.tup (xs ++ ys))) else none
    | _ => none
  | .d (.str x), .d (.str y) => match o with
    | .add => if lenOk (x.length + y.length) then some (.d (.str (x ++ y))) else none
    | _ => none
  | .d (.tup xs), .d (.int k) => match o with
    | .mul => if decide (2 ≤ k ∧ k ≤ 1000 ∧ xs.length ≤ 1000 ∧ 0 < xs.length) then some (.d (.tup (repeatL xs k))) else if decide (k = 1 ∧ 0 < xs.length) then some (.d (.tup xs)) else if decide (k = 0 ∧ 0 < xs.length) then some (.d (.tup [])) else none
    | _ => none
  | .c (.lst xs), .d (.int k) => match o with
    | .mul => if decide (0 ≤ k ∧ k ≤ 1000000 ∧ xs.length ≤ 16) then some (.f (.lst (repeatL xs k))) else none
    | _ => none
  | a, b => match o, a.seq, b.seq with
    | .add, some (false, xs), some (false, ys) => if lenOk (xs.length + ys.length) then some (.f (.lst (xs ++ ys))) else none
    | _, _, _ => none
def okD (d : D) : Bool := D.ok d 16
def eqD (a b : D) : Option Bool := if okD a && okD b then some (D.beq a b) else none
def intsOf : List D → Option (List Int)
  | [] => some []
  | .int i :: ds => (intsOf ds).map (i :: ·)
  | _ :: _ => none
def blsOf : List D → Option (List Bool)
  | [] => some []
  | .bl i :: ds => (blsOf ds).map (i :: ·)
  | _ :: _ => none
/-- tuples of ints, one not above the other, as the model walks them -/
def lexLe (p q : List Int) : Bool := Ob.lexAt (fun j => decide (p.getD j 0 = q.getD j 0)) (fun j => decide (p.getD j 0 ≤ q.getD j 0)) (decide (p.length ≤ q.length)) 0 (min p.length q.length)
/-- a key of a dict with plain keys; one that is a tuple -/
def plainKey : D → Bool
  | .int _ => true
  | .str _ => true
  | _ => false
mutual
def tupKey : D → Nat → Bool
  | .non, _ => true
  | .bl _, _ => true
  | .int _, _ => true
  | .str _, _ => true
  | .tup ds, n => match n with | 0 => false | n + 1 => tupKeys ds n
  | .lst _, _ => false
  | .ins _ _, _ => false
def tupKeys : List D → Nat → Bool
  | [], _ => true
  | d :: ds, n => tupKey d n && tupKeys ds n
end
def isTup : D → Bool
  | .tup _ => true
  | _ => false
def keyOk (x : Bool) (k : D) : Bool := if x then isTup k && tupKey k 8 else plainKey k
/-- look-up, store -/
def dget : List (D × D) → D → Option D
  | [], _ => none
  | (k, v) :: r, x => if D.beq k x then some v else dget r x
def dput (kvs : List (D × D)) (x v : D) : List (D × D) := if kvs.any (fun p => D.beq p.1 x) then kvs.map (fun p => if D.beq p.1 x then (p.1, v) else p) else kvs ++ [(x, v)]
def Ct.dic : Ct → Option (Bool × List (D × D))
  | .dk kvs => some (false, kvs)
  | .dx kvs => some (true, kvs)
  | _ => none
def mkDic (x : Bool) (kvs : List (D × D)) : Ct := if x then .dx kvs else .dk kvs
def cmpD (o : Cop) (a b : Vw) : Option Bool := match o with
  | .eq => match a.dat, b.dat with | some x, some y => eqD x y | _, _ => none
  | .ne => match a.dat, b.dat with | some x, some y => (eqD x y).map (fun t => !t) | _, _ => none
  | .isN => match a, b with
    | .d x, .d .non => some x.isNon
    | .d (.bl x), .d (.bl y) => some (decide (x = y))
    | _, _ => none
  | .notN => match a, b with
    | .d x, .d .non => some (!x.isNon)
    | .d (.bl x), .d (.bl y) => some (!decide (x = y))
    | _, _ => none
  | .isin => inD a b
  | .notin => (inD a b).map (!·)
  | .lt => match a, b with
    | .d (.int i), .d (.int j) => some (decide (i < j))
    | .d (.tup x), .d (.tup y) => match intsOf x, intsOf y with | some p, some q => some (lexLt p q) | _, _ => none
    | _, _ => none
  | .gt => match a, b with | .d (.int i), .d (.int j) => some (decide (j < i)) | _, _ => none
  | .le => match a, b with
    | .d (.int i), .d (.int j) => some (decide (i ≤ j))
    | .d (.tup x), .d (.tup y) => match intsOf x, intsOf y with | some p, some q => some (lexLe p q) | _, _ => none
    | _, _ => none
  | .ge => match a, b with | .d (.int i), .d (.int j) => some (decide (j ≤ i)) | _, _ => none
where inD (a b : Vw) : Option Bool := match a with
  | .d x => match b.seq with
    | some (_, ds) => if okD x && D.oks ds 16 then some (ds.any fun y => D.beq y x) else none
    | none => match b with
      | .c c => match c.dic with
        | some (t, kvs) => if keyOk t x then some (dget kvs x).isSome else none
        | none => none
      | _ => none
  | _ => none
def idxV (a : Vw) (k : D) : Option D := match a.seq with
  | some (_, ds) => match k with | .int i => (ixN ds.length i).bind fun j => ds[j]? | _ => none
  | none => match a with
    | .d (.str x) => match k with | .int i => if lenOk x.length then (ixN x.length i).bind (fun j => (x.cps[j]?).map (fun c => .str ⟨#[c]⟩)) else none | _ => none
    | .c c => match c.dic with
      | some (t, kvs) => if keyOk t k then dget kvs k else none
      | none => none
    | _ => none
def cutL {α : Type} (xs : List α) (lo hi : Option Int) : List α := (xs.drop (sIx xs.length 0 lo)).take (sIx xs.length xs.length hi - sIx xs.length 0 lo)
def slcV (a : Vw) (lo hi : Option Int) : Option Rv := match a.seq with
  | some (true, ds) => some (.d (.tup (cutL ds lo hi)))
  | some (false, ds) => some (.f (.lst (cutL ds lo hi)))
  | none => none
def minI : Int → List Int → Int
  | m, [] => m
  | m, x :: xs => minI (if x < m then x else m) xs
def maxI : Int → List Int → Int
  | m, [] => m
  | m, x :: xs => maxI (if m < x then x else m) xs
def putS (x : Int) : List Int → List Int
  | [] => [x]
  | y :: ys => if x ≤ y then x :: y :: ys else y :: putS x ys
def sortI : List Int → List Int
  | [] => []
  | x :: xs => putS x (sortI xs)
def Vw.keys (a : Vw) : Option (List D) := match a.seq with
  | some (_, ds) => some ds
  | none => match a with
    | .c (.dk kvs) => some (kvs.map (·.1))
    | _ => none
def lenV (a : Vw) : Option Nat := match a with
  | .d (.str x) => if lenOk x.length then some x.length else none
  | a => match a.seq with
    | some (_, ds) => some ds.length
    | none => match a with
      | .c (.dk kvs) => some kvs.length
      | .c (.dx kvs) => if lenOk kvs.length then some kvs.length else none
      | _ => none
def biV (b : Bi) (as : List Vw) : Option Rv := match b, as with
  | .len, [a] => (lenV a).map (fun n => .d (.int n))
  | .abs, [.d (.int i)] => some (.d (.int (if i < 0 then -i else i)))
  | .int, [.d (.int i)] => some (.d (.int i))
  | .int, [.d (.bl i)] => some (.d (.int (if i then 1 else 0)))
  | .min, [.d (.int i), .d (.int j)] => some (.d (.int (if j < i then j else i)))
  | .max, [.d (.int i), .d (.int j)] => some (.d (.int (if j > i then j else i)))
  | .min, [a] => match a.seq with | some (false, ds) => (match intsOf ds with | some (x :: xs) => some (.d (.int (minI x xs))) | _ => none) | _ => none
  | .max, [a] => match a.seq with | some (false, ds) => (match intsOf ds with | some (x :: xs) => some (.d (.int (maxI x xs))) | _ => none) | _ => none
  | .sum, [a] => match a.seq with | some (_, ds) => (intsOf ds).map fun xs => .d (.int xs.sum) | _ => none
  | .all, [a] => match a.seq with | some (false, ds) => (blsOf ds).map fun xs => .d (.bl (xs.all id)) | _ => none
  | .any, [a] => match a.seq with | some (false, ds) => (blsOf ds).map fun xs => .d (.bl (xs.any id)) | _ => none
  | .list, [a] => a.keys.map (fun ds => .f (.lst ds))
  | .tuple, [a] => match a.seq with | some (_, ds) => some (.d (.tup ds)) | none => none
  | .sorted, [a] => match a.seq with | some (false, ds) => (match intsOf ds with | some xs => if decide (xs.length < 64) then some (.f (.lst ((sortI xs).map .int))) else none | none => none) | _ => none
  | _, _ => none
def mtV (t : Mt) (as : List Vw) : Option D := match t, as with
  | .get1, [.c c, .d k] => match c.dic with | some (t, kvs) => if keyOk t k then some ((dget kvs k).getD .non) else none | none => none
  | .get2, [.c c, .d k, .d x] => match c.dic with | some (t, kvs) => if keyOk t k then some ((dget kvs k).getD x) else none | none => none
  | _, _ => none
/-- a look's type -/
def tyOf : Vw → Option String
  | .d .non => some "NoneType"
  | .d (.bl _) => some "bool"
  | .d (.int _) => some "int"
  | .d (.str _) => some "str"
  | .d (.tup _) => some "tuple"
  | .d (.lst _) => some "list"
  | .c (.lst _) => some "list"
  | .c (.dk _) => some "dict"
  | _ => none
def Ty.nm : Ty → Option String
  | .int => some "int"
  | .bool => some "bool"
  | .str => some "str"
  | .tup => some "tuple"
  | .lst => some "list"
  | .ins _ => none
def isiO (t : Ty) (v : Vw) : Option Bool := match t.nm, tyOf v with
  | some n, some k => some (k == n || (k == "bool" && n == "int"))
  | _, _ => none

/-! ### frames -/
def argOf (v : Rv) (m1 : Mem) : R Ar := match v with
  | .d d => .ok (.d d) m1
  | .f (.lst ds) => .ok (.d (.lst ds)) m1
  | .f (.dk kvs) => .ok (.c m1.length) (m1 ++ [.dk kvs])
  | .f (.dx kvs) => .ok (.c m1.length) (m1 ++ [.dx kvs])
  | .f (.obj _) => .bad
def slotAr (env : Fr) (i : Nat) (m : Mem) : R Ar := match env[i]? with
  | some (.val d) => .ok (.d d) m
  | some (.cell n) => .ok (.c n) m
  | _ => .bad
def addFld (env : Fr) (f : Nat) (d : D) : Option Fr := match env[(0 : Nat)]? with
  | some (.own (.obj fs)) => if fs.length = f then some (env.set 0 (.own (.obj (fs ++ [d])))) else none
  | _ => none
def objOf (env : Fr) : Option (List D) := match env[(0 : Nat)]? with
  | some (.own (.obj fs)) => some fs
  | _ => none
def varOf : Ex → Option Nat
  | .var i => some i
  | _ => none
def look (env : Fr) (m : Mem) (i : Nat) : Option Vw := match env[i]? with
  | some (.val d) => some (.d d)
  | some (.own c) => some (.c c)
  | some (.cell n) => some (.r n)
  | _ => none
/-- looked at -/
def bor (o : Option Nat) (env : Fr) (m : Mem) (r : R Rv) : R Vw := match o with
  | some i => opt (look env m i) m
  | none => r.bind fun v m1 => .ok v.vw m1
def isNo : Ex → Bool
  | .no => true
  | _ => false
def isNil : Exs → Bool
  | .nil => true
  | _ => false
/-- a part that may be left out; a condition that may be left out -/
def partE (b : Bool) (m : Mem) (r : R Rv) : R (Option Int) := if b then .ok none m else r.bind fun v m1 => match v with | .d (.int i) => .ok (some i) m1 | _ => .bad
def condE (b : Bool) (m : Mem) (r : R Rv) : R Bool := if b then .ok true m else r.bind fun v m1 => match v with | .d (.bl b) => .ok b m1 | _ => .bad
/-- what is walked: fz: it must not change meanwhile -/
def src (fz : Bool) (o : Option Nat) (env : Fr) (m : Mem) (r : R Rv) : R Vw := if fz then r.bind fun v m1 => (opt v.dat m1).bind fun d m2 => .ok (.d d) m2 else bor o env m r
def asD (r : R Rv) : R D := r.bind fun v m1 => opt v.dat m1
def asF (r : R Rv) : R Ct := r.bind fun v m1 => opt v.frs m1
def asB (r : R Rv) : R Bool := r.bind fun v m1 => match v with | .d (.bl b) => .ok b m1 | _ => .bad
def setAll : Fr → List Nat → List D → Option Fr
  | env, [], [] => some env
  | env, i :: is, d :: ds => setAll (env.set i (.val d)) is ds
  | _, _, _ => none
def setTg (tg : Tg) (d : D) (env : Fr) : Option Fr := match tg with
  | .one i => some (env.set i (.val d))
  | .many is => match d with | .tup ds => setAll env is ds | _ => none
def Tg.is : Tg → List Nat
  | .one i => [i]
  | .many is => is
def wipe : Fr → List Nat → Fr
  | env, [] => env
  | env, v :: vs => (wipe env vs).set v .un
def rangeL (lo : Int) (n : Nat) : List D := (List.range n).map fun (i : Nat) => .int (lo + (i : Int))
def rngV (as : List D) : Option (List D) := match as with
  | [.int j] => if decide (-(2 ^ 62) ≤ j ∧ j < 2 ^ 62) && lenOk j.toNat then some (rangeL 0 j.toNat) else none
  | [.int i, .int j] => if decide (-(2 ^ 62) ≤ i ∧ i < 2 ^ 62 ∧ -(2 ^ 62) ≤ j ∧ j < 2 ^ 62) && lenOk (j - i).toNat then some (rangeL i (j - i).toNat) else none
  | _ => none
def lcLoop (f : D → Mem → R (List D)) : List D → Mem → R (List D)
  | [], m => .ok [] m
  | x :: xs, m => (f x m).bind fun ys m1 => (lcLoop f xs m1).bind fun zs m2 => .ok (ys ++ zs) m2
def dcLoop (f : D → Mem → R (List (D × D))) : List D → List (D × D) → Mem → R (List (D × D))
  | [], acc, m => .ok acc m
  | x :: xs, acc, m => (f x m).bind fun kv m1 => if decide (acc.length < line) then dcLoop f xs (kv.foldl (fun a p => dput a p.1 p.2) acc) m1 else .bad
inductive Out where
  | nx (env : Fr) | ret (v : Rv) | brk (env : Fr) | ct (env : Fr)
def forLoop (f : D → Fr → Mem → R Out) : List D → Fr → Mem → R Out
  | [], env, m => .ok (.nx env) m
  | x :: xs, env, m => (f x env m).bind fun o m1 => match o with
    | .nx e => forLoop f xs e m1
    | .ct e => forLoop f xs e m1
    | .brk e => .ok (.nx e) m1
    | .ret v => .ok (.ret v) m1
def whlLoop (c : Fr → Mem → R Bool) (b : Fr → Mem → R Out) : Nat → Fr → Mem → R Out
  | 0, _, _ => .bad
  | w + 1, env, m => (c env m).bind fun t m1 => if t then (b env m1).bind fun o m2 => (match o with
    | .nx e => whlLoop c b w e m2
    | .ct e => whlLoop c b w e m2
    | .brk e => .ok (.nx e) m2
    | .ret v => .ok (.ret v) m2) else .ok (.nx env) m1

/-- the calls that a body may make: of defs, of __init__s; how often a while may turn -/
structure Cs where
  f : CF
  i : CF
  w : Nat
mutual
def evX (cs : Cs) : Ex → Fr → Mem → R Rv
  | .int i, _, m => .ok (.d (.int i)) m
  | .bl b, _, m => .ok (.d (.bl b)) m
  | .non, _, m => .ok (.d .non) m
  | .str x, _, m => .ok (.d (.str x)) m
  | .con _ d, _, m => .ok (.d d) m
  | .var i, env, m => match env[i]? with | some (.val d) => .ok (.d d) m | _ => .bad
  | .bin o a b, env, m => (bor (varOf a) env m (evX cs a env m)).bind fun x m1 => (bor (varOf b) env m1 (evX cs b env m1)).bind fun y m2 => opt (binV o (x.at m2) (y.at m2)) m2
  | .neg a, env, m => (asD (evX cs a env m)).bind fun x m1 => match x with | .int i => .ok (.d (.int (-i))) m1 | _ => .bad
  | .not a, env, m => (asB (evX cs a env m)).bind fun x m1 => .ok (.d (.bl (!x))) m1
  | .and es, env, m => (evAnd cs es env m).bind fun x m1 => .ok (.d (.bl x)) m1
  | .or es, env, m => (evOr cs es env m).bind fun x m1 => .ok (.d (.bl x)) m1
  | .cmp o a b, env, m => (bor (varOf a) env m (evX cs a env m)).bind fun x m1 => (bor (varOf b) env m1 (evX cs b env m1)).bind fun y m2 => (opt (cmpD o (x.at m2) (y.at m2)) m2).bind fun t m3 => .ok (.d (.bl t)) m3
  | .cmp2 o p a b c, env, m => (asD (evX cs a env m)).bind fun x m1 => (asD (evX cs b env m1)).bind fun y m2 => (opt (cmpD o (.d x) (.d y)) m2).bind fun t m3 =>
      if t then (asD (evX cs c env m3)).bind fun z m4 => (opt (cmpD p (.d y) (.d z)) m4).bind fun u m5 => .ok (.d (.bl u)) m5 else .ok (.d (.bl false)) m3
  | .ite c a b, env, m => (asB (evX cs c env m)).bind fun t m1 => if t then evX cs a env m1 else evX cs b env m1
  | .tup es, env, m => (evXs cs es env m).bind fun ds m1 => .ok (.d (.tup ds)) m1
  | .lst es, env, m => (evXs cs es env m).bind fun ds m1 => .ok (.f (.lst ds)) m1
  | .idx a i, env, m => (bor (varOf a) env m (evX cs a env m)).bind fun x m1 => (asD (evX cs i env m1)).bind fun k m2 => (opt (idxV (x.at m2) k) m2).bind fun d m3 => .ok (.d d) m3
  | .slc a lo hi, env, m => (bor (varOf a) env m (evX cs a env m)).bind fun x m1 => (partE (isNo lo) m1 (evX cs lo env m1)).bind fun l m2 => (partE (isNo hi) m2 (evX cs hi env m2)).bind fun h m3 => opt (slcV (x.at m3) l h) m3
  | .rev a, env, m => (bor (varOf a) env m (evX cs a env m)).bind fun x m1 => match x.seq with
      | some (false, ds) => .ok (.f (.lst ds.reverse)) m1
      | some (true, ds) => .ok (.d (.tup ds.reverse)) m1
      | none => .bad
  | .call f es, env, m => (evAs cs es env m).bind fun as m1 => (cs.f f as m1).bind fun v m2 => .ok v (m2.take m.length)
  | .meth f es, env, m => (evAs cs es env m).bind fun as m1 => (cs.f f as m1).bind fun v m2 => .ok v (m2.take m.length)
  | .mk c f es, env, m => (evAs cs es env m).bind fun as m1 => (cs.i f as m1).bind fun v m2 => match v with
      | .f (.obj fs) => .ok (.d (.ins c fs)) (m2.take m.length)
      | _ => .bad
  | .bi b es, env, m => (evVs cs es env m).bind fun as m1 => opt (biV b (as.map (Vw.at m1))) m1
  | .mt t es, env, m => (evVs cs es env m).bind fun as m1 => (opt (mtV t (as.map (Vw.at m1))) m1).bind fun d m2 => .ok (.d d) m2
  | .attr o c f, env, m => (asD (evX cs o env m)).bind fun x m1 => match x with
      | .ins c' fs => if c = c' then (opt (fs[f]?) m1).bind fun d m2 => .ok (.d d) m2 else .bad
      | _ => .bad
  | .isi t e, env, m => (bor (varOf e) env m (evX cs e env m)).bind fun x m1 => (opt (isiO t (x.at m1)) m1).bind fun b m2 => .ok (.d (.bl b)) m2
  | .lc tg it cd elt, env, m => (evI cs it false env m).bind fun xs m1 => (lcLoop (fun x m2 => (opt (setTg tg x env) m2).bind fun env1 m3 => (condE (isNo cd) m3 (evX cs cd env1 m3)).bind fun t m4 =>
        if t then (asD (evX cs elt env1 m4)).bind fun y m5 => .ok [y] m5 else .ok [] m4) xs m1).bind fun ys m2 => if lenOk ys.length then .ok (.f (.lst ys)) m2 else .bad
  | .lc2 tg it cd tg2 it2 cd2 elt, env, m => (evI cs it false env m).bind fun xs m1 => (lcLoop (fun x m2 => (opt (setTg tg x (wipe env tg2.is)) m2).bind fun env1 m3 => (condE (isNo cd) m3 (evX cs cd env1 m3)).bind fun t m4 =>
        if t then (evI cs it2 true env1 m4).bind fun xs2 m5 => lcLoop (fun x2 m6 => (opt (setTg tg2 x2 env1) m6).bind fun env2 m7 => (condE (isNo cd2) m7 (evX cs cd2 env2 m7)).bind fun t2 m8 =>
          if t2 then (asD (evX cs elt env2 m8)).bind fun y m9 => .ok [y] m9 else .ok [] m8) xs2 m5 else .ok [] m4) xs m1).bind fun ys m2 => if lenOk ys.length then .ok (.f (.lst ys)) m2 else .bad
  | .d0 x, _, m => .ok (.f (mkDic x [])) m
  | .dct _ _ _, _, _ => .bad
  | .dc x tg it cd k v, env, m => (evI cs it false env m).bind fun xs m1 => (dcLoop (fun y m2 => (opt (setTg tg y env) m2).bind fun env1 m3 => (condE (isNo cd) m3 (evX cs cd env1 m3)).bind fun t m4 =>
        if t then (asD (evX cs k env1 m4)).bind fun a m5 => (asD (evX cs v env1 m5)).bind fun b m6 => if keyOk x a then .ok [(a, b)] m6 else .bad else .ok [] m4) xs [] m1).bind fun kvs m2 => .ok (.f (mkDic x kvs)) m2
  | .rngl as, env, m => (evXs cs as env m).bind fun ds m1 => (opt (rngV ds) m1).bind fun xs m2 => .ok (.f (.lst xs)) m2
  | .rngt as, env, m => (evXs cs as env m).bind fun ds m1 => (opt (rngV ds) m1).bind fun xs m2 => .ok (.d (.tup xs)) m2
  | .no, _, _ => .bad
def evXs (cs : Cs) : Exs → Fr → Mem → R (List D)
  | .nil, _, m => .ok [] m
  | .cons e es, env, m => (asD (evX cs e env m)).bind fun d m1 => (evXs cs es env m1).bind fun ds m2 => .ok (d :: ds) m2
def evVs (cs : Cs) : Exs → Fr → Mem → R (List Vw)
  | .nil, _, m => .ok [] m
  | .cons e es, env, m => (bor (varOf e) env m (evX cs e env m)).bind fun d m1 => (evVs cs es env m1).bind fun ds m2 => .ok (d :: ds) m2
def evAs (cs : Cs) : Exs → Fr → Mem → R (List Ar)
  | .nil, _, m => .ok [] m
  | .cons e es, env, m => (match varOf e with
      | some i => slotAr env i m
      | none => (evX cs e env m).bind argOf).bind fun a m1 => (evAs cs es env m1).bind fun as m2 => .ok (a :: as) m2
def evAnd (cs : Cs) : Exs → Fr → Mem → R Bool
  | .nil, _, _ => .bad
  | .cons e es, env, m => (asB (evX cs e env m)).bind fun t m1 => if isNil es then .ok t m1 else if t then evAnd cs es env m1 else .ok false m1
def evOr (cs : Cs) : Exs → Fr → Mem → R Bool
  | .nil, _, _ => .bad
  | .cons e es, env, m => (asB (evX cs e env m)).bind fun t m1 => if isNil es then .ok t m1 else if t then .ok true m1 else evOr cs es env m1
def evI (cs : Cs) : It → Bool → Fr → Mem → R (List D)
  | .rng as, fz, env, m => (evXs cs as env m).bind fun ds m1 => opt (rngV ds) m1
  | .seq a, fz, env, m => (src fz (varOf a) env m (evX cs a env m)).bind fun x m1 => opt (x.seq.map (·.2)) m1
  | .zip a b, fz, env, m => (src fz (varOf a) env m (evX cs a env m)).bind fun x m1 => (src fz (varOf b) env m1 (evX cs b env m1)).bind fun y m2 =>
      match x.seq, y.seq with
      | some (p, xs), some (q, ys) => if p == q then .ok (List.zipWith (fun a b => D.tup [a, b]) xs ys) m2 else .bad
      | _, _ => .bad
  | .enum a, fz, env, m => (src fz (varOf a) env m (evX cs a env m)).bind fun x m1 => match x.seq with
      | some (_, xs) => .ok (xs.zipIdx.map fun p => D.tup [.int p.2, p.1]) m1
      | none => .bad
  | .rvs a, fz, env, m => (src fz (varOf a) env m (evX cs a env m)).bind fun x m1 => opt (x.seq.map (·.2.reverse)) m1
end
/-- a place written: content c at key k becomes v -/
def setC (c : Ct) (k v : D) : Option Ct := match c with
  | .lst ds => match k with | .int i => (ixN ds.length i).map fun j => .lst (ds.set j v) | _ => none
  | .dk kvs => if keyOk false k && decide (kvs.length < line) then some (.dk (dput kvs k v)) else none
  | .dx kvs => if keyOk true k && decide (kvs.length < line) then some (.dx (dput kvs k v)) else none
  | .obj _ => none
/-- the content of a slot; the frame and the memory with another one -/
def putC (env : Fr) (m : Mem) (i : Nat) (c : Ct) : Option (Fr × Mem) := match env[i]? with
  | some (.own _) => some (env.set i (.own c), m)
  | some (.cell n) => some (env, m.set n c)
  | _ => none
def getC (env : Fr) (m : Mem) (i : Nat) : Option Ct := match env[i]? with
  | some (.own c) => some c
  | some (.cell n) => m[n]?
  | _ => none
def isObj : Ct → Bool
  | .obj _ => true
  | _ => false
def frzE (env : Fr) (i : Nat) (m : Mem) : R Out := match env[i]? with
  | some (.own (.lst ds)) => .ok (.nx (env.set i (.val (.lst ds)))) m
  | some (.val _) => .ok (.nx env) m
  | _ => .bad
def popEnv (j : Option Nat) (e : Fr) (x : D) : Fr := match j with | some j => e.set j (.val x) | none => e
def popOk : Option Int → Bool
  | none => true
  | some i => decide (-(2 ^ 63) ≤ i ∧ i < 2 ^ 63)
def augV (o : Bop) (x y : D) : Option D := match x, y with
  | .int i, .int j => match o with
    | .add => some (.int (i + j))
    | .sub => some (.int (i - j))
    | .mul => if mulOk i j then some (.int (i * j)) else none
    | _ => none
  | _, _ => none
mutual
def evS (cs : Cs) : St → Fr → Mem → R Out
  | .asg i e, env, m => (asD (evX cs e env m)).bind fun d m1 => .ok (.nx (env.set i (.val d))) m1
  | .asgO i e, env, m => (asF (evX cs e env m)).bind fun c m1 => .ok (.nx (env.set i (.own c))) m1
  | .asgC i e, env, m => (asF (evX cs e env m)).bind fun c m1 => if isObj c then .bad else .ok (.nx (env.set i (.cell m1.length))) (m1 ++ [c])
  | .asgT is e, env, m => (asD (evX cs e env m)).bind fun d m1 => (opt (setTg (.many is) d env) m1).bind fun env1 m2 => .ok (.nx env1) m2
  | .setI i k v, env, m => (asD (evX cs v env m)).bind fun x m1 => (asD (evX cs k env m1)).bind fun y m2 => (opt ((getC env m2 i).bind fun c => (setC c y x).bind fun c' => putC env m2 i c') m2).bind fun p _ => .ok (.nx p.1) p.2
  | .aug o i e, env, m => match env[i]? with
      | some (.val x) => (asD (evX cs e env m)).bind fun y m1 => (opt (augV o x y) m1).bind fun z m2 => .ok (.nx (env.set i (.val z))) m2
      | _ => .bad
  | .augI o i k e, env, m => (asD (evX cs k env m)).bind fun y m1 => (opt ((getC env m1 i).bind fun c => idxV (.c c) y) m1).bind fun old m2 => (asD (evX cs e env m2)).bind fun x m3 =>
      (opt ((binV o (.d old) (.d x)).bind Rv.dat) m3).bind fun z m4 => (opt ((getC env m4 i).bind fun c => (setC c y z).bind fun c' => putC env m4 i c') m4).bind fun p _ => .ok (.nx p.1) p.2
  | .ex e, env, m => (evX cs e env m).bind fun _ m1 => .ok (.nx env) m1
  | .app i e, env, m => match getC env m i with
      | some (.lst _) => (asD (evX cs e env m)).bind fun x m1 => (opt ((getC env m1 i).bind fun c => match c with | .lst ds => if decide (ds.length < line) then putC env m1 i (.lst (ds ++ [x])) else none | _ => none) m1).bind fun p _ => .ok (.nx p.1) p.2
      | _ => .bad
  | .ext i e, env, m => match getC env m i with
      | some (.lst _) => (asF (evX cs e env m)).bind fun x m1 => (opt ((getC env m1 i).bind fun c => match c, x with | .lst ds, .lst es => if lenOk (ds.length + es.length) then putC env m1 i (.lst (ds ++ es)) else none | _, _ => none) m1).bind fun p _ => .ok (.nx p.1) p.2
      | _ => .bad
  | .pop j i k, env, m => match getC env m i with
      | some (.lst _) => (partE (isNo k) m (evX cs k env m)).bind fun k m1 => (opt ((getC env m1 i).bind fun c => match c with
          | .lst ds => if popOk k then (ixN ds.length (k.getD (-1))).bind fun q => ds[q]?.bind fun x => (putC env m1 i (.lst (ds.eraseIdx q))).map (fun p => (x, p)) else none
          | _ => none) m1).bind fun r _ => .ok (.nx (popEnv j r.2.1 r.1)) r.2.2
      | _ => .bad
  | .ite c a b, env, m => (asB (evX cs c env m)).bind fun t m1 => if t then evSs cs a env m1 else evSs cs b env m1
  | .whl c b, env, m => whlLoop (fun e m => asB (evX cs c e m)) (fun e m => evSs cs b e m) cs.w env m
  | .for tg it b, env, m => (evI cs it true env m).bind fun xs m1 => forLoop (fun x e m2 => (opt (setTg tg x e) m2).bind fun e1 m3 => evSs cs b e1 m3) xs env m1
  | .ret e, env, m => (asD (evX cs e env m)).bind fun d m1 => .ok (.ret (.d d)) m1
  | .retO e, env, m => (asF (evX cs e env m)).bind fun c m1 => .ok (.ret (.f c)) m1
  | .retN, _, m => .ok (.ret (.d .non)) m
  | .brk, env, m => .ok (.brk env) m
  | .cont, env, m => .ok (.ct env) m
  | .pass, env, m => .ok (.nx env) m
  | .frz i, env, m => frzE env i m
  | .fgt i, env, m => .ok (.nx (env.set i .un)) m
  | .fld f e, env, m => (asD (evX cs e env m)).bind fun d m1 => (opt (addFld env f d) m1).bind fun e1 m2 => .ok (.nx e1) m2
  | .raise c e, env, m => (asD (evX cs e env m)).bind fun d m1 => .exc ⟨c, d⟩ m1
def evSs (cs : Cs) : Sts → Fr → Mem → R Out
  | .nil, env, m => .ok (.nx env) m
  | .cons s ss, env, m => (evS cs s env m).bind fun o m1 => match o with
    | .nx e => evSs cs ss e m1
    | o => .ok o m1
end
def slotOf : Ar → Sl
  | .d d => .val d
  | .c n => .cell n
/-- a def's frame -/
def entry (fn : Fn) (as : List Ar) : Fr := (if fn.ini then [Sl.own (.obj [])] else []) ++ as.map slotOf ++ List.replicate (fn.ns - fn.np) .un
def runF (cs : Cs) (fn : Fn) (as : List Ar) (m : Mem) : R Rv :=
  if as.length + (if fn.ini then 1 else 0) = fn.np then (evSs cs fn.body (entry fn as) m).bind fun o m1 => match fn.ini, o with
    | false, .nx _ => .ok (.d .non) (m1.take m.length)
    | false, .ret v => .ok v (m1.take m.length)
    | true, .nx e => (opt (objOf e) m1).bind fun fs m2 => .ok (.f (.obj fs)) (m2.take m.length)
    | _, _ => .bad
  else .bad
/-- calls k deep at most -/
def callN (fns : List Fn) (w : Nat) : Nat → CF
  | 0 => fun _ _ _ => .bad
  | k + 1 => fun f as m => match fns[f]? with
    | some fn => runF ⟨callN fns w k, callN fns w (k - 1), w⟩ fn as m
    | none => .bad
end Ev

set_option linter.all false
set_option maxRecDepth 100000
/-! Ev1: what data looks like in the abstract heap; what stays. -/
namespace Ev
open PySem PySem.Spec PyProof.Rows
open L2 (RelV Hp HO V Cx Inv SqL SqT Same upd upd_same upd_ne TE VK PE PT PA PS PSs Key kV EP SP TP Rd)

/-- what is fixed through a law -/
structure Cf where
  w : World
  K : PySem.W.Frag
  cls : Nat → Addr
  flds : Nat → List Str

section
variable (C : Cf)
mutual
/-- the value v is the data d, in the frozen heap F -/
def Rep (F : Hp) : D → V → Prop
  | .non, v => v = .non
  | .bl b, v => v = .bl b
  | .int i, v => v = .int i
  | .str x, v => v = .str x
  | .tup ds, v => ∃ a vs, v = .ref a ∧ SqT C.K F a vs ∧ Reps F ds vs
  | .lst ds, v => ∃ a vs, v = .ref a ∧ SqL C.K F a vs ∧ Reps F ds vs
  | .ins c fs, v => ∃ a dx vs, v = .ref a ∧ F a = some (.ins (C.cls c) dx ((C.flds c).zip vs)) ∧ (C.flds c).length = fs.length ∧ (C.flds c).Nodup ∧ Reps F fs vs
def Reps (F : Hp) : List D → List V → Prop
  | [], vs => vs = []
  | d :: ds, vs => ∃ v r, vs = v :: r ∧ Rep F d v ∧ Reps F ds r
end
end

section
variable {C : Cf} {F F' H H' : Hp} {ρ ρ' : List Addr} {m m' : Mem}
theorem Same.tup {K : PySem.W.Frag} {a : Addr} {xs : List V} (e : Same H H') (h : SqT K H a xs) : SqT K H' a xs := by
  rcases h with (h | ⟨o, h⟩) | h
  · exact .inl (.inl (e _ _ h))
  · exact .inl (.inr ⟨o, e _ _ h⟩)
  · exact .inr h
mutual
theorem Rep.mono (e : Same F F') : ∀ {d : D} {v : V}, Rep C F d v → Rep C F' d v
  | .non, _, h => by unfold Rep at h ⊢; exact h
  | .bl _, _, h => by unfold Rep at h ⊢; exact h
  | .int _, _, h => by unfold Rep at h ⊢; exact h
  | .str _, _, h => by unfold Rep at h ⊢; exact h
  | .tup ds, _, h => by
    unfold Rep at h ⊢
    obtain ⟨a, vs, e1, h1, h2⟩ := h
    exact ⟨a, vs, e1, Same.tup e h1, Reps.mono e h2⟩
  | .lst ds, _, h => by
    unfold Rep at h ⊢
    obtain ⟨a, vs, e1, h1, h2⟩ := h
    exact ⟨a, vs, e1, e.seq h1, Reps.mono e h2⟩
  | .ins c fs, _, h => by
    unfold Rep at h ⊢
    obtain ⟨a, dx, vs, e1, h1, h2, h4, h3⟩ := h
    exact ⟨a, dx, vs, e1, e _ _ h1, h2, h4, Reps.mono e h3⟩
theorem Reps.mono (e : Same F F') : ∀ {ds : List D} {vs : List V}, Reps C F ds vs → Reps C F' ds vs
  | [], _, h => by unfold Reps at h ⊢; exact h
  | d :: ds, _, h => by
    unfold Reps at h ⊢
    obtain ⟨v, r, e1, h1, h2⟩ := h
    exact ⟨v, r, e1, Rep.mono e h1, Reps.mono e h2⟩
end
theorem Reps.length : ∀ {ds : List D} {vs : List V}, Reps C F ds vs → ds.length = vs.length
  | [], _, h => by unfold Reps at h; subst h; rfl
  | d :: ds, _, h => by
    unfold Reps at h
    obtain ⟨v, r, rfl, _, h2⟩ := h
    simp [Reps.length h2]
theorem Reps.get : ∀ {ds : List D} {vs : List V} {i : Nat} {d : D}, Reps C F ds vs → ds[i]? = some d → ∃ v, vs[i]? = some v ∧ Rep C F d v
  | [], _, i, d, h, e => by simp at e
  | d' :: ds, _, i, d, h, e => by
    unfold Reps at h
    obtain ⟨v, r, rfl, h1, h2⟩ := h
    cases i with
    | zero => simp at e; subst e; exact ⟨v, rfl, h1⟩
    | succ i =>
      obtain ⟨u, e1, r1⟩ := Reps.get h2 (i := i) (d := d) (by simpa using e)
      exact ⟨u, by simpa using e1, r1⟩
theorem Reps.append : ∀ {ds es : List D} {vs us : List V}, Reps C F ds vs → Reps C F es us → Reps C F (ds ++ es) (vs ++ us)
  | [], es, vs, us, h, h' => by unfold Reps at h; subst h; simpa using h'
  | d :: ds, es, vs, us, h, h' => by
    unfold Reps at h
    obtain ⟨v, r, rfl, h1, h2⟩ := h
    show Reps C F (d :: (ds ++ es)) (v :: (r ++ us))
    unfold Reps
    exact ⟨v, r ++ us, rfl, h1, Reps.append h2 h'⟩
theorem Reps.one {d : D} {v : V} (h : Rep C F d v) : Reps C F [d] [v] := by
  unfold Reps
  exact ⟨v, [], rfl, h, by unfold Reps; rfl⟩
theorem Reps.nil : Reps C F [] [] := by unfold Reps; rfl
theorem Reps.cons {d : D} {v : V} {ds : List D} {vs : List V} (h : Rep C F d v) (h' : Reps C F ds vs) : Reps C F (d :: ds) (v :: vs) := by
  unfold Reps
  exact ⟨v, vs, rfl, h, h'⟩
theorem Reps.take : ∀ {ds : List D} {vs : List V} (n : Nat), Reps C F ds vs → Reps C F (ds.take n) (vs.take n)
  | _, _, 0, _ => by simpa using Reps.nil
  | [], _, n + 1, h => by unfold Reps at h; subst h; simpa using Reps.nil
  | d :: ds, _, n + 1, h => by
    unfold Reps at h
    obtain ⟨v, r, rfl, h1, h2⟩ := h
    exact Reps.cons h1 (Reps.take n h2)
theorem Reps.drop : ∀ {ds : List D} {vs : List V} (n : Nat), Reps C F ds vs → Reps C F (ds.drop n) (vs.drop n)
  | _, _, 0, h => by simpa using h
  | [], _, n + 1, h => by unfold Reps at h; subst h; simpa using Reps.nil
  | d :: ds, _, n + 1, h => by
    unfold Reps at h
    obtain ⟨v, r, rfl, h1, h2⟩ := h
    exact Reps.drop n h2
theorem Reps.set {d : D} {v : V} (h' : Rep C F d v) : ∀ {ds : List D} {vs : List V} (n : Nat), Reps C F ds vs → Reps C F (ds.set n d) (vs.set n v)
  | [], _, n, h => by unfold Reps at h; subst h; simpa using Reps.nil
  | d :: ds, _, 0, h => by
    unfold Reps at h
    obtain ⟨v, r, rfl, h1, h2⟩ := h
    exact Reps.cons h' h2
  | d :: ds, _, n + 1, h => by
    unfold Reps at h
    obtain ⟨v, r, rfl, h1, h2⟩ := h
    exact Reps.cons h1 (Reps.set h' n h2)
theorem Reps.erase : ∀ {ds : List D} {vs : List V} (n : Nat), Reps C F ds vs → Reps C F (ds.eraseIdx n) (vs.eraseIdx n)
  | [], _, n, h => by unfold Reps at h; subst h; simpa using Reps.nil
  | d :: ds, _, 0, h => by
    unfold Reps at h
    obtain ⟨v, r, rfl, h1, h2⟩ := h
    exact h2
  | d :: ds, _, n + 1, h => by
    unfold Reps at h
    obtain ⟨v, r, rfl, h1, h2⟩ := h
    exact Reps.cons h1 (Reps.erase n h2)
theorem Reps.reverse : ∀ {ds : List D} {vs : List V}, Reps C F ds vs → Reps C F ds.reverse vs.reverse
  | [], _, h => by unfold Reps at h; subst h; simpa using Reps.nil
  | d :: ds, _, h => by
    unfold Reps at h
    obtain ⟨v, r, rfl, h1, h2⟩ := h
    rw [List.reverse_cons, List.reverse_cons]
    exact Reps.append (Reps.reverse h2) (Reps.one h1)
theorem Reps.flatRep {ds : List D} {vs : List V} (h : Reps C F ds vs) : ∀ k : Nat, Reps C F (List.replicate k ds).flatten (List.replicate k vs).flatten
  | 0 => by simpa using Reps.nil
  | k + 1 => by
    rw [List.replicate_succ, List.replicate_succ, List.flatten_cons, List.flatten_cons]
    exact Reps.append h (Reps.flatRep h k)
theorem Reps.ints : ∀ {ns : List Int}, Reps C F (ns.map .int) (ns.map .int)
  | [] => Reps.nil
  | n :: ns => Reps.cons (by unfold Rep; rfl) Reps.ints
theorem Reps.intsOf : ∀ {ds : List D} {vs : List V} {ns : List Int}, Reps C F ds vs → intsOf ds = some ns → vs = ns.map .int ∧ ds = ns.map .int
  | [], _, ns, h, e => by unfold Reps at h; subst h; cases e; exact ⟨rfl, rfl⟩
  | d :: ds, _, ns, h, e => by
    unfold Reps at h
    obtain ⟨v, r, rfl, h1, h2⟩ := h
    cases d with
    | int i =>
      unfold Ev.intsOf at e
      obtain ⟨is, e1, rfl⟩ := Option.map_eq_some_iff.mp e
      obtain ⟨e2, e3⟩ := Reps.intsOf h2 e1
      unfold Rep at h1
      subst h1 e2 e3
      exact ⟨rfl, rfl⟩
    | _ => cases e
theorem Reps.blsOf : ∀ {ds : List D} {vs : List V} {ns : List Bool}, Reps C F ds vs → blsOf ds = some ns → vs = ns.map .bl
  | [], _, ns, h, e => by unfold Reps at h; subst h; cases e; rfl
  | d :: ds, _, ns, h, e => by
    unfold Reps at h
    obtain ⟨v, r, rfl, h1, h2⟩ := h
    cases d with
    | bl i =>
      unfold Ev.blsOf at e
      obtain ⟨is, e1, rfl⟩ := Option.map_eq_some_iff.mp e
      have e2 := Reps.blsOf h2 e1
      unfold Rep at h1
      subst h1 e2
      rfl
    | _ => cases e

/-- a plain key -/
def keyD : Key → D
  | .inl i => .int i
  | .inr x => .str x
mutual
/-- a key that is a tuple -/
def toN : D → NestedKey
  | .non => .none
  | .bl b => .num (if b = true then 1 else 0)
  | .int i => .num i
  | .str x => .text x
  | .tup ds => .tup (toNs ds)
  | .lst _ => .none
  | .ins _ _ => .none
def toNs : List D → List NestedKey
  | [] => []
  | d :: ds => toN d :: toNs ds
end
/-- a dict whose keys are tuples, by what stands at its address: keys with their tuples' addresses, values -/
def dxO (w : World) (a : Addr) (es : List (NestedKey × Addr × V)) : HO := .ext fun h => (a == sysModules) = false ∧
  ∃ zs : List (NestedKey × Addr × Value), Paired (fun (p : NestedKey × Addr × V) (q : NestedKey × Addr × Value) => p.1 = q.1 ∧ p.2.1 = q.2.1 ∧ RelV p.2.2 q.2.2) es zs ∧
    ∃ o des ep, h.get? a = some o ∧ o.ExactDict ∧ o.data = .dict des ep ∧ des.toList = zs.map (fun x => (⟨x.1.hash w, .ref x.2.1, x.2.2⟩ : DictEntry)) ∧ (zs.map (·.1)).Nodup
end

section
variable (C : Cf)
/-- what may change, at the address a of the heap H -/
def CtAt (F H : Hp) : Ct → Addr → Prop
  | .lst ds, a => ∃ vs, H a = some (.lst vs) ∧ Reps C F ds vs
  | .dk kvs, a => ∃ ps : List (Key × V), H a = some (.dK ps) ∧ Paired (fun (p : D × D) (q : Key × V) => p.1 = keyD q.1 ∧ Rep C F p.2 q.2) kvs ps
  | .dx kvs, a => ∃ es : List (NestedKey × Addr × V), H a = some (dxO C.w a es) ∧ Paired (fun (p : D × D) (q : NestedKey × Addr × V) => keyOk true p.1 = true ∧ q.1 = toN p.1 ∧ Rep C F p.1 (.ref q.2.1) ∧ Rep C F p.2 q.2.2) kvs es
  | .obj fs, a => False
/-- the cells of the memory, and the frozen part -/
structure Wo (m : Mem) (F : Hp) (ρ : List Addr) (H : Hp) : Prop where
  same : Same F H
  len : ρ.length = m.length
  nd : ρ.Nodup
  nf : ∀ a ∈ ρ, F a = none
  at_ : ∀ (n : Nat) (c : Ct), m[n]? = some c → ∃ a : Addr, ρ[n]? = some a ∧ CtAt C F H c a
/-- what a step keeps -/
structure Ext (F : Hp) (ρ : List Addr) (H F' : Hp) (ρ' : List Addr) (H' : Hp) : Prop where
  sF : Same F F'
  sR : ρ <+: ρ'
  kp : ∀ a o, H a = some o → a ∉ ρ → H' a = some o
  nF : ∀ a, F' a ≠ none → F a ≠ none ∨ H a = none
  nR : ∀ a, a ∈ ρ' → a ∈ ρ ∨ H a = none
  th : ∀ a, H a ≠ none → H' a ≠ none
end
section
variable {C : Cf} {F F' F1 F2 H H' H1 H2 : Hp} {ρ ρ' ρ1 ρ2 : List Addr} {m m' : Mem}
theorem Ext.refl : Ext F ρ H F ρ H := ⟨Same.refl _, List.prefix_refl _, fun _ _ h _ => h, fun _ h => .inl h, fun _ h => .inl h, fun _ h => h⟩
theorem Ext.trans (x : Ext F ρ H F1 ρ1 H1) (y : Ext F1 ρ1 H1 F2 ρ2 H2) : Ext F ρ H F2 ρ2 H2 where
  sF := x.sF.trans y.sF
  sR := x.sR.trans y.sR
  kp := fun a o h n => y.kp a o (x.kp a o h n) fun z => (x.nR a z).elim n fun q => by rw [q] at h; cases h
  nF := fun a h => by
    rcases y.nF a h with h | h
    · exact x.nF a h
    · refine .inr ?_
      cases q : H a with
      | none => rfl
      | some o => exact absurd h (x.th a (by rw [q]; simp))
  nR := fun a h => by
    rcases y.nR a h with h | h
    · exact x.nR a h
    · refine .inr ?_
      cases q : H a with
      | none => rfl
      | some o => exact absurd h (x.th a (by rw [q]; simp))
  th := fun a h => y.th a (x.th a h)
theorem CtAt.mono {c : Ct} {a : Addr} (h : CtAt C F H c a) (e : Same F F') (k : ∀ o, H a = some o → H' a = some o) : CtAt C F' H' c a := by
  cases c with
  | lst ds => obtain ⟨vs, h1, h2⟩ := h; exact ⟨vs, k _ h1, h2.mono e⟩
  | dk kvs => obtain ⟨ps, h1, h2⟩ := h; exact ⟨ps, k _ h1, L2.Paired.mapP h2 fun p q z => ⟨z.1, z.2.mono e⟩⟩
  | dx kvs => obtain ⟨es, h1, h2⟩ := h; exact ⟨es, k _ h1, L2.Paired.mapP h2 fun p q z => ⟨z.1, z.2.1, z.2.2.1.mono e, z.2.2.2.mono e⟩⟩
  | obj fs => exact h
theorem CtAt.some {c : Ct} {a : Addr} (h : CtAt C F H c a) : H a ≠ none := by
  cases c with
  | lst ds => obtain ⟨vs, h1, h2⟩ := h; rw [h1]; simp
  | dk kvs => obtain ⟨ps, h1, h2⟩ := h; rw [h1]; simp
  | dx kvs => obtain ⟨es, h1, h2⟩ := h; rw [h1]; simp
  | obj fs => exact h.elim
/-- a new object, nothing else -/
theorem Ext.new {a : Addr} {o : HO} (h : H a = none) : Ext F ρ H F ρ (upd H a o) where
  sF := Same.refl _
  sR := List.prefix_refl _
  kp := fun b u e _ => by rw [upd_ne (L2.ne_of_none e h)]; exact e
  nF := fun _ h => .inl h
  nR := fun _ h => .inl h
  th := fun b e => by
    by_cases q : b = a
    · subst q; rw [upd_same]; simp
    · rw [upd_ne q]; exact e
theorem Wo.new {a : Addr} {o : HO} (w : Wo C m F ρ H) (h : H a = none) : Wo C m F ρ (upd H a o) where
  same := fun b u e => by rw [upd_ne (L2.ne_of_none (w.same _ _ e) h)]; exact w.same _ _ e
  len := w.len
  nd := w.nd
  nf := w.nf
  at_ := fun n c e => by
    obtain ⟨b, e1, h1⟩ := w.at_ n c e
    refine ⟨b, e1, h1.mono (Same.refl _) fun u q => ?_⟩
    rw [upd_ne (L2.ne_of_none q h)]; exact q
theorem Wo.free {a : Addr} (w : Wo C m F ρ H) (h : H a = none) : F a = none := w.same.free h
theorem Wo.notin {a : Addr} (w : Wo C m F ρ H) (h : H a = none) : a ∉ ρ := fun z => by
  obtain ⟨n, hn, e⟩ := List.getElem_of_mem z
  have hm : n < m.length := by rw [← w.len]; exact hn
  obtain ⟨b, e1, h1⟩ := w.at_ n m[n] (List.getElem?_eq_getElem hm)
  rw [List.getElem?_eq_getElem hn] at e1
  cases e1
  exact h1.some (by rw [e]; exact h)
/-- freezing what is no cell -/
theorem Ext.frz {a : Addr} {o : HO} (hF : F a = none) (h0 : H a = none) (h' : H' a = some o) (x : Ext F ρ H F' ρ' H') (hF' : F' a = none) : Ext F ρ H (upd F' a o) ρ' H' where
  sF := x.sF.trans fun b u e => by rw [upd_ne (L2.ne_of_none e hF')]; exact e
  sR := x.sR
  kp := x.kp
  nF := fun b h => by
    by_cases q : b = a
    · subst q; exact .inr h0
    · rw [upd_ne q] at h; exact x.nF b h
  nR := x.nR
  th := x.th
theorem Wo.frz {a : Addr} {o : HO} (w : Wo C m F ρ H) (h : H a = some o) (hF : F a = none) (hR : a ∉ ρ) : Wo C m (upd F a o) ρ H where
  same := fun b u e => by
    by_cases q : b = a
    · subst q; rw [upd_same] at e; cases e; exact h
    · rw [upd_ne q] at e; exact w.same b u e
  len := w.len
  nd := w.nd
  nf := fun b hb => by
    have q : b ≠ a := fun e => hR (e ▸ hb)
    rw [upd_ne q]; exact w.nf b hb
  at_ := fun n c e => by
    obtain ⟨b, e1, h1⟩ := w.at_ n c e
    exact ⟨b, e1, h1.mono (fun c u e => by rw [upd_ne (L2.ne_of_none e hF)]; exact e) fun _ q => q⟩
theorem same_upd {a : Addr} {o : HO} (hF : F a = none) : Same F (upd F a o) := fun c u e => by rw [upd_ne (L2.ne_of_none e hF)]; exact e
end
end Ev

set_option linter.all false
set_option maxRecDepth 100000
/-! Ev2: frames, contexts, what it means that a piece of syntax does what the evaluator says. -/
namespace Ev
open PySem PySem.Spec PyProof.Rows
open L2 (Hp HO V Cx Inv SqL SqT Same upd upd_same upd_ne TE VK PE PT PA PS PSs PG Key kV EP SP TP Rd RelV Vis Loc Gl OpR)
open L2 (tOp tUn pe_op pe_un thn)

/-- the evaluator's frame and the machine's -/
structure FrOk (C : Cf) (env : Fr) (σ : L2.St) (F H : Hp) (ρ : List Addr) (H0 : Hp) : Prop where
  len : env.length = σ.length
  val : ∀ (i : Nat) (d : D), env[i]? = some (.val d) → ∃ v, σ[i]? = some (some v) ∧ Rep C F d v
  cel : ∀ (i n : Nat), env[i]? = some (.cell n) → ∃ a : Addr, σ[i]? = some (some (.ref a)) ∧ ρ[n]? = some a
  own : ∀ (i : Nat) (c : Ct), env[i]? = some (.own c) → ∃ a : Addr, σ[i]? = some (some (.ref a)) ∧ CtAt C F H c a ∧ F a = none ∧ a ∉ ρ ∧ H0 a = none
  dis : ∀ (i j : Nat) (c c' : Ct) (a : Addr), env[i]? = some (.own c) → env[j]? = some (.own c') → σ[i]? = some (some (.ref a)) → σ[j]? = some (some (.ref a)) → i = j
section
variable {C : Cf} {F F' F1 F2 H H' H1 H2 H0 : Hp} {ρ ρ' ρ1 ρ2 : List Addr} {m m' : Mem} {env : Fr} {σ : L2.St}
theorem pre_get {α : Type} {l l' : List α} {n : Nat} {a : α} (p : l <+: l') (h : l[n]? = some a) : l'[n]? = some a := by
  obtain ⟨t, rfl⟩ := p
  have hn : n < l.length := (List.getElem?_eq_some_iff.mp h).1
  rw [List.getElem?_append_left hn]; exact h
/-- an expression's step leaves the frame as it is -/
theorem FrOk.step (f : FrOk C env σ F H ρ H0) (x : Ext F ρ H F' ρ' H') : FrOk C env σ F' H' ρ' H0 where
  len := f.len
  val := fun i d e => let ⟨v, h1, h2⟩ := f.val i d e; ⟨v, h1, h2.mono x.sF⟩
  cel := fun i n e => let ⟨a, h1, h2⟩ := f.cel i n e; ⟨a, h1, pre_get x.sR h2⟩
  own := fun i c e => by
    obtain ⟨a, h1, h2, h3, h4, h5⟩ := f.own i c e
    refine ⟨a, h1, h2.mono x.sF fun o q => x.kp a o q h4, ?_, fun z => ?_, h5⟩
    · cases q : F' a with
      | none => rfl
      | some o =>
        rcases x.nF a (by rw [q]; simp) with z | z
        · exact absurd h3 z
        · exact absurd z h2.some
    · rcases x.nR a z with q | q
      · exact h4 q
      · exact h2.some q
  dis := f.dis

/-- what a raw answer is, behind a step from H -/
def RvOk (C : Cf) (H F' H' : Hp) (ρ' : List Addr) : Rv → V → Prop
  | .d d, v => Rep C F' d v
  | .f c, v => ∃ a, v = .ref a ∧ CtAt C F' H' c a ∧ F' a = none ∧ a ∉ ρ' ∧ H a = none
/-- what a look is -/
def VwOk (C : Cf) (F H : Hp) (ρ : List Addr) : Vw → V → Prop
  | .d d, v => Rep C F d v
  | .c c, v => ∃ a, v = .ref a ∧ CtAt C F H c a ∧ a ∉ ρ ∧ F a = none
  | .r n, v => ∃ a : Addr, v = .ref a ∧ ρ[n]? = some a
/-- .. now: at an operation -/
def VaOk (C : Cf) (F H : Hp) : Vw → V → Prop
  | .d d, v => Rep C F d v
  | .c c, v => ∃ a, v = .ref a ∧ CtAt C F H c a
  | .r _, _ => True
theorem VwOk.step {x : Vw} {v : V} (h : VwOk C F H ρ x v) (e : Ext F ρ H F' ρ' H') : VwOk C F' H' ρ' x v := by
  cases x with
  | d d => exact Rep.mono e.sF h
  | c c =>
    obtain ⟨a, e1, h1, h2, h3⟩ := h
    refine ⟨a, e1, h1.mono e.sF fun o q => e.kp a o q h2, fun z => (e.nR a z).elim h2 h1.some, ?_⟩
    cases q : F' a with
    | none => rfl
    | some o => exact ((e.nF a (by rw [q]; simp)).elim (fun z => (z h3).elim) fun z => (h1.some z).elim)
  | r n =>
    obtain ⟨a, e1, h1⟩ := h
    exact ⟨a, e1, pre_get e.sR h1⟩
theorem VwOk.now {x : Vw} {v : V} (h : VwOk C F H ρ x v) (w : Wo C m F ρ H) : VaOk C F H (x.at m) v := by
  cases x with
  | d d => exact h
  | c c => obtain ⟨a, e1, h1, _⟩ := h; exact ⟨a, e1, h1⟩
  | r n =>
    obtain ⟨a, e1, h1⟩ := h
    cases q : m[n]? with
    | none =>
      have e2 : Vw.at m (.r n) = .r n := by simp only [Vw.at, q]
      rw [e2]
      trivial
    | some c =>
      have e3 : Vw.at m (.r n) = .c c := by simp only [Vw.at, q]
      rw [e3]
      obtain ⟨b, e2, h2⟩ := w.at_ n c q
      rw [h1] at e2; cases e2
      exact ⟨a, e1, h2⟩

/-- whatever is wanted of an expression -/
def wpT (X : Cx) (e : Expr) : TE := fun σ H Q => ∀ pins s, Inv X pins σ H s → wpAny (model X.prog X.w) X.A (eval e X.env) (EP X pins σ Q) X.xe s
theorem pT {X : Cx} {e : Expr} : PE X e (wpT X e) := ⟨fun pins s σ H Q I h => h pins s I⟩
theorem use {X : Cx} {e : Expr} {t : TE} (h : PE X e t) {σ : L2.St} {H : Hp} {Q : VK} (q : t σ H Q) : wpT X e σ H Q := fun pins s I => h.run pins s σ H Q I q
theorem wpT.imp {X : Cx} {e : Expr} {σ : L2.St} {H : Hp} {Q Q' : VK} (h : wpT X e σ H Q) (i : ∀ v H', Q v H' → Q' v H') : wpT X e σ H Q' := fun pins s I =>
  thn (h pins s I) fun u s' ⟨v, H', I', r, q⟩ => ⟨v, H', I', r, i v H' q⟩
def wpB (X : Cx) (e : Expr) : L2.TT := fun σ H Q => ∀ pins s, Inv X pins σ H s → wpAny (model X.prog X.w) X.A (isTrue e X.env (eval e X.env)) (TP X pins σ Q) X.xe s
theorem pB {X : Cx} {e : Expr} : PT X e (wpB X e) := ⟨fun pins s σ H Q I h => h pins s I⟩
theorem useB {X : Cx} {e : Expr} {t : L2.TT} (h : PT X e t) {σ : L2.St} {H : Hp} {Q : Bool → Hp → Prop} (q : t σ H Q) : wpB X e σ H Q := fun pins s I => h.run pins s σ H Q I q

/-- the expression e does what φ says -/
def SX (C : Cf) (X : Cx) (e : Expr) (φ : Fr → Mem → R Rv) : Prop :=
  ∀ (env : Fr) (m : Mem) (r : Rv) (m' : Mem), φ env m = .ok r m' → ∀ (σ : L2.St) (F : Hp) (ρ : List Addr) (H H0 : Hp), FrOk C env σ F H ρ H0 → Wo C m F ρ H →
    ∀ Q : VK, (∀ v F' ρ' H', Ext F ρ H F' ρ' H' → Wo C m' F' ρ' H' → RvOk C H F' H' ρ' r v → Q v H') → wpT X e σ H Q
/-- .. a datum -/
def SD (C : Cf) (X : Cx) (e : Expr) (φ : Fr → Mem → R D) : Prop :=
  ∀ (env : Fr) (m : Mem) (r : D) (m' : Mem), φ env m = .ok r m' → ∀ (σ : L2.St) (F : Hp) (ρ : List Addr) (H H0 : Hp), FrOk C env σ F H ρ H0 → Wo C m F ρ H →
    ∀ Q : VK, (∀ v F' ρ' H', Ext F ρ H F' ρ' H' → Wo C m' F' ρ' H' → Rep C F' r v → Q v H') → wpT X e σ H Q
/-- .. a look -/
def SV (C : Cf) (X : Cx) (e : Expr) (φ : Fr → Mem → R Vw) : Prop :=
  ∀ (env : Fr) (m : Mem) (r : Vw) (m' : Mem), φ env m = .ok r m' → ∀ (σ : L2.St) (F : Hp) (ρ : List Addr) (H H0 : Hp), FrOk C env σ F H ρ H0 → Wo C m F ρ H →
    ∀ Q : VK, (∀ v F' ρ' H', Ext F ρ H F' ρ' H' → Wo C m' F' ρ' H' → VwOk C F' H' ρ' r v → Q v H') → wpT X e σ H Q
/-- .. a test -/
def SB (C : Cf) (X : Cx) (e : Expr) (φ : Fr → Mem → R Bool) : Prop :=
  ∀ (env : Fr) (m : Mem) (r : Bool) (m' : Mem), φ env m = .ok r m' → ∀ (σ : L2.St) (F : Hp) (ρ : List Addr) (H H0 : Hp), FrOk C env σ F H ρ H0 → Wo C m F ρ H →
    ∀ Q : Bool → Hp → Prop, (∀ F' ρ' H', Ext F ρ H F' ρ' H' → Wo C m' F' ρ' H' → Q r H') → wpB X e σ H Q

/-- a fresh list becomes a datum -/
theorem RvOk.dat {r : Rv} {d : D} {v : V} (e : r.dat = some d) (x : Ext F ρ H F' ρ' H') (w : Wo C m' F' ρ' H') (h : RvOk C H F' H' ρ' r v) :
    ∃ F2, Ext F ρ H F2 ρ' H' ∧ Wo C m' F2 ρ' H' ∧ Rep C F2 d v := by
  cases r with
  | d d' => cases e; exact ⟨F', x, w, h⟩
  | f c =>
    cases c with
    | lst ds =>
      cases e
      obtain ⟨a, rfl, ⟨vs, h1, h2⟩, h3, h4, h5⟩ := h
      have hFa : F a = none := by
        cases q : F a with
        | none => rfl
        | some o => rw [x.sF a o q] at h3; cases h3
      refine ⟨upd F' a (.lst vs), Ext.frz hFa h5 h1 x h3, w.frz h1 h3 h4, ?_⟩
      unfold Rep
      exact ⟨a, vs, rfl, SqL.of upd_same, h2.mono (same_upd h3)⟩
    | _ => cases e
theorem SX.dat {X : Cx} {e : Expr} {φ : Fr → Mem → R Rv} (h : SX C X e φ) : SD C X e (fun env m => asD (φ env m)) := by
  intro env m d m' hφ σ F ρ H H0 f w Q hQ
  obtain ⟨r, m1, e1, e2⟩ := R.bind_eq_ok hφ
  obtain ⟨e3, rfl⟩ := opt_eq_ok e2
  refine h env m r m' e1 σ F ρ H H0 f w Q fun v F' ρ' H' x w' r' => ?_
  obtain ⟨F2, x2, w2, rp⟩ := r'.dat e3 x w'
  exact hQ v F2 ρ' H' x2 w2 rp
/-- an unfrozen answer is looked at -/
theorem RvOk.vw {r : Rv} {v : V} (h : RvOk C H F' H' ρ' r v) : VwOk C F' H' ρ' r.vw v := by
  cases r with
  | d d => exact h
  | f c => obtain ⟨a, e1, h1, h2, h3, _⟩ := h; exact ⟨a, e1, h1, h3, h2⟩
theorem SX.vw {X : Cx} {e : Expr} {φ : Fr → Mem → R Rv} (h : SX C X e φ) : SV C X e (fun env m => (φ env m).bind fun v m1 => .ok v.vw m1) := by
  intro env m d m' hφ σ F ρ H H0 f w Q hQ
  obtain ⟨r, m1, e1, e2⟩ := R.bind_eq_ok hφ
  cases e2
  exact h env m r _ e1 σ F ρ H H0 f w Q fun v F' ρ' H' x w' r' => hQ v F' ρ' H' x w' r'.vw
end

/-! ### contexts -/
/-- a context whose scope is the written one -/
structure CxOk (C : Cf) (k : Nat) (N : List Str) (sc : Scope) (X : Cx) : Prop where
  hN : X.N = N
  nd : N.Nodup
  K : X.K = C.K
  w : X.w = C.w
  scp : ∀ x kd, sc.names.lookup x = some kd → X.env.scope.names.lookup x = some kd ∨ (kd = .free ∧ X.env.scope.names.lookup x = some .cell)
  cal : X.calm = true
  room : L2.Room k X.A
  fn : ∀ x, sc.names.lookup x = some .local ∨ sc.names.lookup x = some .cell → X.fn x = true ∨ X.env.scope.names.lookup x = some .local
  kind : X.env.scope.kind = .function
section
variable {C : Cf} {k : Nat} {N : List Str} {sc : Scope} {X : Cx}
def visB (sc : Scope) (x : Str) : Bool := match sc.names.lookup x with
  | some .local => true
  | some .cell => true
  | some .free => true
  | _ => false
def locB (sc : Scope) (x : Str) : Bool := match sc.names.lookup x with
  | some .local => true
  | some .cell => true
  | _ => false
def gloB (sc : Scope) (x : Str) : Bool := match sc.names.lookup x with
  | some .globalImplicit => true
  | _ => false
theorem CxOk.vis (c : CxOk C k N sc X) {x : Str} (h : visB sc x = true) : Vis X.env.scope x := by
  unfold visB at h
  split at h
  · rename_i e; rcases c.scp _ _ e with q | q
    · exact .inl q
    · exact .inr (.inl q.2)
  · rename_i e; rcases c.scp _ _ e with q | q
    · exact .inr (.inl q)
    · exact .inr (.inl q.2)
  · rename_i e; rcases c.scp _ _ e with q | q
    · exact .inr (.inr q)
    · exact .inr (.inl q.2)
  · cases h
theorem CxOk.loc (c : CxOk C k N sc X) {x : Str} (h : locB sc x = true) : Loc X.env.scope x := by
  unfold locB at h
  split at h
  · rename_i e; rcases c.scp _ _ e with q | q
    · exact .inl q
    · cases q.1
  · rename_i e; rcases c.scp _ _ e with q | q
    · exact .inr q
    · cases q.1
  · cases h
theorem CxOk.fnl (c : CxOk C k N sc X) {x : Str} (h : locB sc x = true) : X.fn x = true ∨ X.env.scope.names.lookup x = some .local := by
  unfold locB at h
  split at h
  · rename_i e; exact c.fn x (.inl e)
  · rename_i e; exact c.fn x (.inr e)
  · cases h
theorem CxOk.glo (c : CxOk C k N sc X) {x : Str} (h : gloB sc x = true) : Gl X x := by
  unfold gloB at h
  split at h
  · rename_i e; rcases c.scp _ _ e with q | q
    · exact q
    · cases q.1
  · cases h
end
end Ev

set_option linter.all false
set_option maxRecDepth 100000
/-! Ev3: the operations. -/
namespace Ev
open PySem PySem.Spec PyProof.Rows
open L2 (Hp HO V Cx Inv SqL SqT Same upd upd_same upd_ne TE VK PE PT PA PS PSs PG Key kV EP SP TP Rd RelV Vis Loc Gl OpR R2 UnR CallR)
open L2 (tOp tUn pe_op pe_un thn rI rI0 rU)

/-- how a new object comes -/
theorem alloc_tup {C : Cf} {m : Mem} {F H : Hp} {ρ : List Addr} {vs : List V} {ds : List D} (w : Wo C m F ρ H) (r : Reps C F ds vs) {p : Addr} (hp : H p = none) :
    ∃ F', Ext F ρ H F' ρ (upd H p (.tup vs)) ∧ Wo C m F' ρ (upd H p (.tup vs)) ∧ Rep C F' (.tup ds) (.ref p) := by
  have hF := w.free hp
  refine ⟨upd F p (.tup vs), Ext.frz hF hp upd_same (Ext.new hp) hF, (w.new hp).frz upd_same hF (w.notin hp), ?_⟩
  unfold Rep
  exact ⟨p, vs, rfl, L2.SqT.of upd_same, r.mono (same_upd hF)⟩
theorem alloc_lst {C : Cf} {m : Mem} {F H : Hp} {ρ : List Addr} {vs : List V} {ds : List D} (w : Wo C m F ρ H) (r : Reps C F ds vs) {p : Addr} (hp : H p = none) :
    Ext F ρ H F ρ (upd H p (.lst vs)) ∧ Wo C m F ρ (upd H p (.lst vs)) ∧ RvOk C H F (upd H p (.lst vs)) ρ (.f (.lst ds)) (.ref p) :=
  ⟨Ext.new hp, w.new hp, ⟨p, rfl, ⟨vs, upd_same, r⟩, w.free hp, w.notin hp, hp⟩⟩

section
variable {C : Cf} {X : Cx} {F F' H H' : Hp} {ρ ρ' : List Addr} {m : Mem}
theorem VaOk.seqT {x : Vw} {v : V} {ds : List D} (e : x.seq = some (true, ds)) (h : VaOk C F H x v) (s : Same F H) : ∃ a vs, v = .ref a ∧ SqT C.K H a vs ∧ Reps C F ds vs := by
  cases x with
  | d d =>
    cases d with
    | tup es =>
      cases e
      have h' : Rep C F (.tup ds) v := h
      unfold Rep at h'
      obtain ⟨a, vs, e1, h1, h2⟩ := h'
      exact ⟨a, vs, e1, Same.tup s h1, h2⟩
    | _ => cases e
  | c c => cases c <;> cases e
  | r n => cases e
theorem VaOk.seqL {x : Vw} {v : V} {ds : List D} (e : x.seq = some (false, ds)) (h : VaOk C F H x v) (s : Same F H) : ∃ a vs, v = .ref a ∧ SqL C.K H a vs ∧ Reps C F ds vs := by
  cases x with
  | d d =>
    cases d with
    | lst es =>
      cases e
      have h' : Rep C F (.lst ds) v := h
      unfold Rep at h'
      obtain ⟨a, vs, e1, h1, h2⟩ := h'
      exact ⟨a, vs, e1, s.seq h1, h2⟩
    | _ => cases e
  | c c =>
    cases c with
    | lst es =>
      cases e
      obtain ⟨a, e1, vs, h1, h2⟩ := h
      exact ⟨a, vs, e1, SqL.of h1, h2⟩
    | _ => cases e
  | r n => cases e
theorem VaOk.seqA {x : Vw} {v : V} {b : Bool} {ds : List D} (e : x.seq = some (b, ds)) (h : VaOk C F H x v) (s : Same F H) : ∃ a vs, v = .ref a ∧ (SqL C.K H a vs ∨ SqT C.K H a vs) ∧ Reps C F ds vs := by
  cases b with
  | true => obtain ⟨a, vs, h1, h2, h3⟩ := h.seqT e s; exact ⟨a, vs, h1, .inr h2, h3⟩
  | false => obtain ⟨a, vs, h1, h2, h3⟩ := h.seqL e s; exact ⟨a, vs, h1, .inl h2, h3⟩

def opB : Bop → Operator
  | .add => .Add | .sub => .Sub | .mul => .Mult | .fdiv => .FloorDiv | .mod => .Mod | .pow => .Pow | .shl => .LShift | .shr => .RShift | .band => .BitAnd | .bor => .BitOr | .bxor => .BitXor

/-- what an operation on values must bring -/
def Op2 (C : Cf) (X : Cx) (f : Value → Value → Sem Value) (m : Mem) (F : Hp) (ρ : List Addr) (H : Hp) (v u : V) (r : Rv) : Prop :=
  ∃ rr : R2, OpR X f rr ∧ ∀ Q : VK, (∀ z F' ρ' H', Ext F ρ H F' ρ' H' → Wo C m F' ρ' H' → RvOk C H F' H' ρ' r z → Q z H') → rr v u H Q

theorem bitAnd_eq {i j : Int} (h : 0 ≤ i ∧ 0 ≤ j) : Builtin.bitAnd i j = bitAnd i j := by
  unfold Builtin.bitAnd bitAnd
  rw [decide_eq_true h.1, decide_eq_true h.2]
theorem int_ok {o : Bop} {i j k : Int} (w : Wo C m F ρ H) (e : intOp o i j = some k) : Op2 C X (binaryOp (opB o)) m F ρ H (.int i) (.int j) (.d (.int k)) := by
  have fin : ∀ {k' : Int} {Q : VK}, k' = k → (∀ z F' ρ' H', Ext F ρ H F' ρ' H' → Wo C m F' ρ' H' → RvOk C H F' H' ρ' (.d (.int k)) z → Q z H') → Q (.int k') H := fun {k' Q} e q => by
    subst e
    exact q _ F ρ H Ext.refl w (by show Rep C F (.int _) _; unfold Rep; rfl)
  cases o with
  | add =>
    cases e
    exact ⟨_, L2.op_add, fun Q q => ⟨_, _, rfl, rfl, fin rfl q⟩⟩
  | sub =>
    cases e
    exact ⟨_, L2.op_sub, fun Q q => ⟨_, _, rfl, rfl, fin rfl q⟩⟩
  | mul =>
    change (if mulOk i j then some (i * j) else none) = some k at e
    unfold mulOk at e
    split at e
    · rename_i h
      cases e
      exact ⟨_, L2.op_mulW, fun Q q => ⟨_, _, rfl, rfl, (of_decide_eq_true h : _ < _), fin rfl q⟩⟩
    · cases e
  | fdiv =>
    change (if divOk j then some (i / j) else none) = some k at e
    unfold divOk at e
    split at e
    · rename_i h
      cases e
      exact ⟨_, L2.op_fdivW, fun Q q => ⟨_, _, rfl, rfl, (of_decide_eq_true h : _ ∧ _), fin rfl q⟩⟩
    · cases e
  | mod =>
    change (if 0 < j then some (i % j) else none) = some k at e
    split at e
    · rename_i h
      cases e
      exact ⟨_, L2.op_mod, fun Q q => ⟨_, _, rfl, rfl, h, fin rfl q⟩⟩
    · cases e
  | pow =>
    change (if powOk i j then some (i ^ j.toNat) else none) = some k at e
    unfold powOk at e
    split at e
    · rename_i h
      cases e
      exact ⟨_, L2.op_pow, fun Q q => ⟨_, _, rfl, rfl, (of_decide_eq_true h : _ ∧ _), fin rfl q⟩⟩
    · cases e
  | shl =>
    change (if powOk i j then some (i * 2 ^ j.toNat) else none) = some k at e
    unfold powOk at e
    split at e
    · rename_i h
      cases e
      exact ⟨_, L2.op_shl, fun Q q => ⟨_, _, rfl, rfl, (of_decide_eq_true h : _ ∧ _), fin rfl q⟩⟩
    · cases e
  | shr =>
    change (if 0 ≤ j then some (i / 2 ^ j.toNat) else none) = some k at e
    split at e
    · rename_i h
      cases e
      exact ⟨_, L2.op_shr, fun Q q => ⟨_, _, rfl, rfl, h, fin rfl q⟩⟩
    · cases e
  | band =>
    change (if 0 ≤ i ∧ 0 ≤ j then some (bitAnd i j) else none) = some k at e
    split at e
    · rename_i h
      cases e
      exact ⟨_, L2.op_and, fun Q q => ⟨_, _, rfl, rfl, fin (bitAnd_eq h) q⟩⟩
    · cases e
  | bor => cases e
  | bxor => cases e

/-- the sum of two lists that are read -/
def rCatS (K : PySem.W.Frag) : R2 := fun x y H Q => ∃ l b xs zs, x = .ref l ∧ y = .ref b ∧ SqL K H l xs ∧ SqL K H b zs ∧ xs.length + zs.length ≤ sizeLine ∧ ∀ p, H p = none → Q (.ref p) (upd H p (.lst (xs ++ zs)))
theorem op_catS : OpR X (binaryOp .Add) (rCatS X.K) := by
  rintro pins s σ H x y v u Q I rx ry ⟨l, b, xs, zs, rfl, rfl, hH, hB, hz, q⟩
  cases rx
  cases ry
  obtain ⟨its, r, p1, z1⟩ := I.list hH
  obtain ⟨its2, r2, p2, z2⟩ := I.list hB
  obtain ⟨⟨cls, dd, data, sl⟩, n, ho, hc, hdd, hd⟩ := p1
  obtain ⟨⟨cls2, dd2, data2, sl2⟩, n2, ho2, hc2, hdd2, hd2⟩ := p2
  simp only at hc hd hc2 hd2 hdd hdd2
  subst hc hd hc2 hd2 hdd hdd2
  have hz' : its.length + its2.length ≤ sizeLine := by rw [← r.length, ← r2.length]; exact hz
  have e : its.toArray ++ its2.toArray = (its ++ its2).toArray := by simp
  refine concat_meets ⟨_, ho, rfl⟩ ⟨_, ho2, rfl⟩ noFill_list_add seq_list_add PySem.F.slot_list_add PySem.F.entry_list_add (PySem.F.args_list_add_2 _ _) (list_addW l b its.toArray its2.toArray n n2 _ _ sl sl2 (by simpa using hz')) ⟨ho, ho2, ?_⟩
  rw [e]
  exact ⟨.ref _, _, I.lnew (t' := s.toks) (r.append r2) (by rw [List.length_append]; exact hz), rfl, q _ I.fresh⟩
theorem line_eq : sizeLine = line := by rw [sizeLine_eq]; rfl
theorem lenOk_le {n : Nat} (h : lenOk n = true) : n ≤ sizeLine := by rw [line_eq]; exact of_decide_eq_true h

theorem bin_ok (hK : X.K = C.K) {o : Bop} {x y : Vw} {v u : V} {r : Rv} (e : binV o x y = some r) (w : Wo C m F ρ H) (hx : VaOk C F H x v) (hy : VaOk C F H y u) : Op2 C X (binaryOp (opB o)) m F ρ H v u r := by
  unfold binV at e
  split at e
  · -- ints
    obtain ⟨k, e1, rfl⟩ := Option.map_eq_some_iff.mp e
    have h1 : Rep C F (.int _) v := hx
    have h2 : Rep C F (.int _) u := hy
    unfold Rep at h1 h2
    subst h1 h2
    exact int_ok w e1
  · -- tuples
    rename_i xs ys
    split at e
    · split at e
      · rename_i hl
        cases e
        obtain ⟨a, vs, rfl, h1, h2⟩ := hx.seqT rfl w.same
        obtain ⟨b, us, rfl, h3, h4⟩ := hy.seqT rfl w.same
        have l1 := h2.length
        have l2 := h4.length
        refine ⟨_, L2.op_catA, fun Q q => ⟨a, b, vs, us, rfl, rfl, hK ▸ h1, hK ▸ h3, by rw [← l1, ← l2]; exact lenOk_le hl, fun z => ?_, fun z1 z2 => ?_, fun z1 z2 p hp => ?_⟩⟩
        · subst z
          have : xs = [] := List.eq_nil_of_length_eq_zero (by simpa using l1)
          subst this
          exact q _ F ρ H Ext.refl w hy
        · subst z2
          have : ys = [] := List.eq_nil_of_length_eq_zero (by simpa using l2)
          subst this
          refine q _ F ρ H Ext.refl w ?_
          rw [List.append_nil]
          exact hx
        · obtain ⟨F', x', w', r'⟩ := alloc_tup w (h2.append h4) hp
          exact q _ F' ρ _ x' w' r'
      · cases e
    · cases e
  · -- texts
    split at e
    · split at e
      · rename_i hl
        cases e
        have h1 : Rep C F (.str _) v := hx
        have h2 : Rep C F (.str _) u := hy
        unfold Rep at h1 h2
        subst h1 h2
        exact ⟨_, L2.op_add_str, fun Q q => ⟨_, _, rfl, rfl, lenOk_le hl, q _ F ρ H Ext.refl w (by show Rep C F (.str _) _; unfold Rep; rfl)⟩⟩
      · cases e
    · cases e
  · -- tuple times int
    rename_i xs k
    split at e
    · split at e
      · rename_i hl
        cases e
        obtain ⟨h0, h1, h2, h3⟩ := of_decide_eq_true hl
        obtain ⟨a, vs, rfl, p1, p2⟩ := hx.seqT rfl w.same
        have h4 : Rep C F (.int _) u := hy
        unfold Rep at h4
        subst h4
        have l1 := p2.length
        refine ⟨_, L2.op_repT, fun Q q => ⟨a, _, vs, rfl, rfl, hK ▸ p1, fun z => by rw [z, List.length_nil] at l1; omega, h0, h1, by omega, fun p hp => ?_⟩⟩
        obtain ⟨F', x', w', r'⟩ := alloc_tup w (p2.flatRep k.toNat) hp
        exact q _ F' ρ _ x' w' r'
      · split at e
        · rename_i hl
          cases e
          obtain ⟨h0, h1⟩ := of_decide_eq_true hl
          subst h0
          obtain ⟨a, vs, rfl, p1, p2⟩ := hx.seqT rfl w.same
          have h4 : Rep C F (.int _) u := hy
          unfold Rep at h4
          subst h4
          have l1 := p2.length
          exact ⟨_, op_times01, fun Q q => ⟨a, _, vs, rfl, rfl, hK ▸ p1, fun z => by rw [z, List.length_nil] at l1; omega, .inl ⟨rfl, q _ F ρ H Ext.refl w hx⟩⟩⟩
        · split at e
          · rename_i hl
            cases e
            obtain ⟨h0, h1⟩ := of_decide_eq_true hl
            subst h0
            obtain ⟨a, vs, rfl, p1, p2⟩ := hx.seqT rfl w.same
            have h4 : Rep C F (.int _) u := hy
            unfold Rep at h4
            subst h4
            have l1 := p2.length
            refine ⟨_, op_times01, fun Q q => ⟨a, _, vs, rfl, rfl, hK ▸ p1, fun z => by rw [z, List.length_nil] at l1; omega, .inr ⟨rfl, fun p hp => ?_⟩⟩⟩
            obtain ⟨F', x', w', r'⟩ := alloc_tup (ds := []) (vs := []) w (Reps.ints (ns := [])) hp
            exact q _ F' ρ _ x' w' r'
          · cases e
    · cases e
  · -- list times int
    rename_i xs k
    split at e
    · split at e
      · rename_i hl
        cases e
        obtain ⟨h0, h1, h2⟩ := of_decide_eq_true hl
        obtain ⟨a, rfl, vs, p1, p2⟩ := hx
        have h4 : Rep C F (.int _) u := hy
        unfold Rep at h4
        subst h4
        have l1 := p2.length
        refine ⟨_, L2.op_rep, fun Q q => ⟨a, _, vs, rfl, rfl, p1, by omega, by omega, ?_, fun p hp => ?_⟩⟩
        · rw [sizeLine_eq, ← l1]
          have a1 : xs.length * k.toNat ≤ 16 * 1000000 := Nat.mul_le_mul h2 (by omega)
          omega
        · obtain ⟨x', w', r'⟩ := alloc_lst w (p2.flatRep k.toNat) hp
          exact q _ F ρ _ x' w' r'
      · cases e
    · cases e
  · -- lists
    split at e
    · split at e
      · rename_i _ _ _ _ _ xs ys e1 e2 hl
        cases e
        obtain ⟨a, vs, rfl, h1, h2⟩ := hx.seqL e1 w.same
        obtain ⟨b, us, rfl, h3, h4⟩ := hy.seqL e2 w.same
        refine ⟨_, op_catS, fun Q q => ⟨a, b, vs, us, rfl, rfl, hK ▸ h1, hK ▸ h3, by rw [← h2.length, ← h4.length]; exact lenOk_le hl, fun p hp => ?_⟩⟩
        obtain ⟨x', w', r'⟩ := alloc_lst w (h2.append h4) hp
        exact q _ F ρ _ x' w' r'
      · cases e
    · cases e
end
end Ev

set_option linter.all false
set_option maxRecDepth 100000
/-! Ev4: dicts. -/
namespace Ev
open PySem PySem.Spec PyProof.Rows
open L2 (Hp HO V Cx Inv SqL SqT Same upd upd_same upd_ne TE VK PE PT PA PS PSs PG Key kV EP SP TP Rd RelV Vis Loc Gl OpR R2 UnR CallR)
open L2 (tOp tUn pe_op pe_un thn rI rI0 rU valV putK KV keyIs)

/-! ### keys that are tuples -/
mutual
theorem depth_toN : ∀ (d : D) (n : Nat), tupKey d n = true → (toN d).depth ≤ n
  | .non, n, _ => by simp [toN, NestedKey.depth]
  | .bl _, n, _ => by simp [toN, NestedKey.depth]
  | .int _, n, _ => by simp [toN, NestedKey.depth]
  | .str _, n, _ => by simp [toN, NestedKey.depth]
  | .tup ds, 0, h => by simp [tupKey] at h
  | .tup ds, n + 1, h => by
    have h' : tupKeys ds n = true := by simpa [tupKey] using h
    have := depth_toNs ds n h'
    simp only [toN, NestedKey.depth]
    omega
  | .lst _, n, h => by simp [tupKey] at h
  | .ins _ _, n, h => by simp [tupKey] at h
theorem depth_toNs : ∀ (ds : List D) (n : Nat), tupKeys ds n = true → NestedKey.depthAll (toNs ds) ≤ n
  | [], n, _ => by simp [toNs, NestedKey.depthAll]
  | d :: ds, n, h => by
    have h' : tupKey d n = true ∧ tupKeys ds n = true := by simpa [tupKeys] using h
    have h1 := depth_toN d n h'.1
    have h2 := depth_toNs ds n h'.2
    simp only [toNs, NestedKey.depthAll]
    omega
end
mutual
theorem beq_toN : ∀ (d e : D) (n k : Nat), tupKey d n = true → tupKey e k = true → D.beq d e = NestedKey.beq (toN d) (toN e)
  | .non, e, n, k, _, h => by cases e <;> simp [tupKey] at h <;> simp [D.beq, toN, NestedKey.beq]
  | .bl b, e, n, k, _, h => by
    cases e with
    | bl c => cases b <;> cases c <;> simp [D.beq, toN, NestedKey.beq]
    | int j => cases b <;> simp [D.beq, toN, NestedKey.beq] <;> rfl
    | _ => simp [tupKey] at h <;> simp [D.beq, toN, NestedKey.beq]
  | .int i, e, n, k, _, h => by
    cases e with
    | bl c => cases c <;> simp [D.beq, toN, NestedKey.beq] <;> rfl
    | int j => simp [D.beq, toN, NestedKey.beq]; rfl
    | _ => simp [tupKey] at h <;> simp [D.beq, toN, NestedKey.beq]
  | .str x, e, n, k, _, h => by
    cases e with
    | str y => simp [D.beq, toN, NestedKey.beq]; rfl
    | _ => simp [tupKey] at h <;> simp [D.beq, toN, NestedKey.beq]
  | .tup ds, e, n, k, h1, h => by
    cases e with
    | tup es =>
      cases n with
      | zero => simp [tupKey] at h1
      | succ n =>
        cases k with
        | zero => simp [tupKey] at h
        | succ k =>
          have h1' : tupKeys ds n = true := by simpa [tupKey] using h1
          have h' : tupKeys es k = true := by simpa [tupKey] using h
          simp only [D.beq, toN, NestedKey.beq]
          exact beqs_toNs ds es n k h1' h'
    | _ => simp [tupKey] at h <;> simp [D.beq, toN, NestedKey.beq]
  | .lst _, e, n, k, h, _ => by simp [tupKey] at h
  | .ins _ _, e, n, k, h, _ => by simp [tupKey] at h
theorem beqs_toNs : ∀ (ds es : List D) (n k : Nat), tupKeys ds n = true → tupKeys es k = true → D.beqs ds es = NestedKey.beqAll (toNs ds) (toNs es)
  | [], [], _, _, _, _ => by simp [D.beqs, toNs, NestedKey.beqAll]
  | [], _ :: _, _, _, _, _ => by simp [D.beqs, toNs, NestedKey.beqAll]
  | _ :: _, [], _, _, _, _ => by simp [D.beqs, toNs, NestedKey.beqAll]
  | d :: ds, e :: es, n, k, h1, h2 => by
    have h1' : tupKey d n = true ∧ tupKeys ds n = true := by simpa [tupKeys] using h1
    have h2' : tupKey e k = true ∧ tupKeys es k = true := by simpa [tupKeys] using h2
    simp only [D.beqs, toNs, NestedKey.beqAll]
    rw [beq_toN d e n k h1'.1 h2'.1, beqs_toNs ds es n k h1'.2 h2'.2]
end
theorem beq_key {d e : D} {n k : Nat} (h1 : tupKey d n = true) (h2 : tupKey e k = true) : D.beq d e = decide (toN d = toN e) := by
  rw [NestedKey.decide_eq]
  exact beq_toN d e n k h1 h2
section
variable {C : Cf} {X : Cx} {pins : List (Addr × Obj)} {σ : L2.St} {s : Shared} {F H : Hp}
mutual
theorem Rep.key (I : Inv X pins σ H s) (hK : X.K = C.K) (sm : Same F H) : ∀ {d : D} {v : V} {u : Value} {n : Nat}, Rep C F d v → tupKey d n = true → RelV v u → NestedIs s.heap (toN d) u
  | .non, v, u, n, h, _, r => by
    unfold Rep at h; subst h
    cases r; exact .none
  | .bl b, v, u, n, h, _, r => by
    unfold Rep at h; subst h
    cases r; exact .bool rfl
  | .int i, v, u, n, h, _, r => by
    unfold Rep at h; subst h
    obtain ⟨t, rfl⟩ := r; exact .int i t
  | .str x, v, u, n, h, _, r => by
    unfold Rep at h; subst h
    obtain ⟨t, rfl⟩ := r; exact .text x t
  | .tup ds, v, u, n, h, k, r => by
    unfold Rep at h
    obtain ⟨a, vs, rfl, h1, h2⟩ := h
    cases r
    cases n with
    | zero => simp [tupKey] at k
    | succ n =>
      have k' : tupKeys ds n = true := by simpa [tupKey] using k
      obtain ⟨its, rv, ⟨o, ho, hc, nn, hd⟩, _⟩ := I.tuple (hK ▸ Same.tup sm h1)
      exact .tup ho hc hd (by simpa using Reps.keys I hK sm h2 k' rv)
  | .lst _, v, u, n, _, h, _ => by simp [tupKey] at h
  | .ins _ _, v, u, n, _, h, _ => by simp [tupKey] at h
theorem Reps.keys (I : Inv X pins σ H s) (hK : X.K = C.K) (sm : Same F H) : ∀ {ds : List D} {vs : List V} {us : List Value} {n : Nat}, Reps C F ds vs → tupKeys ds n = true → L2.Vals vs us → NestedAll s.heap (toNs ds) us
  | [], vs, us, n, h, _, r => by
    unfold Reps at h; subst h
    cases r; exact .nil
  | d :: ds, vs, us, n, h, k, r => by
    unfold Reps at h
    obtain ⟨v, vr, rfl, h1, h2⟩ := h
    have k' : tupKey d n = true ∧ tupKeys ds n = true := by simpa [tupKeys] using k
    cases r with
    | cons r1 r2 => exact .cons (Rep.key I hK sm h1 k'.1 r1) (Reps.keys I hK sm h2 k'.2 r2)
end
theorem keyOk_t {k : D} (h : keyOk true k = true) : isTup k = true ∧ tupKey k 8 = true := by
  simpa [keyOk] using h
theorem rep_tup_ref {d : D} {v : V} (h : Rep C F d v) (t : isTup d = true) : ∃ b, v = .ref b := by
  cases d with
  | tup ds =>
    unfold Rep at h
    obtain ⟨a, vs, rfl, _⟩ := h
    exact ⟨a, rfl⟩
  | _ => cases t
/-- the key of a dict with tuples as keys -/
theorem key_is (I : Inv X pins σ H s) (hK : X.K = C.K) (sm : Same F H) {k : D} {b : Addr} (h : Rep C F k (.ref b)) (ok : keyOk true k = true) : (nestedKind X.prog X.w).is s.heap (toN k) b := by
  obtain ⟨_, t2⟩ := keyOk_t ok
  exact ⟨Rep.key I hK sm h t2 rfl, depth_toN k 8 t2⟩

abbrev EZ (p : NestedKey × Addr × V) (q : NestedKey × Addr × Value) : Prop := p.1 = q.1 ∧ p.2.1 = q.2.1 ∧ RelV p.2.2 q.2.2
abbrev DZ (C : Cf) (F : Hp) (p : D × D) (q : NestedKey × Addr × V) : Prop := keyOk true p.1 = true ∧ q.1 = toN p.1 ∧ Rep C F p.1 (.ref q.2.1) ∧ Rep C F p.2 q.2.2
/-- what is looked up -/
theorem dxE_get {k : D} (ok : keyOk true k = true) : ∀ {kvs : List (D × D)} {es : List (NestedKey × Addr × V)} {zs : List (NestedKey × Addr × Value)},
    Paired (DZ C F) kvs es → Paired EZ es zs →
    (dget kvs k = none ∧ atKey zs (toN k) = none) ∨ ∃ d v p, dget kvs k = some d ∧ atKey zs (toN k) = some p ∧ Rep C F d v ∧ RelV v p.2
  | _, _, _, .nil, .nil => .inl ⟨rfl, rfl⟩
  | (k0, d0) :: r, e :: es, z :: zr, .cons h1 h2, .cons q1 q2 => by
    obtain ⟨h1a, h1b, h1c, h1d⟩ := h1
    obtain ⟨q1a, q1b, q1c⟩ := q1
    have bq : D.beq k0 k = decide (toN k0 = toN k) := beq_key (keyOk_t h1a).2 (keyOk_t ok).2
    have zk : z.1 = toN k0 := q1a.symm.trans h1b
    by_cases e' : toN k0 = toN k
    · refine .inr ⟨d0, _, z.2, ?_, ?_, h1d, q1c⟩
      · unfold dget
        rw [bq, decide_eq_true e']
        rfl
      · simp [atKey, List.find?_cons, zk, e']
    · have ih := dxE_get ok h2 q2
      have f1 : dget ((k0, d0) :: r) k = dget r k := by
        unfold dget
        rw [bq, decide_eq_false e']
        simp only [Bool.false_eq_true, if_false]
        cases r <;> rfl
      have f2 : atKey (z :: zr) (toN k) = atKey zr (toN k) := by
        have : ¬ z.1 = toN k := fun w => e' (zk.symm.trans w)
        simp [atKey, List.find?_cons, this]
      rw [f1, f2]
      exact ih
theorem dxE_any {k : D} (ok : keyOk true k = true) {kvs : List (D × D)} {es : List (NestedKey × Addr × V)} (h : Paired (DZ C F) kvs es) : kvs.any (fun p => D.beq p.1 k) = es.any fun e => decide (e.1 = toN k) := by
  induction h with
  | nil => rfl
  | @cons p q ps qs h t ih =>
    obtain ⟨h1a, h1b, h1c, h1d⟩ := h
    rw [List.any_cons, List.any_cons, ih, beq_key (keyOk_t h1a).2 (keyOk_t ok).2, h1b]
theorem EZ_any {k : NestedKey} {es : List (NestedKey × Addr × V)} {zs : List (NestedKey × Addr × Value)} (h : Paired EZ es zs) : es.any (fun e => decide (e.1 = k)) = (atKey zs k).isSome := by
  induction h with
  | nil => rfl
  | @cons p q ps qs h t ih =>
    obtain ⟨h1, h2, h3⟩ := h
    rw [List.any_cons, ih, h1]
    by_cases e : q.1 = k
    · simp [atKey, List.find?_cons, e]
    · simp [atKey, List.find?_cons, e]
/-- the entries behind a store -/
def exPut (es : List (NestedKey × Addr × V)) (k : NestedKey) (b : Addr) (v : V) : List (NestedKey × Addr × V) :=
  if es.any (fun e => decide (e.1 = k)) then es.map (fun e => if e.1 = k then (e.1, e.2.1, v) else e) else es ++ [(k, b, v)]
theorem DZ_put {k d : D} {b : Addr} {v : V} (ok : keyOk true k = true) (rk : Rep C F k (.ref b)) (rd : Rep C F d v) {kvs : List (D × D)} {es : List (NestedKey × Addr × V)} (h : Paired (DZ C F) kvs es) :
    Paired (DZ C F) (dput kvs k d) (exPut es (toN k) b v) := by
  unfold dput exPut
  rw [dxE_any ok h]
  split
  · rename_i hany
    clear hany
    induction h with
    | nil => exact .nil
    | @cons p q ps qs h t ih =>
      obtain ⟨h1a, h1b, h1c, h1d⟩ := h
      rw [List.map_cons, List.map_cons, beq_key (keyOk_t h1a).2 (keyOk_t ok).2, h1b]
      refine .cons ?_ ih
      by_cases e : toN p.1 = toN k
      · rw [decide_eq_true e, if_pos rfl, if_pos e]
        exact ⟨h1a, rfl, h1c, rd⟩
      · rw [decide_eq_false e, if_neg Bool.false_ne_true, if_neg e]
        exact ⟨h1a, h1b, h1c, h1d⟩
  · exact Paired.snoc h ⟨ok, rfl, rk, rd⟩
theorem EZ_put {k : NestedKey} {b : Addr} {v : V} {u : Value} (r : RelV v u) {es : List (NestedKey × Addr × V)} {zs : List (NestedKey × Addr × Value)} (h : Paired EZ es zs) : Paired EZ (exPut es k b v) (storedH zs k b u) := by
  unfold exPut storedH
  rw [EZ_any h]
  split
  · rename_i hany
    clear hany
    induction h with
    | nil => exact .nil
    | @cons p q ps qs h t ih =>
      obtain ⟨h1, h2, h3⟩ := h
      rw [List.map_cons, List.map_cons]
      refine .cons ?_ ih
      unfold putAt
      by_cases e : q.1 = k
      · rw [if_pos (h1.trans e), if_pos e]; exact ⟨h1, h2, r⟩
      · rw [if_neg (fun z => e (h1.symm.trans z)), if_neg e]; exact ⟨h1, h2, h3⟩
  · exact Paired.snoc h ⟨rfl, rfl, r⟩
/-- the dict as the library's rules want it -/
theorem dx_dict (I : Inv X pins σ H s) (hK : X.K = C.K) (hw : X.w = C.w) (sm : Same F H) {kvs : List (D × D)} {a : Addr} {es : List (NestedKey × Addr × V)} (h1 : H a = some (dxO C.w a es)) (h2 : Paired (DZ C F) kvs es) :
    (a == sysModules) = false ∧ ∃ zs : List (NestedKey × Addr × Value), Paired EZ es zs ∧ s.heap.DictOfH (nestedKind X.prog X.w) a zs := by
  obtain ⟨⟨n, zs, hp, o, des, ep, g1, g2, g3, g4, g5⟩, _, _⟩ := (show L2.ObjOk X.prog X.w H s.heap a (dxO C.w a es) from I.hok a _ h1)
  refine ⟨n, zs, hp, o, des, ep, g1, g2, g3, by rw [g4, hw]; rfl, ?_, g5⟩
  have all : ∀ {kvs : List (D × D)} {es : List (NestedKey × Addr × V)} {zs : List (NestedKey × Addr × Value)}, Paired (DZ C F) kvs es → Paired EZ es zs → ∀ x ∈ zs, (nestedKind X.prog X.w).is s.heap x.1 x.2.1 := by
    intro kvs es zs h
    induction h generalizing zs with
    | nil =>
      intro q x hx
      cases q
      cases hx
    | @cons p q ps qs h t ih =>
      intro w x hx
      cases w with
      | cons w1 w2 =>
        obtain ⟨h1a, h1b, h1c, h1d⟩ := h
        obtain ⟨q1a, q1b, q1c⟩ := w1
        rcases List.mem_cons.mp hx with e | hx
        · subst e
          rw [← q1a, ← q1b, h1b]
          exact key_is I hK sm h1c h1a
        · exact ih w2 x hx
  exact all h2 hp

/-! ### plain keys -/
theorem keyD_inj {a b : Key} (e : keyD a = keyD b) : a = b := by
  cases a <;> cases b <;> simp only [keyD] at e <;> cases e <;> rfl
theorem rep_key {k : Key} {v : V} (h : Rep C F (keyD k) v) : v = kV k := by
  cases k with
  | inl i => have h' : Rep C F (.int i) v := h; unfold Rep at h'; exact h'
  | inr x => have h' : Rep C F (.str x) v := h; unfold Rep at h'; exact h'
theorem plain_key {k : D} (h : keyOk false k = true) : ∃ k', k = keyD k' := by
  have h' : plainKey k = true := h
  cases k with
  | int i => exact ⟨.inl i, rfl⟩
  | str x => exact ⟨.inr x, rfl⟩
  | _ => cases h'
theorem beq_keyD (a b : Key) : D.beq (keyD a) (keyD b) = decide (a = b) := by
  cases a with
  | inl i => cases b with
    | inl j =>
      rw [L2.key_ll]
      simp only [keyD, D.beq]
    | inr y => rw [L2.key_lr]; simp only [keyD, D.beq]
  | inr x => cases b with
    | inl j => rw [L2.key_rl]; simp only [keyD, D.beq]
    | inr y =>
      rw [L2.key_rr]
      simp only [keyD, D.beq]
      rfl
abbrev DK (C : Cf) (F : Hp) (p : D × D) (q : Key × V) : Prop := p.1 = keyD q.1 ∧ Rep C F p.2 q.2
theorem dk_get {k : Key} {kvs : List (D × D)} {ps : List (Key × V)} (h : Paired (DK C F) kvs ps) :
    (dget kvs (keyD k) = none ∧ valV ps k = none) ∨ ∃ d v, dget kvs (keyD k) = some d ∧ valV ps k = some v ∧ Rep C F d v := by
  induction h with
  | nil => exact .inl ⟨rfl, rfl⟩
  | @cons p q ps qs h t ih =>
    obtain ⟨k0, d0⟩ := p
    obtain ⟨h1, h2⟩ := h
    have e1 : k0 = keyD q.1 := h1
    subst e1
    have bq := beq_keyD q.1 k
    by_cases e : q.1 = k
    · refine .inr ⟨d0, q.2, ?_, L2.valV_pos e, h2⟩
      unfold dget
      rw [bq, decide_eq_true e]
      rfl
    · have f1 : dget ((keyD q.1, d0) :: ps) (keyD k) = dget ps (keyD k) := by
        unfold dget
        rw [bq, decide_eq_false e]
        simp only [Bool.false_eq_true, if_false]
        cases ps <;> rfl
      rw [f1, L2.valV_neg e]
      exact ih
theorem DK_any {k : Key} {kvs : List (D × D)} {ps : List (Key × V)} (h : Paired (DK C F) kvs ps) : kvs.any (fun p => D.beq p.1 (keyD k)) = ps.any fun e => decide (e.1 = k) := by
  induction h with
  | nil => rfl
  | @cons p q ps qs h t ih =>
    rw [List.any_cons, List.any_cons, ih, h.1, beq_keyD]
theorem DK_put {k : Key} {d : D} {v : V} (rd : Rep C F d v) {kvs : List (D × D)} {ps : List (Key × V)} (h : Paired (DK C F) kvs ps) : Paired (DK C F) (dput kvs (keyD k) d) (putK ps k v) := by
  unfold dput putK
  rw [DK_any h]
  split
  · rename_i hany
    clear hany
    induction h with
    | nil => exact .nil
    | @cons p q ps qs h t ih =>
      rw [List.map_cons, List.map_cons]
      refine .cons ?_ ih
      rw [h.1, beq_keyD]
      by_cases e : q.1 = k
      · rw [decide_eq_true e, if_pos rfl, if_pos e]
        exact ⟨rfl, rd⟩
      · rw [decide_eq_false e, if_neg Bool.false_ne_true, if_neg e]
        exact h
  · exact Paired.snoc h ⟨rfl, rd⟩

/-! ### the operations -/
variable {A : Around} {E : Value → Shared → Prop}
theorem d_in (hu : X.A.units + 64 < cLine) (hK : X.K = C.K) (hw : X.w = C.w) (I : Inv X pins σ H s) (sm : Same F H) {c : Ct} {a : Addr} {t : Bool} {kvs : List (D × D)} {k : D} {y : V} {u : Value} {Q : Value → Shared → Prop}
    (h : CtAt C F H c a) (e : c.dic = some (t, kvs)) (ok : keyOk t k = true) (r : Rep C F k y) (ry : RelV y u)
    (q : ∀ s', Inv X pins σ H s' → Q (.bool (dget kvs k).isSome) s') : wpAny (model X.prog X.w) X.A (compareOp .In u (.ref a)) Q E s := by
  cases c with
  | lst _ => cases e
  | obj _ => cases e
  | dk kvs' =>
    cases e
    obtain ⟨ps, h1, h2⟩ := h
    obtain ⟨k', rfl⟩ := plain_key ok
    have ey := rep_key r
    subst ey
    have g := dk_get (k := k') h2
    refine L2.d_in (by omega) I (L2.DGet.k h1) ry fun s' I' => ?_
    have : (dget kvs (keyD k')).isSome = (valV ps k').isSome := by
      rcases g with ⟨g1, g2⟩ | ⟨d, v, g1, g2, _⟩ <;> rw [g1, g2] <;> rfl
    rw [← this]
    exact q s' I'
  | dx kvs' =>
    cases e
    obtain ⟨es, h1, h2⟩ := h
    obtain ⟨b, rfl⟩ := rep_tup_ref r (keyOk_t ok).1
    cases ry
    obtain ⟨hd, zs, hp, dd⟩ := dx_dict I hK hw sm h1 h2
    have g := dxE_get ok h2 hp
    refine wpAny_in_heap (show X.A.in1.units + 8 < cLine by show X.A.units + 1 + 8 < cLine; omega) (key_is I hK sm r ok) hd dd ?_
    have : (dget kvs k).isSome = (atKey zs (toN k)).isSome := by
      rcases g with ⟨g1, g2⟩ | ⟨d, v, p, g1, g2, _⟩ <;> rw [g1, g2] <;> rfl
    rw [← this]
    exact q _ (I.tok _)
theorem d_notIn (hu : X.A.units + 64 < cLine) (hK : X.K = C.K) (hw : X.w = C.w) (I : Inv X pins σ H s) (sm : Same F H) {c : Ct} {a : Addr} {t : Bool} {kvs : List (D × D)} {k : D} {y : V} {u : Value} {Q : Value → Shared → Prop}
    (h : CtAt C F H c a) (e : c.dic = some (t, kvs)) (ok : keyOk t k = true) (r : Rep C F k y) (ry : RelV y u)
    (q : ∀ s', Inv X pins σ H s' → Q (.bool (!(dget kvs k).isSome)) s') : wpAny (model X.prog X.w) X.A (compareOp .NotIn u (.ref a)) Q E s := by
  cases c with
  | lst _ => cases e
  | obj _ => cases e
  | dk kvs' =>
    cases e
    obtain ⟨ps, h1, h2⟩ := h
    obtain ⟨k', rfl⟩ := plain_key ok
    have ey := rep_key r
    subst ey
    have g := dk_get (k := k') h2
    refine L2.d_notIn (by omega) I (L2.DGet.k h1) ry fun s' I' => ?_
    have : (dget kvs (keyD k')).isSome = (valV ps k').isSome := by
      rcases g with ⟨g1, g2⟩ | ⟨d, v, g1, g2, _⟩ <;> rw [g1, g2] <;> rfl
    rw [← this]
    exact q s' I'
  | dx kvs' =>
    cases e
    obtain ⟨es, h1, h2⟩ := h
    obtain ⟨b, rfl⟩ := rep_tup_ref r (keyOk_t ok).1
    cases ry
    obtain ⟨hd, zs, hp, dd⟩ := dx_dict I hK hw sm h1 h2
    have g := dxE_get ok h2 hp
    refine wpAny_notIn_heap (show X.A.in1.units + 8 < cLine by show X.A.units + 1 + 8 < cLine; omega) (key_is I hK sm r ok) hd dd ?_
    have : (dget kvs k).isSome = (atKey zs (toN k)).isSome := by
      rcases g with ⟨g1, g2⟩ | ⟨d, v, p, g1, g2, _⟩ <;> rw [g1, g2] <;> rfl
    rw [← this]
    exact q _ (I.tok _)
theorem d_getItem (hu : X.A.units + 64 < cLine) (hK : X.K = C.K) (hw : X.w = C.w) (I : Inv X pins σ H s) (sm : Same F H) {c : Ct} {a : Addr} {t : Bool} {kvs : List (D × D)} {k d : D} {y : V} {u : Value} {Q : Value → Shared → Prop}
    (h : CtAt C F H c a) (e : c.dic = some (t, kvs)) (ok : keyOk t k = true) (r : Rep C F k y) (ry : RelV y u) (g0 : dget kvs k = some d)
    (q : ∀ v w' s', Inv X pins σ H s' → Rep C F d v → RelV v w' → Q w' s') : wpAny (model X.prog X.w) X.A (getItem (.ref a) u) Q E s := by
  cases c with
  | lst _ => cases e
  | obj _ => cases e
  | dk kvs' =>
    cases e
    obtain ⟨ps, h1, h2⟩ := h
    obtain ⟨k', rfl⟩ := plain_key ok
    have ey := rep_key r
    subst ey
    rcases dk_get (k := k') h2 with ⟨g1, g2⟩ | ⟨d', v, g1, g2, g3⟩
    · rw [g0] at g1; cases g1
    · rw [g0] at g1; cases g1
      have g : L2.DGet H a (kV k') (some v) := g2 ▸ L2.DGet.k h1
      exact L2.d_getItem (by omega) I g ry fun w' s' I' rw' => q v w' s' I' g3 rw'
  | dx kvs' =>
    cases e
    obtain ⟨es, h1, h2⟩ := h
    obtain ⟨b, rfl⟩ := rep_tup_ref r (keyOk_t ok).1
    cases ry
    obtain ⟨hd, zs, hp, dd⟩ := dx_dict I hK hw sm h1 h2
    rcases dxE_get ok h2 hp with ⟨g1, g2⟩ | ⟨d', v, p, g1, g2, g3, g4⟩
    · rw [g0] at g1; cases g1
    · rw [g0] at g1; cases g1
      exact wpAny_getItem_heap (show X.A.in1.units + 8 < cLine by show X.A.units + 1 + 8 < cLine; omega) (key_is I hK sm r ok) dd g2 (q v p.2 _ (I.tok _) g3 g4)
/-- a place of a dict written -/
theorem d_setItem (hu : X.A.units + 64 < cLine) (hK : X.K = C.K) (hw : X.w = C.w) (I : Inv X pins σ H s) (sm : Same F H) {t : Bool} {kvs : List (D × D)} {a : Addr} {k d : D} {y v : V} {u r : Value} {Q : Unit → Shared → Prop}
    (h : CtAt C F H (mkDic t kvs) a) (ok : keyOk t k = true) (hl : kvs.length < line) (ry : Rep C F k y) (ru : RelV y u) (rd : Rep C F d v) (rr : RelV v r)
    (q : ∀ o s', Inv X pins σ (upd H a o) s' → CtAt C F (upd H a o) (mkDic t (dput kvs k d)) a → Q () s') : wpAny (model X.prog X.w) X.A (setItem (.ref a) u r) Q E s := by
  cases t with
  | false =>
    obtain ⟨ps, h1, h2⟩ := (show CtAt C F H (.dk kvs) a from h)
    obtain ⟨k', rfl⟩ := plain_key ok
    have ey := rep_key ry
    subst ey
    refine L2.d_setItem (by omega) I (L2.DPut.k h1 (by rw [← Paired.length h2, sizeLine_eq]; exact hl)) ru rr fun s' I' => ?_
    exact q _ s' I' (show CtAt C F _ (.dk _) a from ⟨_, upd_same, DK_put rd h2⟩)
  | true =>
    obtain ⟨es, h1, h2⟩ := (show CtAt C F H (.dx kvs) a from h)
    obtain ⟨b, rfl⟩ := rep_tup_ref ry (keyOk_t ok).1
    cases ru
    obtain ⟨hd, zs, hp, dd⟩ := dx_dict I hK hw sm h1 h2
    have hz : zs.length ≤ sizeLine := by rw [← Paired.length hp, ← Paired.length h2, sizeLine_eq]; exact Nat.le_of_lt hl
    refine wpAny_setItem_heap (hsz := hz) (show X.A.in1.units + 8 < cLine by show X.A.units + 1 + 8 < cLine; omega) (key_is I hK sm ry ok) dd fun h' dd' hs => ?_
    obtain ⟨o, des, ep, g1, g2, g3, g4, _, g5⟩ := dd'
    refine q (dxO C.w a (exPut es (toN k) b v)) _ (L2.d_write I (by rw [h1]; exact True.intro) hs ⟨o, g1⟩ ?_) (show CtAt C F _ (.dx _) a from ⟨_, upd_same, DZ_put ok ry rd h2⟩)
    refine ⟨⟨hd, _, EZ_put rr hp, o, des, ep, g1, g2, g3, by rw [g4, ← hw]; rfl, g5⟩, ⟨o, g1⟩, ?_⟩
    rintro h1 h2 ⟨n, zs, hp, o, des, ep, g1, r⟩ hk
    exact ⟨n, zs, hp, o, des, ep, hk _ g1, r⟩
end
end Ev

set_option linter.all false
set_option maxRecDepth 100000
/-! Ev5: comparisons. -/
namespace Ev
open L2 (ixN)
open HT (sIx lexLt)
open PySem PySem.Spec PyProof.Rows
open L2 (Hp HO V Cx Inv SqL SqT Same upd upd_same upd_ne TE VK PE PT PA PS PSs PG Key kV EP SP TP Rd RelV Vis Loc Gl OpR R2 UnR CallR Dp DpAll)
open L2 (tOp tUn pe_op pe_un thn rI rI0 rU)

mutual
def toP : D → PyData
  | .non => .none
  | .bl b => .bool b
  | .int i => .int i
  | .str x => .str x
  | .tup ds => .tuple (toPs ds)
  | .lst ds => .list (toPs ds)
  | .ins _ _ => .none
def toPs : List D → List PyData
  | [] => []
  | d :: ds => toP d :: toPs ds
end
mutual
theorem ok_toP : ∀ (d : D) (n : Nat), D.ok d n = true → (toP d).canLay0 = true ∧ (toP d).depth ≤ n
  | .non, n, _ => by simp [toP, PyData.canLay0, PyData.depth]
  | .bl _, n, _ => by simp [toP, PyData.canLay0, PyData.depth]
  | .int _, n, _ => by simp [toP, PyData.canLay0, PyData.depth]
  | .str x, n, h => by
    have h' : strOkS x = true := by simpa [D.ok] using h
    refine ⟨?_, by simp [toP, PyData.depth]⟩
    simp only [toP, PyData.canLay0]
    exact h'
  | .tup ds, 0, h => by simp [D.ok] at h
  | .tup ds, n + 1, h => by
    have h' : D.oks ds n = true := by simpa [D.ok] using h
    obtain ⟨h1, h2⟩ := oks_toPs ds n h'
    simp only [toP, PyData.canLay0, PyData.depth]
    exact ⟨h1, by omega⟩
  | .lst ds, 0, h => by simp [D.ok] at h
  | .lst ds, n + 1, h => by
    have h' : D.oks ds n = true := by simpa [D.ok] using h
    obtain ⟨h1, h2⟩ := oks_toPs ds n h'
    simp only [toP, PyData.canLay0, PyData.depth]
    exact ⟨h1, by omega⟩
  | .ins _ _, n, h => by simp [D.ok] at h
theorem oks_toPs : ∀ (ds : List D) (n : Nat), D.oks ds n = true → PyData.canLayAll0 (toPs ds) = true ∧ PyData.depthAll (toPs ds) ≤ n
  | [], n, _ => by simp [toPs, PyData.canLayAll0, PyData.depthAll]
  | d :: ds, n, h => by
    have h' : D.ok d n = true ∧ D.oks ds n = true := by simpa [D.oks] using h
    obtain ⟨h1, h2⟩ := ok_toP d n h'.1
    obtain ⟨h3, h4⟩ := oks_toPs ds n h'.2
    simp only [toPs, PyData.canLayAll0, PyData.depthAll, h1, h3]
    exact ⟨rfl, by omega⟩
end
mutual
theorem beq_toP : ∀ (d e : D) (n k : Nat), D.ok d n = true → D.ok e k = true → D.beq d e = PyData.eqv (toP d) (toP e)
  | .non, e, n, k, _, h => by cases e <;> simp [D.ok] at h <;> simp [D.beq, toP, PyData.eqv]
  | .bl b, e, n, k, _, h => by cases e <;> simp [D.ok] at h <;> simp [D.beq, toP, PyData.eqv]
  | .int i, e, n, k, _, h => by cases e <;> simp [D.ok] at h <;> simp [D.beq, toP, PyData.eqv]
  | .str x, e, n, k, _, h => by cases e <;> simp [D.ok] at h <;> simp [D.beq, toP, PyData.eqv]
  | .tup ds, e, n, k, h1, h => by
    cases e with
    | tup es =>
      cases n with
      | zero => simp [D.ok] at h1
      | succ n =>
        cases k with
        | zero => simp [D.ok] at h
        | succ k =>
          simp only [D.beq, toP, PyData.eqv]
          exact beqs_toPs ds es n k (by simpa [D.ok] using h1) (by simpa [D.ok] using h)
    | _ => simp [D.ok] at h <;> simp [D.beq, toP, PyData.eqv]
  | .lst ds, e, n, k, h1, h => by
    cases e with
    | lst es =>
      cases n with
      | zero => simp [D.ok] at h1
      | succ n =>
        cases k with
        | zero => simp [D.ok] at h
        | succ k =>
          simp only [D.beq, toP, PyData.eqv]
          exact beqs_toPs ds es n k (by simpa [D.ok] using h1) (by simpa [D.ok] using h)
    | _ => simp [D.ok] at h <;> simp [D.beq, toP, PyData.eqv]
  | .ins _ _, e, n, k, h, _ => by simp [D.ok] at h
theorem beqs_toPs : ∀ (ds es : List D) (n k : Nat), D.oks ds n = true → D.oks es k = true → D.beqs ds es = PyData.eqvAll (toPs ds) (toPs es)
  | [], [], _, _, _, _ => by simp [D.beqs, toPs, PyData.eqvAll]
  | [], _ :: _, _, _, _, _ => by simp [D.beqs, toPs, PyData.eqvAll]
  | _ :: _, [], _, _, _, _ => by simp [D.beqs, toPs, PyData.eqvAll]
  | d :: ds, e :: es, n, k, h1, h2 => by
    have h1' : D.ok d n = true ∧ D.oks ds n = true := by simpa [D.oks] using h1
    have h2' : D.ok e k = true ∧ D.oks es k = true := by simpa [D.oks] using h2
    simp only [D.beqs, toPs, PyData.eqvAll]
    rw [beq_toP d e n k h1'.1 h2'.1, beqs_toPs ds es n k h1'.2 h2'.2]
end
theorem shaped_of {d : D} {n : Nat} (h : D.ok d n = true) (hn : n ≤ 64) : SeqAt.shaped (toP d) = true := by
  obtain ⟨h1, h2⟩ := ok_toP d n h
  unfold SeqAt.shaped
  rw [h1, decide_eq_true (Nat.le_trans h2 hn)]
  rfl
section
variable {C : Cf} {X : Cx} {F F' H H' : Hp} {ρ ρ' : List Addr} {m : Mem}
mutual
theorem Rep.dp (s : Same F H) : ∀ {d : D} {v : V} {n : Nat}, Rep C F d v → D.ok d n = true → Dp C.K H v (toP d)
  | .non, v, n, h, _ => by unfold Rep at h; subst h; exact .non
  | .bl b, v, n, h, _ => by unfold Rep at h; subst h; exact .bl b
  | .int b, v, n, h, _ => by unfold Rep at h; subst h; exact .int b
  | .str b, v, n, h, _ => by unfold Rep at h; subst h; exact .str b
  | .tup ds, v, 0, h, k => by simp [D.ok] at k
  | .tup ds, v, n + 1, h, k => by
    unfold Rep at h
    obtain ⟨a, vs, rfl, h1, h2⟩ := h
    exact .tup (Same.tup s h1) (Reps.dps s h2 (by simpa [D.ok] using k))
  | .lst ds, v, 0, h, k => by simp [D.ok] at k
  | .lst ds, v, n + 1, h, k => by
    unfold Rep at h
    obtain ⟨a, vs, rfl, h1, h2⟩ := h
    exact .lst (s.seq h1) (Reps.dps s h2 (by simpa [D.ok] using k))
  | .ins _ _, v, n, h, k => by simp [D.ok] at k
theorem Reps.dps (s : Same F H) : ∀ {ds : List D} {vs : List V} {n : Nat}, Reps C F ds vs → D.oks ds n = true → DpAll C.K H vs (toPs ds)
  | [], vs, n, h, _ => by unfold Reps at h; subst h; exact .nil
  | d :: ds, vs, n, h, k => by
    unfold Reps at h
    obtain ⟨v, r, rfl, h1, h2⟩ := h
    have k' : D.ok d n = true ∧ D.oks ds n = true := by simpa [D.oks] using k
    exact .cons (Rep.dp s h1 k'.1) (Reps.dps s h2 k'.2)
end
theorem VaOk.dp (s : Same F H) {x : Vw} {v : V} {d : D} {n : Nat} (e : x.dat = some d) (h : VaOk C F H x v) (k : D.ok d n = true) : Dp C.K H v (toP d) := by
  cases x with
  | d d' => cases e; exact Rep.dp s h k
  | c c =>
    cases c with
    | lst ds =>
      cases e
      obtain ⟨a, rfl, vs, h1, h2⟩ := h
      cases n with
      | zero => simp [D.ok] at k
      | succ n => exact .lst (L2.SqL.of h1) (Reps.dps s h2 (by simpa [D.ok] using k))
    | _ => cases e
  | r n => cases e
def opC : Cop → CmpOp
  | .eq => .Eq | .ne => .NotEq | .lt => .Lt | .le => .LtE | .gt => .Gt | .ge => .GtE | .isN => .Is | .notN => .IsNot | .isin => .In | .notin => .NotIn

/-- in a tuple of any data -/
def rInTD (K : PySem.W.Frag) (neg : Bool) : R2 := fun x y H Q => ∃ d ds, Dp K H x d ∧ Dp K H y (.tuple ds) ∧ SeqAt.shaped d = true ∧ SeqAt.shaped (.tuple ds) = true ∧ Q (.bl (if neg then !ds.any fun z => PyData.eqv z d else ds.any fun z => PyData.eqv z d)) H
theorem op_inTD (hu : X.A.units + 65 < cLine) : OpR X (compareOp .In) (rInTD X.K false) := by
  rintro pins s σ H x y v u Q I rx ry ⟨d, ds, hd, he, sd, se, q⟩
  obtain ⟨as, r1⟩ := L2.Dp.reads I d x v hd rx
  obtain ⟨bs, r2⟩ := L2.Dp.reads I (.tuple ds) y u he ry
  exact SeqAt.in_tuple_reads r2 r1 (SeqAt.canLay_of_shaped se) (SeqAt.canLay_of_shaped sd) (room_in_shaped sd hu) ⟨.bl _, H, I, rfl, q⟩
theorem op_notInTD (hu : X.A.units + 65 < cLine) : OpR X (compareOp .NotIn) (rInTD X.K true) := by
  rintro pins s σ H x y v u Q I rx ry ⟨d, ds, hd, he, sd, se, q⟩
  obtain ⟨as, r1⟩ := L2.Dp.reads I d x v hd rx
  obtain ⟨bs, r2⟩ := L2.Dp.reads I (.tuple ds) y u he ry
  exact SeqAt.notIn_tuple_reads r2 r1 (SeqAt.canLay_of_shaped se) (SeqAt.canLay_of_shaped sd) (room_in_shaped sd hu) ⟨.bl _, H, I, rfl, q⟩
theorem any_toP {x : D} {n : Nat} (hx : D.ok x n = true) : ∀ {ds : List D} {k : Nat}, D.oks ds k = true → (ds.any fun y => D.beq y x) = (toPs ds).any fun z => PyData.eqv z (toP x)
  | [], _, _ => rfl
  | d :: ds, k, h => by
    have h' : D.ok d k = true ∧ D.oks ds k = true := by simpa [D.oks] using h
    rw [List.any_cons, toPs, List.any_cons, any_toP hx h'.2, beq_toP d x k n h'.1 hx]

/-- a comparison's answer -/
def Cm2 (C : Cf) (X : Cx) (f : Value → Value → Sem Value) (m : Mem) (F : Hp) (ρ : List Addr) (H : Hp) (v u : V) (b : Bool) : Prop :=
  ∃ rr : R2, OpR X f rr ∧ ∀ Q : VK, Q (.bl b) H → rr v u H Q

theorem isN_ok {d : D} {v : V} (h : Rep C F d v) : decide (v = .non) = d.isNon := by
  cases d <;> unfold Rep at h <;> first
    | (subst h; rfl)
    | (obtain ⟨a, vs, rfl, _⟩ := h; rfl)
    | (obtain ⟨a, dx, vs, rfl, _⟩ := h; rfl)
theorem inD_shape {x y : Vw} {b : Bool} (e : cmpD.inD x y = some b) :
    (∃ d t ds, x = .d d ∧ y.seq = some (t, ds) ∧ D.ok d 16 = true ∧ D.oks ds 16 = true ∧ b = ds.any fun y => D.beq y d) ∨
    ∃ d c t kvs, x = .d d ∧ y = .c c ∧ c.dic = some (t, kvs) ∧ keyOk t d = true ∧ b = (dget kvs d).isSome := by
  unfold cmpD.inD at e
  cases x with
  | d d =>
    dsimp only at e
    cases hs : y.seq with
    | some p =>
      obtain ⟨t, ds⟩ := p
      rw [hs] at e
      dsimp only at e
      split at e
      · rename_i hk
        rw [Bool.and_eq_true] at hk
        exact .inl ⟨d, t, ds, rfl, rfl, hk.1, hk.2, (Option.some.inj e).symm⟩
      · cases e
    | none =>
      rw [hs] at e
      dsimp only at e
      cases y with
      | c c =>
        dsimp only at e
        cases hd : c.dic with
        | some p =>
          obtain ⟨t, kvs⟩ := p
          rw [hd] at e
          dsimp only at e
          split at e
          · rename_i hk
            exact .inr ⟨d, c, t, kvs, rfl, rfl, hd, hk, (Option.some.inj e).symm⟩
          · cases e
        | none => rw [hd] at e; cases e
      | d _ => cases e
      | r _ => cases e
  | c _ => cases e
  | r _ => cases e
theorem cmp_ok (hK : X.K = C.K) (hw : X.w = C.w) (hu : X.A.units + 70 < cLine) {o : Cop} {x y : Vw} {v u : V} {b : Bool} (e : cmpD o x y = some b) (w : Wo C m F ρ H) (hx : VaOk C F H x v) (hy : VaOk C F H y u) :
    Cm2 C X (compareOp (opC o)) m F ρ H v u b := by
  cases o with
  | eq =>
    unfold cmpD at e
    dsimp only at e
    split at e
    · rename_i d e' h1 h2
      unfold eqD okD at e
      split at e
      · rename_i hk
        cases e
        rw [Bool.and_eq_true] at hk
        refine ⟨_, L2.op_eqD (by omega), fun Q q => ⟨_, _, hK ▸ hx.dp w.same h1 hk.1, hK ▸ hy.dp w.same h2 hk.2, shaped_of hk.1 (by decide), shaped_of hk.2 (by decide), ?_⟩⟩
        rw [← beq_toP d e' 16 16 hk.1 hk.2]
        exact q
      · cases e
    · cases e
  | ne =>
    unfold cmpD at e
    dsimp only at e
    split at e
    · rename_i d e' h1 h2
      obtain ⟨b', e1, e2⟩ := Option.map_eq_some_iff.mp e
      clear e
      unfold eqD okD at e1
      split at e1
      · rename_i hk
        cases e1
        subst e2
        rw [Bool.and_eq_true] at hk
        refine ⟨_, L2.op_neD (by omega), fun Q q => ⟨_, _, hK ▸ hx.dp w.same h1 hk.1, hK ▸ hy.dp w.same h2 hk.2, shaped_of hk.1 (by decide), shaped_of hk.2 (by decide), ?_⟩⟩
        rw [← beq_toP d e' 16 16 hk.1 hk.2]
        exact q
      · cases e1
    · cases e
  | isN =>
    unfold cmpD at e
    dsimp only at e
    split at e
    · rename_i d
      have h2 : Rep C F .non u := hy
      unfold Rep at h2
      subst h2
      refine ⟨_, L2.op_isN, fun Q q => ⟨rfl, ?_⟩⟩
      rw [isN_ok hx, Option.some.inj e]
      exact q
    · cases e
      have h1 : Rep C F (.bl _) v := hx
      have h2 : Rep C F (.bl _) u := hy
      unfold Rep at h1 h2
      subst h1 h2
      exact ⟨_, L2.op_is_bl, fun Q q => ⟨_, _, rfl, rfl, q⟩⟩
    · cases e
  | notN =>
    unfold cmpD at e
    dsimp only at e
    split at e
    · rename_i d
      have h2 : Rep C F .non u := hy
      unfold Rep at h2
      subst h2
      refine ⟨_, L2.op_notN, fun Q q => ⟨rfl, ?_⟩⟩
      rw [isN_ok hx, Option.some.inj e]
      exact q
    · cases e
      have h1 : Rep C F (.bl _) v := hx
      have h2 : Rep C F (.bl _) u := hy
      unfold Rep at h1 h2
      subst h1 h2
      exact ⟨_, L2.op_isnot_bl, fun Q q => ⟨_, _, rfl, rfl, q⟩⟩
    · cases e
  | isin =>
    rcases inD_shape (show cmpD.inD x y = some b from e) with ⟨d, t, ds, rfl, hs, k1, k2, rfl⟩ | ⟨d, c, t, kvs, rfl, rfl, hd, hk, rfl⟩
    · have hkd : D.ok (.tup ds) 17 = true := by simpa [D.ok] using k2
      have hkl : D.ok (.lst ds) 17 = true := by simpa [D.ok] using k2
      cases t with
      | true =>
        obtain ⟨a, vs, rfl, g1, g2⟩ := hy.seqT hs w.same
        refine ⟨_, op_inTD (by omega), fun Q q => ⟨_, _, hK ▸ Rep.dp w.same hx k1, hK ▸ .tup g1 (Reps.dps w.same g2 k2), shaped_of k1 (by decide), shaped_of hkd (by decide), ?_⟩⟩
        rw [any_toP k1 k2] at q
        exact q
      | false =>
        obtain ⟨a, vs, rfl, g1, g2⟩ := hy.seqL hs w.same
        refine ⟨_, L2.op_inD (by omega), fun Q q => ⟨_, _, hK ▸ Rep.dp w.same hx k1, hK ▸ .lst g1 (Reps.dps w.same g2 k2), shaped_of k1 (by decide), shaped_of hkl (by decide), ?_⟩⟩
        rw [any_toP k1 k2] at q
        exact q
    · obtain ⟨a, rfl, g⟩ := hy
      refine ⟨fun x' y' H' Q => x' = v ∧ y' = .ref a ∧ H' = H ∧ Q (.bl (dget kvs d).isSome) H, fun pins s σ H' x' y' v' u' Q I rx ry h => ?_, fun Q q => ⟨rfl, rfl, rfl, q⟩⟩
      obtain ⟨rfl, rfl, rfl, q⟩ := h
      cases ry
      exact d_in (by omega) hK hw I w.same g hd hk hx rx fun s' I' => ⟨.bl _, _, I', rfl, q⟩
  | notin =>
    obtain ⟨b', e1, e2⟩ := Option.map_eq_some_iff.mp (show (cmpD.inD x y).map (fun t => !t) = some b from e)
    subst e2
    rcases inD_shape e1 with ⟨d, t, ds, rfl, hs, k1, k2, rfl⟩ | ⟨d, c, t, kvs, rfl, rfl, hd, hk, rfl⟩
    · have hkd : D.ok (.tup ds) 17 = true := by simpa [D.ok] using k2
      have hkl : D.ok (.lst ds) 17 = true := by simpa [D.ok] using k2
      cases t with
      | true =>
        obtain ⟨a, vs, rfl, g1, g2⟩ := hy.seqT hs w.same
        refine ⟨_, op_notInTD (by omega), fun Q q => ⟨_, _, hK ▸ Rep.dp w.same hx k1, hK ▸ .tup g1 (Reps.dps w.same g2 k2), shaped_of k1 (by decide), shaped_of hkd (by decide), ?_⟩⟩
        rw [any_toP k1 k2] at q
        exact q
      | false =>
        obtain ⟨a, vs, rfl, g1, g2⟩ := hy.seqL hs w.same
        refine ⟨_, L2.op_notInD (by omega), fun Q q => ⟨_, _, hK ▸ Rep.dp w.same hx k1, hK ▸ .lst g1 (Reps.dps w.same g2 k2), shaped_of k1 (by decide), shaped_of hkl (by decide), ?_⟩⟩
        rw [any_toP k1 k2] at q
        exact q
    · obtain ⟨a, rfl, g⟩ := hy
      refine ⟨fun x' y' H' Q => x' = v ∧ y' = .ref a ∧ H' = H ∧ Q (.bl (!(dget kvs d).isSome)) H, fun pins s σ H' x' y' v' u' Q I rx ry h => ?_, fun Q q => ⟨rfl, rfl, rfl, q⟩⟩
      obtain ⟨rfl, rfl, rfl, q⟩ := h
      cases ry
      exact d_notIn (by omega) hK hw I w.same g hd hk hx rx fun s' I' => ⟨.bl _, _, I', rfl, q⟩
  | lt =>
    unfold cmpD at e
    dsimp only at e
    split at e
    · cases e
      have h1 : Rep C F (.int _) v := hx
      have h2 : Rep C F (.int _) u := hy
      unfold Rep at h1 h2
      subst h1 h2
      exact ⟨_, L2.op_lt, fun Q q => ⟨_, _, rfl, rfl, q⟩⟩
    · split at e
      · rename_i x' y' p q' e1 e2
        cases e
        obtain ⟨a, vs, rfl, g1, g2⟩ := hx.seqT rfl w.same
        obtain ⟨c, us, rfl, g3, g4⟩ := hy.seqT rfl w.same
        obtain ⟨rfl, _⟩ := g2.intsOf e1
        obtain ⟨rfl, _⟩ := g4.intsOf e2
        refine ⟨_, L2.op_ltT (by omega), fun Q q => ⟨a, c, _, _, rfl, rfl, hK ▸ g1, hK ▸ g3, ?_⟩⟩
        exact q
      · cases e
    · cases e
  | gt =>
    unfold cmpD at e
    dsimp only at e
    split at e
    · cases e
      have h1 : Rep C F (.int _) v := hx
      have h2 : Rep C F (.int _) u := hy
      unfold Rep at h1 h2
      subst h1 h2
      exact ⟨_, L2.op_gt, fun Q q => ⟨_, _, rfl, rfl, q⟩⟩
    · cases e
  | le =>
    unfold cmpD at e
    dsimp only at e
    split at e
    · cases e
      have h1 : Rep C F (.int _) v := hx
      have h2 : Rep C F (.int _) u := hy
      unfold Rep at h1 h2
      subst h1 h2
      exact ⟨_, L2.op_le, fun Q q => ⟨_, _, rfl, rfl, q⟩⟩
    · split at e
      · rename_i x' y' p' q' e1 e2
        cases e
        obtain ⟨a, vs, rfl, g1, g2⟩ := hx.seqT rfl w.same
        obtain ⟨c, us, rfl, g3, g4⟩ := hy.seqT rfl w.same
        obtain ⟨rfl, _⟩ := g2.intsOf e1
        obtain ⟨rfl, _⟩ := g4.intsOf e2
        exact ⟨_, L2.op_leT (by omega), fun Q q => ⟨a, c, _, _, rfl, rfl, hK ▸ g1, hK ▸ g3, q⟩⟩
      · cases e
    · cases e
  | ge =>
    unfold cmpD at e
    dsimp only at e
    split at e
    · cases e
      have h1 : Rep C F (.int _) v := hx
      have h2 : Rep C F (.int _) u := hy
      unfold Rep at h1 h2
      subst h1 h2
      exact ⟨_, L2.op_ge, fun Q q => ⟨_, _, rfl, rfl, q⟩⟩
    · cases e
end
end Ev

set_option linter.all false
set_option maxRecDepth 100000
/-! Ev6: expressions, one construct each. -/
namespace Ev
open L2 (ixN)
open HT (sIx lexLt)
open PySem PySem.Spec PyProof.Rows
open L2 (Hp HO V Cx Inv SqL SqT Same upd upd_same upd_ne TE VK PE PT PA PS PSs PG Key kV EP SP TP Rd RelV Vis Loc Gl OpR R2 UnR CallR Dp DpAll)
open L2 (tOp tUn pe_op pe_un thn rI rI0 rU IxR PlainIx SlR)

section
variable {C : Cf} {X : Cx} {F F' F1 F2 H H' H1 H2 H0 : Hp} {ρ ρ' ρ1 ρ2 : List Addr} {m m' m1 m2 : Mem} {env : Fr} {σ : L2.St} {a b c : Expr} {φa φb : Fr → Mem → R Vw} {pos : Pos}

theorem RvOk.back {r : Rv} {v : V} (x : Ext F ρ H F1 ρ1 H1) (h : RvOk C H1 F' H' ρ' r v) : RvOk C H F' H' ρ' r v := by
  cases r with
  | d d => exact h
  | f c =>
    obtain ⟨a, e, h1, h2, h3, h4⟩ := h
    refine ⟨a, e, h1, h2, h3, ?_⟩
    cases q : H a with
    | none => rfl
    | some o => exact absurd h4 (x.th a (by rw [q]; simp))
theorem SD.vw {φ : Fr → Mem → R D} (h : SD C X a φ) : SV C X a (fun env m => (φ env m).bind fun d m1 => .ok (.d d) m1) := by
  intro env m d m' hφ σ F ρ H H0 f w Q hQ
  obtain ⟨r, m1, e1, e2⟩ := R.bind_eq_ok hφ
  cases e2
  exact h env m r _ e1 σ F ρ H H0 f w Q hQ
/-- a name looked at -/
theorem sv_var {i : Nat} (h : PE X a (L2.tVar i)) : SV C X a (fun env m => opt (look env m i) m) := by
  intro env m r m' hφ σ F ρ H H0 f w Q hQ
  obtain ⟨e, rfl⟩ := opt_eq_ok hφ
  refine use h ?_
  unfold look at e
  cases q : env[i]? with
  | none => rw [q] at e; cases e
  | some s =>
    rw [q] at e
    cases s with
    | un => cases e
    | val d =>
      cases e
      obtain ⟨v, h1, h2⟩ := f.val i d q
      exact ⟨v, h1, hQ v F ρ H Ext.refl w h2⟩
    | own c =>
      cases e
      obtain ⟨p, h1, h2, h3, h4, h5⟩ := f.own i c q
      exact ⟨.ref p, h1, hQ _ F ρ H Ext.refl w ⟨p, rfl, h2, h4, h3⟩⟩
    | cell n =>
      cases e
      obtain ⟨p, h1, h2⟩ := f.cel i n q
      exact ⟨.ref p, h1, hQ _ F ρ H Ext.refl w ⟨p, rfl, h2⟩⟩
theorem sx_var {i : Nat} (h : PE X a (L2.tVar i)) : SX C X a (fun env m => match env[i]? with | some (.val d) => .ok (.d d) m | _ => .bad) := by
  intro env m r m' hφ σ F ρ H H0 f w Q hQ
  refine use h ?_
  cases q : env[i]? with
  | none => simp only [q] at hφ; cases hφ
  | some s =>
    simp only [q] at hφ
    cases s with
    | val d =>
      cases hφ
      obtain ⟨v, h1, h2⟩ := f.val i d q
      exact ⟨v, h1, hQ v F ρ H Ext.refl w h2⟩
    | _ => cases hφ
theorem sx_con {d : D} {v : V} (h : PE X a (L2.tC v)) (hr : ∀ F, Rep C F d v) : SX C X a (fun _ m => .ok (.d d) m) := by
  intro env m r m' hφ σ F ρ H H0 f w Q hQ
  cases hφ
  exact use h (show Q v H from hQ v F ρ H Ext.refl w (hr F))
/-- two in a row -/
theorem two (ha : SV C X a φa) (hb : SV C X b φb) {x y : Vw} (e1 : φa env m = .ok x m1) (e2 : φb env m1 = .ok y m2) (f : FrOk C env σ F H ρ H0) (w : Wo C m F ρ H) {R : V → V → Hp → Prop}
    (h : ∀ v u F2 ρ2 H2, Ext F ρ H F2 ρ2 H2 → Wo C m2 F2 ρ2 H2 → VaOk C F2 H2 (x.at m2) v → VaOk C F2 H2 (y.at m2) u → R v u H2) :
    wpT X a σ H fun v H1 => wpT X b σ H1 fun u H2 => R v u H2 := by
  refine ha env m x m1 e1 σ F ρ H H0 f w _ fun v F1 ρ1 H1 x1 w1 r1 => ?_
  refine hb env m1 y m2 e2 σ F1 ρ1 H1 H0 (f.step x1) w1 _ fun u F2 ρ2 H2 x2 w2 r2 => ?_
  exact h v u F2 ρ2 H2 (x1.trans x2) w2 ((r1.step x2).now w2) (r2.now w2)

theorem sx_bin (hK : X.K = C.K) {o : Bop} (ha : SV C X a φa) (hb : SV C X b φb) :
    SX C X (.BinOp a (opB o) b pos) (fun env m => (φa env m).bind fun x m1 => (φb env m1).bind fun y m2 => opt (binV o (x.at m2) (y.at m2)) m2) := by
  intro env m r m' hφ σ F ρ H H0 f w Q hQ
  obtain ⟨x, m1, e1, h1⟩ := R.bind_eq_ok hφ
  obtain ⟨y, m2, e2, h2⟩ := R.bind_eq_ok h1
  obtain ⟨e3, rfl⟩ := opt_eq_ok h2
  -- the operation's rule is chosen behind both values: a reading of its own
  let RR : R2 := fun v u H2 Q2 => ∃ rr : R2, OpR X (binaryOp (opB o)) rr ∧ rr v u H2 Q2
  have hRR : OpR X (binaryOp (opB o)) RR := fun pins s σ H x y v u Q I rx ry ⟨rr, ho, q⟩ => ho pins s σ H x y v u Q I rx ry q
  refine use (pe_op hRR pT pT) (two ha hb e1 e2 f w fun v u F2 ρ2 H2 x2 w2 r1 r2 => ?_)
  obtain ⟨rr, ho, hq⟩ := bin_ok (X := X) hK e3 w2 r1 r2
  exact ⟨rr, ho, hq Q fun z F' ρ' H' x' w' r' => hQ z F' ρ' H' (x2.trans x') w' (r'.back x2)⟩
theorem sx_cmp (hK : X.K = C.K) (hw : X.w = C.w) (hu : X.A.units + 70 < cLine) {o : Cop} (ha : SV C X a φa) (hb : SV C X b φb) (hm : behindInMarks (opC o) b = false) :
    SX C X (.Compare a [opC o] [b] pos) (fun env m => (φa env m).bind fun x m1 => (φb env m1).bind fun y m2 => (opt (cmpD o (x.at m2) (y.at m2)) m2).bind fun t m3 => .ok (.d (.bl t)) m3) := by
  intro env m r m' hφ σ F ρ H H0 f w Q hQ
  obtain ⟨x, m1, e1, h1⟩ := R.bind_eq_ok hφ
  obtain ⟨y, m2, e2, h2⟩ := R.bind_eq_ok h1
  obtain ⟨t, m3, e3, h3⟩ := R.bind_eq_ok h2
  obtain ⟨e3, rfl⟩ := opt_eq_ok e3
  cases h3
  let RR : R2 := fun v u H2 Q2 => ∃ rr : R2, OpR X (compareOp (opC o)) rr ∧ rr v u H2 Q2
  have hRR : OpR X (compareOp (opC o)) RR := fun pins s σ H x y v u Q I rx ry ⟨rr, ho, q⟩ => ho pins s σ H x y v u Q I rx ry q
  refine use (L2.pe_cmpR hRR pT pT hm) (two ha hb e1 e2 f w fun v u F2 ρ2 H2 x2 w2 r1 r2 => ?_)
  obtain ⟨rr, ho, hq⟩ := cmp_ok (X := X) hK hw hu e3 w2 r1 r2
  exact ⟨rr, ho, hq Q (hQ _ F2 ρ2 H2 x2 w2 (by show Rep C F2 (.bl t) _; unfold Rep; rfl))⟩
theorem sb_cmp (hK : X.K = C.K) (hw : X.w = C.w) (hu : X.A.units + 70 < cLine) {o : Cop} (ha : SV C X a φa) (hb : SV C X b φb) (hm : behindInMarks (opC o) b = false) :
    SB C X (.Compare a [opC o] [b] pos) (fun env m => (φa env m).bind fun x m1 => (φb env m1).bind fun y m2 => opt (cmpD o (x.at m2) (y.at m2)) m2) := by
  intro env m t m' hφ σ F ρ H H0 f w Q hQ
  obtain ⟨x, m1, e1, h1⟩ := R.bind_eq_ok hφ
  obtain ⟨y, m2, e2, h2⟩ := R.bind_eq_ok h1
  obtain ⟨e3, rfl⟩ := opt_eq_ok h2
  let RR : R2 := fun v u H2 Q2 => ∃ rr : R2, OpR X (compareOp (opC o)) rr ∧ rr v u H2 Q2
  have hRR : OpR X (compareOp (opC o)) RR := fun pins s σ H x y v u Q I rx ry ⟨rr, ho, q⟩ => ho pins s σ H x y v u Q I rx ry q
  refine useB (L2.pt_cmpR hRR pT pT hm) ?_
  refine two ha hb e1 e2 f w fun v u F2 ρ2 H2 x2 w2 r1 r2 => ?_
  obtain ⟨rr, ho, hq⟩ := cmp_ok (X := X) hK hw hu e3 w2 r1 r2
  exact ⟨rr, ho, hq _ ⟨t, rfl, hQ F2 ρ2 H2 x2 w2⟩⟩
/-- a test from a value -/
theorem SX.tst {φ : Fr → Mem → R Rv} (h : SX C X a φ) (hp : ∀ whole, isTrue a X.env whole = (do let v ← whole; standAt a.pos; holding [v] (truthy v))) : SB C X a (fun env m => asB (φ env m)) := by
  intro env m t m' hφ σ F ρ H H0 f w Q hQ
  obtain ⟨r, m1, e1, h1⟩ := R.bind_eq_ok hφ
  refine useB (L2.pt_val pT hp) ?_
  refine h env m r m1 e1 σ F ρ H H0 f w _ fun v F' ρ' H' x' w' r' => ?_
  cases r with
  | f c => cases h1
  | d d =>
    cases d with
    | bl b =>
      cases h1
      have h2 : Rep C F' (.bl t) v := r'
      unfold Rep at h2
      exact ⟨t, h2, hQ F' ρ' H' x' w'⟩
    | _ => cases h1
theorem sx_neg {φ : Fr → Mem → R D} (ha : SD C X a φ) : SX C X (.UnaryOp .USub a pos) (fun env m => (φ env m).bind fun x m1 => match x with | .int i => .ok (.d (.int (-i))) m1 | _ => .bad) := by
  intro env m r m' hφ σ F ρ H H0 f w Q hQ
  obtain ⟨d, m1, e1, h1⟩ := R.bind_eq_ok hφ
  refine use (pe_un L2.un_neg pT) ?_
  refine ha env m d m1 e1 σ F ρ H H0 f w _ fun v F' ρ' H' x' w' r' => ?_
  cases d with
  | int i =>
    cases h1
    unfold Rep at r'
    exact ⟨i, r', hQ _ F' ρ' H' x' w' (by show Rep C F' (.int _) _; unfold Rep; rfl)⟩
  | _ => cases h1
theorem sx_not {φ : Fr → Mem → R Rv} (ha : SX C X a φ) : SX C X (.UnaryOp .Not a pos) (fun env m => (asB (φ env m)).bind fun x m1 => .ok (.d (.bl (!x))) m1) := by
  intro env m r m' hφ σ F ρ H H0 f w Q hQ
  obtain ⟨t, m1, e1, h1⟩ := R.bind_eq_ok hφ
  obtain ⟨d, m2, e2, h2⟩ := R.bind_eq_ok e1
  cases h1
  refine use (L2.pe_not pT) ?_
  refine ha env m d m2 e2 σ F ρ H H0 f w _ fun v F' ρ' H' x' w' r' => ?_
  cases d with
  | f c => cases h2
  | d d =>
    cases d with
    | bl b =>
      cases h2
      have h3 : Rep C F' (.bl t) v := r'
      unfold Rep at h3
      exact ⟨t, h3, hQ _ F' ρ' H' x' w' (by show Rep C F' (.bl _) _; unfold Rep; rfl)⟩
    | _ => cases h2
theorem sb_not {φ : Fr → Mem → R Bool} (ha : SB C X a φ) : SB C X (.UnaryOp .Not a pos) (fun env m => (φ env m).bind fun x m1 => .ok (!x) m1) := by
  intro env m r m' hφ σ F ρ H H0 f w Q hQ
  obtain ⟨t, m1, e1, h1⟩ := R.bind_eq_ok hφ
  cases h1
  refine useB (L2.pt_not pB) ?_
  exact ha env m t _ e1 σ F ρ H H0 f w _ fun F' ρ' H' x' w' => hQ F' ρ' H' x' w'
theorem sx_ite {φc : Fr → Mem → R Bool} {φ ψ : Fr → Mem → R Rv} (hc : SB C X c φc) (ha : SX C X a φ) (hb : SX C X b ψ) :
    SX C X (.IfExp c a b pos) (fun env m => (φc env m).bind fun t m1 => if t then φ env m1 else ψ env m1) := by
  intro env m r m' hφ σ F ρ H H0 f w Q hQ
  obtain ⟨t, m1, e1, h1⟩ := R.bind_eq_ok hφ
  refine use (L2.pe_ifExp pB pT pT) ?_
  refine hc env m t m1 e1 σ F ρ H H0 f w _ fun F' ρ' H' x' w' => ?_
  cases t with
  | true =>
    rw [if_pos rfl] at h1 ⊢
    exact ha env m1 r m' h1 σ F' ρ' H' H0 (f.step x') w' Q fun v F2 ρ2 H2 x2 w2 r2 => hQ v F2 ρ2 H2 (x'.trans x2) w2 (r2.back x')
  | false =>
    rw [if_neg Bool.false_ne_true] at h1 ⊢
    exact hb env m1 r m' h1 σ F' ρ' H' H0 (f.step x') w' Q fun v F2 ρ2 H2 x2 w2 r2 => hQ v F2 ρ2 H2 (x'.trans x2) w2 (r2.back x')

/-! ### subscripts -/
/-- a dict's item -/
theorem pe_ixC {r : R2} {ta tb : TE} (hr : ∀ (pins : List (Addr × Obj)) (s : Shared) (σ : L2.St) (H : Hp) (x y : V) (v u : Value) (Q : VK), Inv X pins σ H s → RelV x v → RelV y u → r x y H Q →
      s.TypeIs v "dict" ∧ wpAny (model X.prog X.w) X.A (getItem v u) (EP X pins σ Q) X.xe s) (ha : PE X a ta) (hb : PE X b tb) (hs : PlainIx b) : PE X (.Subscript a b pos) (tOp r ta tb) := by
  refine ⟨fun pins s σ H Q I h => ?_⟩
  exact L2.subD_of PySem.F.slot_dict_getitem.lookup hs (thn (ha.run pins s σ H _ I h) fun u s1 ⟨x, H1, I1, rx, q1⟩ => thn (hb.run pins s1 σ H1 _ I1 q1) fun iv s2 ⟨y, H2, I2, ry, q2⟩ => hr pins s2 σ H2 x y u iv Q I2 rx ry q2)
theorem ct_dict (hK : X.K = C.K) (hw : X.w = C.w) {pins : List (Addr × Obj)} {s : Shared} (I : Inv X pins σ H s) (sm : Same F H) {c : Ct} {p : Addr} {t : Bool} {kvs : List (D × D)} (h : CtAt C F H c p) (e : c.dic = some (t, kvs)) : s.TypeIs (.ref p) "dict" := by
  cases c with
  | lst _ => cases e
  | obj _ => cases e
  | dk kvs' =>
    obtain ⟨ps, h1, h2⟩ := h
    obtain ⟨_, _, vs, _, dd⟩ := L2.dk_of I.hok h1
    exact dd.typeIs
  | dx kvs' =>
    obtain ⟨es, h1, h2⟩ := h
    obtain ⟨_, zs, _, dd⟩ := dx_dict I hK hw sm h1 h2
    exact dd.typeIs
theorem ixN_eq (n : Nat) (i : Int) : ixN n i = L2.ixN n i := rfl
theorem sx_idx (hK : X.K = C.K) (hw : X.w = C.w) (hu : X.A.units + 70 < cLine) {φ : Fr → Mem → R D} (ha : SV C X a φa) (hb : SD C X b φ) (hp : PlainIx b) :
    SX C X (.Subscript a b pos) (fun env m => (φa env m).bind fun x m1 => (φ env m1).bind fun k m2 => (opt (idxV (x.at m2) k) m2).bind fun d m3 => .ok (.d d) m3) := by
  intro env m r m' hφ σ F ρ H H0 f w Q hQ
  obtain ⟨x, m1, e1, h1⟩ := R.bind_eq_ok hφ
  obtain ⟨k, m2, e2, h2⟩ := R.bind_eq_ok h1
  obtain ⟨d, m3, e3, h3⟩ := R.bind_eq_ok h2
  obtain ⟨e3, rfl⟩ := opt_eq_ok e3
  cases h3
  have e2' : ((φ env m1).bind fun d m1 => R.ok (Vw.d d) m1) = .ok (.d k) m' := by rw [e2]; rfl
  unfold idxV at e3
  cases hs : (x.at m').seq with
  | some p =>
    obtain ⟨t, ds⟩ := p
    rw [hs] at e3
    dsimp only at e3
    cases k with
    | int i =>
      dsimp only at e3
      obtain ⟨j, e4, e5⟩ := Option.bind_eq_some_iff.mp e3
      cases t with
      | true =>
        refine use (L2.pe_ix L2.ix_tup pT pT hp) (two (φb := fun env m => (φ env m).bind fun d m1 => R.ok (Vw.d d) m1) ha hb.vw e1 e2' f w fun v u F2 ρ2 H2 x2 w2 r1 r2 => ?_)
        obtain ⟨p, vs, rfl, g1, g2⟩ := r1.seqT hs w2.same
        have r2' : Rep C F2 (.int i) u := r2
        unfold Rep at r2'
        subst r2'
        obtain ⟨v, hv, rv⟩ := g2.get e5
        refine ⟨p, vs, i, v, rfl, rfl, hK ▸ g1, ?_, hQ v F2 ρ2 H2 x2 w2 rv⟩
        unfold L2.atI
        rw [← g2.length, ← ixN_eq, e4]
        exact hv
      | false =>
        refine use (L2.pe_ix L2.ix_list pT pT hp) (two (φb := fun env m => (φ env m).bind fun d m1 => R.ok (Vw.d d) m1) ha hb.vw e1 e2' f w fun v u F2 ρ2 H2 x2 w2 r1 r2 => ?_)
        obtain ⟨p, vs, rfl, g1, g2⟩ := r1.seqL hs w2.same
        have r2' : Rep C F2 (.int i) u := r2
        unfold Rep at r2'
        subst r2'
        obtain ⟨v, hv, rv⟩ := g2.get e5
        refine ⟨p, vs, i, v, rfl, rfl, hK ▸ g1, ?_, hQ v F2 ρ2 H2 x2 w2 rv⟩
        unfold L2.atI
        rw [← g2.length, ← ixN_eq, e4]
        exact hv
    | _ => cases e3
  | none =>
    rw [hs] at e3
    dsimp only at e3
    cases hx : x.at m' with
    | d d' =>
      rw [hx] at e3 hs
      cases d' with
      | str z =>
        dsimp only at e3
        cases k with
        | int i =>
          dsimp only at e3
          split at e3
          · rename_i hz
            have hz := lenOk_le hz
            obtain ⟨j, e4, e5⟩ := Option.bind_eq_some_iff.mp e3
            obtain ⟨cc, e6, rfl⟩ := Option.map_eq_some_iff.mp e5
            refine use (L2.pe_ix L2.ix_str pT pT hp) (two (φb := fun env m => (φ env m).bind fun d m1 => R.ok (Vw.d d) m1) ha hb.vw e1 e2' f w fun v u F2 ρ2 H2 x2 w2 r1 r2 => ?_)
            rw [hx] at r1
            have r1' : Rep C F2 (.str z) v := r1
            have r2' : Rep C F2 (.int i) u := r2
            unfold Rep at r1' r2'
            subst r1' r2'
            refine ⟨z, i, cc, rfl, rfl, hz, ?_, hQ _ F2 ρ2 H2 x2 w2 (by show Rep C F2 (.str _) _; unfold Rep; rfl)⟩
            unfold L2.atI
            have hl : z.cps.toList.length = z.length := by simp [Str.length]
            rw [hl, ← ixN_eq, e4]
            simpa using e6
          · cases e3
        | _ => cases e3
      | _ => cases e3
    | c c =>
      rw [hx] at e3
      dsimp only at e3
      cases hd : c.dic with
      | some p =>
        obtain ⟨t, kvs⟩ := p
        rw [hd] at e3
        dsimp only at e3
        split at e3
        · rename_i hk
          let RR : R2 := fun v u H2 Q2 => ∃ F2 p, v = .ref p ∧ Same F2 H2 ∧ CtAt C F2 H2 c p ∧ Rep C F2 k u ∧ ∀ z, Rep C F2 d z → Q2 z H2
          refine use (pe_ixC (r := RR) (fun pins s σ H x y v u Q I rx ry ⟨F2, p, ex, sm, g, rk, q⟩ => ?_) pT pT hp) (two (φb := fun env m => (φ env m).bind fun d m1 => R.ok (Vw.d d) m1) ha hb.vw e1 e2' f w fun v u F2 ρ2 H2 x2 w2 r1 r2 => ?_)
          · subst ex
            cases rx
            exact ⟨ct_dict hK hw I sm g hd, d_getItem (by omega) hK hw I sm g hd hk rk ry e3 fun z w' s' I' rz rw' => ⟨z, _, I', rw', q z rz⟩⟩
          · rw [hx] at r1
            obtain ⟨p, rfl, g⟩ := r1
            exact ⟨F2, p, rfl, w2.same, g, r2, fun z rz => hQ z F2 ρ2 H2 x2 w2 rz⟩
        · cases e3
      | none => rw [hd] at e3; cases e3
    | r n => rw [hx] at e3; cases e3
end
end Ev

set_option linter.all false
set_option maxRecDepth 100000
/-! Ev7: slices, displays, and, or, arguments, calls. -/
namespace Ev
open L2 (ixN)
open HT (sIx lexLt)
open PySem PySem.Spec PyProof.Rows
open L2 (Hp HO V Cx Inv SqL SqT Same upd upd_same upd_ne TE VK PE PT PA PS PSs PG Key kV EP SP TP Rd RelV Vis Loc Gl OpR R2 UnR CallR Dp DpAll)
open L2 (tOp tUn pe_op pe_un thn rI rI0 rU IxR PlainIx SlR TA)

section
variable {C : Cf} {X : Cx} {F F' F1 F2 H H' H1 H2 H0 : Hp} {ρ ρ' ρ1 ρ2 : List Addr} {m m' m1 m2 : Mem} {env : Fr} {σ : L2.St} {a b c : Expr} {φa φb : Fr → Mem → R Vw} {pos p2 : Pos}
theorem sIx_eq (n d : Nat) (o : Option Int) : sIx n d o = HT.sIx n d o := by
  cases o <;> rfl
theorem cutL_V (vs : List V) (lo hi : Option Int) : cutL vs lo hi = L2.cutV vs lo hi := by
  unfold cutL L2.cutV
  rw [sIx_eq, sIx_eq]
theorem Reps.cut {ds : List D} {vs : List V} (h : Reps C F ds vs) (lo hi : Option Int) : Reps C F (cutL ds lo hi) (L2.cutV vs lo hi) := by
  rw [← cutL_V]
  unfold cutL
  rw [h.length]
  exact (h.drop _).take _
/-- a part of a slice -/
def SO (C : Cf) (X : Cx) (o : Option Expr) (ψ : Fr → Mem → R (Option Int)) : Prop :=
  ∃ t : L2.TO, L2.PO X o t ∧ ∀ (env : Fr) (m : Mem) (r : Option Int) (m' : Mem), ψ env m = .ok r m' → ∀ (σ : L2.St) (F : Hp) (ρ : List Addr) (H H0 : Hp), FrOk C env σ F H ρ H0 → Wo C m F ρ H →
    ∀ Q : Option Int → Hp → Prop, (∀ F' ρ' H', Ext F ρ H F' ρ' H' → Wo C m' F' ρ' H' → Q r H') → t σ H Q
theorem so_none {φ : Fr → Mem → R Rv} : SO C X none (fun env m => partE true m (φ env m)) := by
  refine ⟨_, L2.po_none, fun env m r m' h σ F ρ H H0 f w Q hQ => ?_⟩
  cases h
  exact hQ F ρ H Ext.refl w
theorem so_some {φ : Fr → Mem → R Rv} (ha : SX C X a φ) : SO C X (some a) (fun env m => partE false m (φ env m)) := by
  refine ⟨_, L2.po_some pT, fun env m r m' h σ F ρ H H0 f w Q hQ => ?_⟩
  obtain ⟨v, m1, e1, h1⟩ := R.bind_eq_ok (show (φ env m).bind (fun v m1 => match v with | .d (.int i) => .ok (some i) m1 | _ => .bad) = .ok r m' from h)
  refine ha env m v m1 e1 σ F ρ H H0 f w _ fun u F' ρ' H' x' w' r' => ?_
  cases v with
  | f c => cases h1
  | d d =>
    cases d with
    | int i =>
      cases h1
      have h3 : Rep C F' (.int i) u := r'
      unfold Rep at h3
      exact ⟨i, h3, hQ F' ρ' H' x' w'⟩
    | _ => cases h1
theorem sx_slc (hK : X.K = C.K) {lo hi : Option Expr} {ψ χ : Fr → Mem → R (Option Int)} (ha : SV C X a φa) (hl : SO C X lo ψ) (hh : SO C X hi χ) :
    SX C X (.Subscript a (.Slice lo hi none p2) pos) (fun env m => (φa env m).bind fun x m1 => (ψ env m1).bind fun l m2 => (χ env m2).bind fun h m3 => opt (slcV (x.at m3) l h) m3) := by
  intro env m r m' hφ σ F ρ H H0 f w Q hQ
  obtain ⟨x, m1, e1, h1⟩ := R.bind_eq_ok hφ
  obtain ⟨l, m2, e2, h2⟩ := R.bind_eq_ok h1
  obtain ⟨h, m3, e3, h3⟩ := R.bind_eq_ok h2
  obtain ⟨e4, q4⟩ := opt_eq_ok h3
  subst q4
  obtain ⟨tl, pl, sl⟩ := hl
  obtain ⟨th, ph, sh⟩ := hh
  unfold slcV at e4
  cases hs : (x.at m').seq with
  | none => rw [hs] at e4; cases e4
  | some p =>
    obtain ⟨t, ds⟩ := p
    rw [hs] at e4
    cases t with
    | true =>
      cases e4
      refine use (L2.pe_slice L2.sl_tupA pT pl ph) ?_
      refine ha env m x m1 e1 σ F ρ H H0 f w _ fun v F1 ρ1 H1 x1 w1 r1 => ?_
      refine sl env m1 l m2 e2 σ F1 ρ1 H1 H0 (f.step x1) w1 _ fun F2 ρ2 H2 x2 w2 => ?_
      refine sh env m2 h m' e3 σ F2 ρ2 H2 H0 ((f.step x1).step x2) w2 _ fun F3 ρ3 H3 x3 w3 => ?_
      have xa := (x1.trans x2).trans x3
      have rr := (r1.step (x2.trans x3)).now w3
      obtain ⟨p, vs, rfl, g1, g2⟩ := rr.seqT hs w3.same
      refine ⟨p, vs, rfl, hK ▸ g1, fun z => ?_, fun z q hq => ?_⟩
      · refine hQ _ F3 ρ3 H3 xa w3 ?_
        have e5 : cutL ds l h = ds := by
          unfold cutL
          rw [g2.length, sIx_eq, sIx_eq, z.1, z.2, List.drop_zero, Nat.sub_zero, ← g2.length, List.take_length]
        show Rep C F3 (.tup (cutL ds l h)) _
        rw [e5]
        cases hx : x.at m' with
        | d d' =>
          rw [hx] at hs rr
          cases d' with
          | tup es => cases hs; exact rr
          | _ => cases hs
        | c c => rw [hx] at hs; cases c <;> cases hs
        | r n => rw [hx] at hs; cases hs
      · obtain ⟨F', x', w', r'⟩ := alloc_tup w3 (g2.cut l h) hq
        exact hQ _ F' ρ3 _ (xa.trans x') w' r'
    | false =>
      cases e4
      refine use (L2.pe_slice L2.sl_list pT pl ph) ?_
      refine ha env m x m1 e1 σ F ρ H H0 f w _ fun v F1 ρ1 H1 x1 w1 r1 => ?_
      refine sl env m1 l m2 e2 σ F1 ρ1 H1 H0 (f.step x1) w1 _ fun F2 ρ2 H2 x2 w2 => ?_
      refine sh env m2 h m' e3 σ F2 ρ2 H2 H0 ((f.step x1).step x2) w2 _ fun F3 ρ3 H3 x3 w3 => ?_
      have xa := (x1.trans x2).trans x3
      have rr := (r1.step (x2.trans x3)).now w3
      obtain ⟨p, vs, rfl, g1, g2⟩ := rr.seqL hs w3.same
      refine ⟨p, vs, rfl, hK ▸ g1, fun q hq => ?_⟩
      obtain ⟨x', w', r'⟩ := alloc_lst w3 (g2.cut l h) hq
      exact hQ _ F3 ρ3 _ (xa.trans x') w' (r'.back xa)

/-! ### argument lists -/
/-- the arguments es are the data that φ says -/
def SDs (C : Cf) (X : Cx) (es : List Expr) (φ : Fr → Mem → R (List D)) : Prop :=
  ∃ t : TA, PA X es t ∧ ∀ (env : Fr) (m : Mem) (r : List D) (m' : Mem), φ env m = .ok r m' → ∀ (σ : L2.St) (F : Hp) (ρ : List Addr) (H H0 : Hp), FrOk C env σ F H ρ H0 → Wo C m F ρ H →
    ∀ Q : List V → Hp → Prop, (∀ vs F' ρ' H', Ext F ρ H F' ρ' H' → Wo C m' F' ρ' H' → Reps C F' r vs → Q vs H') → t σ H Q
theorem sds_nil : SDs C X [] (fun _ m => .ok [] m) := by
  refine ⟨_, L2.pa_nil, fun env m r m' h σ F ρ H H0 f w Q hQ => ?_⟩
  cases h
  exact hQ [] F ρ H Ext.refl w Reps.nil
theorem sds_cons {es : List Expr} {φ : Fr → Mem → R D} {ψ : Fr → Mem → R (List D)} (ha : SD C X a φ) (hr : SDs C X es ψ) (hs : starEach (a :: es) X.env = (false, eval a X.env) :: starEach es X.env) :
    SDs C X (a :: es) (fun env m => (φ env m).bind fun d m1 => (ψ env m1).bind fun ds m2 => .ok (d :: ds) m2) := by
  obtain ⟨t, pt, st⟩ := hr
  refine ⟨_, L2.pa_cons pT pt hs, fun env m r m' h σ F ρ H H0 f w Q hQ => ?_⟩
  obtain ⟨d, m1, e1, h1⟩ := R.bind_eq_ok h
  obtain ⟨ds, m2, e2, h2⟩ := R.bind_eq_ok h1
  cases h2
  refine ha env m d m1 e1 σ F ρ H H0 f w _ fun v F1 ρ1 H1 x1 w1 r1 => ?_
  refine st env m1 ds _ e2 σ F1 ρ1 H1 H0 (f.step x1) w1 _ fun vs F2 ρ2 H2 x2 w2 r2 => ?_
  exact hQ (v :: vs) F2 ρ2 H2 (x1.trans x2) w2 (Reps.cons (r1.mono x2.sF) r2)
theorem sx_tup {es : List Expr} {x1 : Nat} {ψ : Fr → Mem → R (List D)} (h : SDs C X es ψ) (hl : ∀ env m ds m1, ψ env m = .ok ds m1 → ds.length ≤ 1000) : SX C X (.Tuple es x1 pos) (fun env m => (ψ env m).bind fun ds m1 => .ok (.d (.tup ds)) m1) := by
  obtain ⟨t, pt, st⟩ := h
  intro env m r m' hφ σ F ρ H H0 f w Q hQ
  obtain ⟨ds, m1, e1, h1⟩ := R.bind_eq_ok hφ
  cases h1
  refine use (L2.pe_tup pt) ?_
  refine st env m ds _ e1 σ F ρ H H0 f w _ fun vs F1 ρ1 H1 x1 w1 r1 => ⟨?_, fun p hp => ?_⟩
  · rw [← r1.length]
    exact Nat.le_trans (hl _ _ _ _ e1) (by decide)
  · obtain ⟨F', x', w', r'⟩ := alloc_tup w1 r1 hp
    exact hQ _ F' ρ1 _ (x1.trans x') w' r'
theorem sx_lst {es : List Expr} {ψ : Fr → Mem → R (List D)} (h : SDs C X es ψ) (hl : ∀ env m ds m1, ψ env m = .ok ds m1 → ds.length ≤ 1000) : SX C X (.List es pos) (fun env m => (ψ env m).bind fun ds m1 => .ok (.f (.lst ds)) m1) := by
  obtain ⟨t, pt, st⟩ := h
  intro env m r m' hφ σ F ρ H H0 f w Q hQ
  obtain ⟨ds, m1, e1, h1⟩ := R.bind_eq_ok hφ
  cases h1
  refine use (L2.pe_lst pt) ?_
  refine st env m ds _ e1 σ F ρ H H0 f w _ fun vs F1 ρ1 H1 x1 w1 r1 => ⟨?_, fun p hp => ?_⟩
  · rw [← r1.length]
    exact Nat.le_trans (hl _ _ _ _ e1) (by decide)
  · obtain ⟨x', w', r'⟩ := alloc_lst w1 r1 hp
    exact hQ _ F1 ρ1 _ (x1.trans x') w' (r'.back x1)
/-- looks -/
def VwsOk (C : Cf) (F H : Hp) (ρ : List Addr) (xs : List Vw) (vs : List V) : Prop := Paired (fun x v => VwOk C F H ρ x v) xs vs
def SVs (C : Cf) (X : Cx) (es : List Expr) (φ : Fr → Mem → R (List Vw)) : Prop :=
  ∃ t : TA, PA X es t ∧ ∀ (env : Fr) (m : Mem) (r : List Vw) (m' : Mem), φ env m = .ok r m' → ∀ (σ : L2.St) (F : Hp) (ρ : List Addr) (H H0 : Hp), FrOk C env σ F H ρ H0 → Wo C m F ρ H →
    ∀ Q : List V → Hp → Prop, (∀ vs F' ρ' H', Ext F ρ H F' ρ' H' → Wo C m' F' ρ' H' → VwsOk C F' H' ρ' r vs → Q vs H') → t σ H Q
theorem svs_nil : SVs C X [] (fun _ m => .ok [] m) := by
  refine ⟨_, L2.pa_nil, fun env m r m' h σ F ρ H H0 f w Q hQ => ?_⟩
  cases h
  exact hQ [] F ρ H Ext.refl w .nil
theorem svs_cons {es : List Expr} {ψ : Fr → Mem → R (List Vw)} (ha : SV C X a φa) (hr : SVs C X es ψ) (hs : starEach (a :: es) X.env = (false, eval a X.env) :: starEach es X.env) :
    SVs C X (a :: es) (fun env m => (φa env m).bind fun d m1 => (ψ env m1).bind fun ds m2 => .ok (d :: ds) m2) := by
  obtain ⟨t, pt, st⟩ := hr
  refine ⟨_, L2.pa_cons pT pt hs, fun env m r m' h σ F ρ H H0 f w Q hQ => ?_⟩
  obtain ⟨d, m1, e1, h1⟩ := R.bind_eq_ok h
  obtain ⟨ds, m2, e2, h2⟩ := R.bind_eq_ok h1
  cases h2
  refine ha env m d m1 e1 σ F ρ H H0 f w _ fun v F1 ρ1 H1 x1 w1 r1 => ?_
  refine st env m1 ds _ e2 σ F1 ρ1 H1 H0 (f.step x1) w1 _ fun vs F2 ρ2 H2 x2 w2 r2 => ?_
  exact hQ (v :: vs) F2 ρ2 H2 (x1.trans x2) w2 (.cons (r1.step x2) r2)
theorem VwsOk.now {xs : List Vw} {vs : List V} (h : VwsOk C F H ρ xs vs) (w : Wo C m F ρ H) : Paired (fun x v => VaOk C F H x v) (xs.map (Vw.at m)) vs := by
  induction h with
  | nil => exact .nil
  | cons h t ih => exact .cons (h.now w) ih

/-! ### and, or -/
theorem sb_and1 {φ : Fr → Mem → R Bool} (ha : SB C X a φ) : ∀ (env : Fr) (m : Mem) (r : Bool) (m' : Mem), φ env m = .ok r m' → True := fun _ _ _ _ _ => trivial
/-- .. as tests, whatever their whole is -/
def SW (C : Cf) (X : Cx) (e : Expr) (φ : Fr → Mem → R Bool) : Prop :=
  ∃ t : L2.TT, L2.PW X e t ∧ ∀ (env : Fr) (m : Mem) (r : Bool) (m' : Mem), φ env m = .ok r m' → ∀ (σ : L2.St) (F : Hp) (ρ : List Addr) (H H0 : Hp), FrOk C env σ F H ρ H0 → Wo C m F ρ H →
    ∀ Q : Bool → Hp → Prop, (∀ F' ρ' H', Ext F ρ H F' ρ' H' → Wo C m' F' ρ' H' → Q r H') → t σ H Q
theorem SW.sb {φ : Fr → Mem → R Bool} (h : SW C X a φ) : SB C X a φ := by
  obtain ⟨t, pt, st⟩ := h
  intro env m r m' hφ σ F ρ H H0 f w Q hQ
  exact useB pt.pt (st env m r m' hφ σ F ρ H H0 f w Q hQ)
theorem sw_and1 {φ : Fr → Mem → R Bool} (ha : SB C X a φ) : SW C X (.BoolOp .And [a] pos) φ := ⟨_, L2.pw_and1 pB, fun env m r m' h σ F ρ H H0 f w Q hQ => ha env m r m' h σ F ρ H H0 f w Q hQ⟩
theorem sw_or1 {φ : Fr → Mem → R Bool} (ha : SB C X a φ) : SW C X (.BoolOp .Or [a] pos) φ := ⟨_, L2.pw_or1 pB, fun env m r m' h σ F ρ H H0 f w Q hQ => ha env m r m' h σ F ρ H H0 f w Q hQ⟩
theorem sw_and {es : List Expr} {φ ψ : Fr → Mem → R Bool} (ha : SB C X a φ) (hb : SW C X (.BoolOp .And (b :: es) pos) ψ) :
    SW C X (.BoolOp .And (a :: b :: es) pos) (fun env m => (φ env m).bind fun t m1 => if t then ψ env m1 else .ok false m1) := by
  obtain ⟨t, pt, st⟩ := hb
  refine ⟨_, L2.pw_and pB pt, fun env m r m' h σ F ρ H H0 f w Q hQ => ?_⟩
  obtain ⟨d, m1, e1, h1⟩ := R.bind_eq_ok h
  refine ha env m d m1 e1 σ F ρ H H0 f w _ fun F1 ρ1 H1 x1 w1 => ?_
  cases d with
  | true =>
    rw [if_pos rfl] at h1 ⊢
    exact st env m1 r m' h1 σ F1 ρ1 H1 H0 (f.step x1) w1 _ fun F2 ρ2 H2 x2 w2 => hQ F2 ρ2 H2 (x1.trans x2) w2
  | false =>
    rw [if_neg Bool.false_ne_true] at h1 ⊢
    cases h1
    exact hQ F1 ρ1 H1 x1 w1
theorem sw_or {es : List Expr} {φ ψ : Fr → Mem → R Bool} (ha : SB C X a φ) (hb : SW C X (.BoolOp .Or (b :: es) pos) ψ) :
    SW C X (.BoolOp .Or (a :: b :: es) pos) (fun env m => (φ env m).bind fun t m1 => if t then .ok true m1 else ψ env m1) := by
  obtain ⟨t, pt, st⟩ := hb
  refine ⟨_, L2.pw_or pB pt, fun env m r m' h σ F ρ H H0 f w Q hQ => ?_⟩
  obtain ⟨d, m1, e1, h1⟩ := R.bind_eq_ok h
  refine ha env m d m1 e1 σ F ρ H H0 f w _ fun F1 ρ1 H1 x1 w1 => ?_
  cases d with
  | true =>
    rw [if_pos rfl] at h1 ⊢
    cases h1
    exact hQ F1 ρ1 H1 x1 w1
  | false =>
    rw [if_neg Bool.false_ne_true] at h1 ⊢
    exact st env m1 r m' h1 σ F1 ρ1 H1 H0 (f.step x1) w1 _ fun F2 ρ2 H2 x2 w2 => hQ F2 ρ2 H2 (x1.trans x2) w2
/-- .. as values -/
def SBv (C : Cf) (X : Cx) (e : Expr) (φ : Fr → Mem → R Bool) : Prop := SX C X e (fun env m => (φ env m).bind fun x m1 => .ok (.d (.bl x)) m1)
theorem asB_ok {r : R Rv} {t : Bool} {m1 : Mem} (h : asB r = .ok t m1) : r = .ok (.d (.bl t)) m1 := by
  obtain ⟨v, m2, e1, h1⟩ := R.bind_eq_ok h
  cases v with
  | f c => cases h1
  | d d => cases d with
    | bl b => cases h1; exact e1
    | _ => cases h1
theorem sv_one {op : BoolOp} {φ : Fr → Mem → R Rv} (ha : SX C X a φ) : SBv C X (.BoolOp op [a] pos) (fun env m => asB (φ env m)) := by
  intro env m r m' hφ σ F ρ H H0 f w Q hQ
  obtain ⟨t, m1, e1, h1⟩ := R.bind_eq_ok hφ
  cases h1
  exact use (L2.pe_one pT) (ha env m _ _ (asB_ok e1) σ F ρ H H0 f w Q hQ)
theorem sv_and {es : List Expr} {φ : Fr → Mem → R Rv} {ψ : Fr → Mem → R Bool} (ha : SX C X a φ) (hb : SBv C X (.BoolOp .And (b :: es) pos) ψ) :
    SBv C X (.BoolOp .And (a :: b :: es) pos) (fun env m => (asB (φ env m)).bind fun t m1 => if t then ψ env m1 else .ok false m1) := by
  intro env m r m' hφ σ F ρ H H0 f w Q hQ
  obtain ⟨t, m1, e1, h1⟩ := R.bind_eq_ok hφ
  obtain ⟨d, m2, e2, h2⟩ := R.bind_eq_ok e1
  cases h1
  refine use (L2.pe_and pT pT) ?_
  refine ha env m _ m2 (asB_ok e2) σ F ρ H H0 f w _ fun v F1 ρ1 H1 x1 w1 r1 => ?_
  have r1' : Rep C F1 (.bl d) v := r1
  unfold Rep at r1'
  refine ⟨d, r1', ?_⟩
  cases d with
  | true =>
    rw [if_pos rfl] at h2 ⊢
    exact hb env m2 _ _ (by show (ψ env m2).bind _ = _; rw [h2]; rfl) σ F1 ρ1 H1 H0 (f.step x1) w1 Q fun v F2 ρ2 H2 x2 w2 r2 => hQ v F2 ρ2 H2 (x1.trans x2) w2 (r2.back x1)
  | false =>
    rw [if_neg Bool.false_ne_true] at h2 ⊢
    cases h2
    exact hQ _ F1 ρ1 H1 x1 w1 (by show Rep C F1 (.bl _) _; unfold Rep; rfl)
theorem sv_or {es : List Expr} {φ : Fr → Mem → R Rv} {ψ : Fr → Mem → R Bool} (ha : SX C X a φ) (hb : SBv C X (.BoolOp .Or (b :: es) pos) ψ) :
    SBv C X (.BoolOp .Or (a :: b :: es) pos) (fun env m => (asB (φ env m)).bind fun t m1 => if t then .ok true m1 else ψ env m1) := by
  intro env m r m' hφ σ F ρ H H0 f w Q hQ
  obtain ⟨t, m1, e1, h1⟩ := R.bind_eq_ok hφ
  obtain ⟨d, m2, e2, h2⟩ := R.bind_eq_ok e1
  cases h1
  refine use (L2.pe_or pT pT) ?_
  refine ha env m _ m2 (asB_ok e2) σ F ρ H H0 f w _ fun v F1 ρ1 H1 x1 w1 r1 => ?_
  have r1' : Rep C F1 (.bl d) v := r1
  unfold Rep at r1'
  refine ⟨d, r1', ?_⟩
  cases d with
  | true =>
    rw [if_pos rfl] at h2 ⊢
    cases h2
    exact hQ _ F1 ρ1 H1 x1 w1 (by show Rep C F1 (.bl _) _; unfold Rep; rfl)
  | false =>
    rw [if_neg Bool.false_ne_true] at h2 ⊢
    exact hb env m2 _ _ (by show (ψ env m2).bind _ = _; rw [h2]; rfl) σ F1 ρ1 H1 H0 (f.step x1) w1 Q fun v F2 ρ2 H2 x2 w2 r2 => hQ v F2 ρ2 H2 (x1.trans x2) w2 (r2.back x1)
end
end Ev

set_option linter.all false
set_option maxRecDepth 100000
/-! Ev8: calls of defs and of built-ins. -/
namespace Ev
open PySem PySem.Spec PyProof.Rows
open L2 (Hp HO V Cx Inv SqL SqT Same upd upd_same upd_ne TE VK PE PT PA PS PSs PG Key kV EP SP TP Rd RelV Vis Loc Gl OpR R2 UnR CallR Dp DpAll Sp FnOk Room Binds XK)
open L2 (tOp tUn pe_op pe_un thn rI rI0 rU IxR PlainIx SlR TA)

section
variable {C : Cf} {X : Cx} {F F' F1 F2 H H' H1 H2 H0 : Hp} {ρ ρ' ρ1 ρ2 : List Addr} {m m' m1 m2 : Mem} {env : Fr} {σ : L2.St} {a b c : Expr} {φa φb : Fr → Mem → R Vw} {pos p2 p : Pos}

/-- an argument -/
def AgOk (C : Cf) (F : Hp) (ρ : List Addr) : Ar → V → Prop
  | .d d, v => Rep C F d v
  | .c n, v => ∃ p : Addr, v = .ref p ∧ ρ[n]? = some p
abbrev Ags (C : Cf) (F : Hp) (ρ : List Addr) (as : List Ar) (vs : List V) : Prop := Paired (fun a v => AgOk C F ρ a v) as vs
theorem AgOk.step {x : Ar} {v : V} (h : AgOk C F ρ x v) (e : Ext F ρ H F' ρ' H') : AgOk C F' ρ' x v := by
  cases x with
  | d d => exact Rep.mono e.sF h
  | c n => obtain ⟨p, e1, h1⟩ := h; exact ⟨p, e1, pre_get e.sR h1⟩
def SAs (C : Cf) (X : Cx) (es : List Expr) (φ : Fr → Mem → R (List Ar)) : Prop :=
  ∃ t : TA, PA X es t ∧ ∀ (env : Fr) (m : Mem) (r : List Ar) (m' : Mem), φ env m = .ok r m' → ∀ (σ : L2.St) (F : Hp) (ρ : List Addr) (H H0 : Hp), FrOk C env σ F H ρ H0 → Wo C m F ρ H →
    ∀ Q : List V → Hp → Prop, (∀ vs F' ρ' H', Ext F ρ H F' ρ' H' → Wo C m' F' ρ' H' → Ags C F' ρ' r vs → Q vs H') → t σ H Q
/-- one argument -/
def SA (C : Cf) (X : Cx) (e : Expr) (φ : Fr → Mem → R Ar) : Prop :=
  ∀ (env : Fr) (m : Mem) (r : Ar) (m' : Mem), φ env m = .ok r m' → ∀ (σ : L2.St) (F : Hp) (ρ : List Addr) (H H0 : Hp), FrOk C env σ F H ρ H0 → Wo C m F ρ H →
    ∀ Q : VK, (∀ v F' ρ' H', Ext F ρ H F' ρ' H' → Wo C m' F' ρ' H' → AgOk C F' ρ' r v → Q v H') → wpT X e σ H Q
theorem sas_nil : SAs C X [] (fun _ m => .ok [] m) := by
  refine ⟨_, L2.pa_nil, fun env m r m' h σ F ρ H H0 f w Q hQ => ?_⟩
  cases h
  exact hQ [] F ρ H Ext.refl w .nil
theorem sas_cons {es : List Expr} {φ : Fr → Mem → R Ar} {ψ : Fr → Mem → R (List Ar)} (ha : SA C X a φ) (hr : SAs C X es ψ) (hs : starEach (a :: es) X.env = (false, eval a X.env) :: starEach es X.env) :
    SAs C X (a :: es) (fun env m => (φ env m).bind fun d m1 => (ψ env m1).bind fun ds m2 => .ok (d :: ds) m2) := by
  obtain ⟨t, pt, st⟩ := hr
  refine ⟨_, L2.pa_cons pT pt hs, fun env m r m' h σ F ρ H H0 f w Q hQ => ?_⟩
  obtain ⟨d, m1, e1, h1⟩ := R.bind_eq_ok h
  obtain ⟨ds, m2, e2, h2⟩ := R.bind_eq_ok h1
  cases h2
  refine ha env m d m1 e1 σ F ρ H H0 f w _ fun v F1 ρ1 H1 x1 w1 r1 => ?_
  refine st env m1 ds _ e2 σ F1 ρ1 H1 H0 (f.step x1) w1 _ fun vs F2 ρ2 H2 x2 w2 r2 => ?_
  exact hQ (v :: vs) F2 ρ2 H2 (x1.trans x2) w2 (.cons (r1.step x2) r2)
theorem sa_var {i : Nat} (h : PE X a (L2.tVar i)) : SA C X a (fun env m => slotAr env i m) := by
  intro env m r m' hφ σ F ρ H H0 f w Q hQ
  refine use h ?_
  unfold slotAr at hφ
  cases q : env[i]? with
  | none => simp only [q] at hφ; cases hφ
  | some s =>
    simp only [q] at hφ
    cases s with
    | val d =>
      cases hφ
      obtain ⟨v, h1, h2⟩ := f.val i d q
      exact ⟨v, h1, hQ v F ρ H Ext.refl w h2⟩
    | cell n =>
      cases hφ
      obtain ⟨p, h1, h2⟩ := f.cel i n q
      exact ⟨.ref p, h1, hQ _ F ρ H Ext.refl w ⟨p, rfl, h2⟩⟩
    | _ => cases hφ
/-- a new cell -/
theorem new_cell {c : Ct} {v : V} (x : Ext F ρ H F' ρ' H') (w : Wo C m' F' ρ' H') (h : RvOk C H F' H' ρ' (.f c) v) :
    ∃ p, v = .ref p ∧ Ext F ρ H F' (ρ' ++ [p]) H' ∧ Wo C (m' ++ [c]) F' (ρ' ++ [p]) H' ∧ (ρ' ++ [p])[m'.length]? = some p := by
  obtain ⟨p, rfl, h1, h2, h3, h4⟩ := h
  have hl : ρ'.length = m'.length := w.len
  refine ⟨p, rfl, ⟨x.sF, x.sR.trans (List.prefix_append _ _), x.kp, x.nF, fun b hb => ?_, x.th⟩, ⟨w.same, by simp [hl], ?_, fun b hb => ?_, fun n d e => ?_⟩, ?_⟩
  · rcases List.mem_append.mp hb with z | z
    · exact x.nR b z
    · have : b = p := by simpa using z
      subst this
      exact .inr h4
  · exact List.nodup_append.mpr ⟨w.nd, by simp, fun b hb d hd => by
      have : d = p := by simpa using hd
      subst this
      rintro rfl
      exact h3 hb⟩
  · rcases List.mem_append.mp hb with z | z
    · exact w.nf b z
    · have : b = p := by simpa using z
      subst this
      exact h2
  · by_cases hn : n < m'.length
    · rw [List.getElem?_append_left hn] at e
      obtain ⟨b, e1, g⟩ := w.at_ n d e
      exact ⟨b, by rw [List.getElem?_append_left (by omega)]; exact e1, g⟩
    · rw [List.getElem?_append_right (by omega)] at e
      have hn0 : n - m'.length = 0 := by
        cases q : n - m'.length with
        | zero => rfl
        | succ k => rw [q] at e; simp at e
      rw [hn0] at e
      have e' : c = d := by simpa using e
      subst e'
      refine ⟨p, ?_, h1⟩
      rw [List.getElem?_append_right (by omega), hl, hn0]
      rfl
  · rw [List.getElem?_append_right (by omega), hl, Nat.sub_self]
    rfl
theorem sa_ex {φ : Fr → Mem → R Rv} (ha : SX C X a φ) : SA C X a (fun env m => (φ env m).bind argOf) := by
  intro env m r m' hφ σ F ρ H H0 f w Q hQ
  obtain ⟨v, m1, e1, h1⟩ := R.bind_eq_ok hφ
  refine ha env m v m1 e1 σ F ρ H H0 f w _ fun u F' ρ' H' x' w' r' => ?_
  cases v with
  | d d => cases h1; exact hQ u F' ρ' H' x' w' r'
  | f c =>
    cases c with
    | lst ds =>
      cases h1
      obtain ⟨F2, x2, w2, rp⟩ := RvOk.dat (d := .lst ds) rfl x' w' r'
      exact hQ u F2 ρ' H' x2 w2 rp
    | dk kvs =>
      cases h1
      obtain ⟨p, rfl, x2, w2, e2⟩ := new_cell x' w' r'
      exact hQ _ F' _ H' x2 w2 ⟨p, rfl, e2⟩
    | dx kvs =>
      cases h1
      obtain ⟨p, rfl, x2, w2, e2⟩ := new_cell x' w' r'
      exact hQ _ F' _ H' x2 w2 ⟨p, rfl, e2⟩
    | obj fs => cases h1
/-- what a def promises: what the evaluator's call says -/
def spF (C : Cf) (cf : CF) (f : Nat) : Sp := fun vs H Q _ => ∃ as m r m' F ρ, cf f as m = .ok r m' ∧ Wo C m F ρ H ∧ Ags C F ρ as vs ∧
  ∀ v F' ρ' H', Ext F ρ H F' ρ' H' → Wo C m' F' ρ' H' → RvOk C H F' H' ρ' r v → Q v H'
/-- the cells of the call are forgotten -/
theorem Wo.cut (w0 : Wo C m F ρ H) (x : Ext F ρ H F' ρ' H') (w : Wo C m' F' ρ' H') : Ext F ρ H F' ρ H' ∧ Wo C (m'.take m.length) F' ρ H' := by
  obtain ⟨t, ht⟩ := x.sR
  have hl : ρ.length = m.length := w0.len
  have hl' : ρ'.length = m'.length := w.len
  have hle : m.length ≤ m'.length := by rw [← hl, ← hl', ← ht, List.length_append]; omega
  refine ⟨⟨x.sF, List.prefix_refl _, x.kp, x.nF, fun _ h => .inl h, x.th⟩, ⟨w.same, by rw [List.length_take]; omega, w0.nd, fun b hb => w.nf b (x.sR.subset hb), fun n c e => ?_⟩⟩
  have hn : n < m.length := by
    have := (List.getElem?_eq_some_iff.mp e).1
    rw [List.length_take] at this
    omega
  rw [List.getElem?_take_of_lt hn] at e
  obtain ⟨b, e1, g⟩ := w.at_ n c e
  refine ⟨b, ?_, g⟩
  rw [← ht, List.getElem?_append_left (by omega)] at e1
  exact e1
theorem RvOk.cut {r : Rv} {v : V} (x : Ext F ρ H F' ρ' H') (h : RvOk C H F' H' ρ' r v) : RvOk C H F' H' ρ r v := by
  cases r with
  | d d => exact h
  | f c => obtain ⟨a, e, h1, h2, h3, h4⟩ := h; exact ⟨a, e, h1, h2, fun z => h3 (x.sR.subset z), h4⟩
section
variable {cf : CF} {k f : Nat} {fa : Addr} {fd : FuncData} {ps : List Str} {x : Str} {es : List Expr} {φ : Fr → Mem → R (List Ar)}
theorem Wo.up {n : Nat} (w : Wo C m F ρ H) : ρ.length = m.length := w.len
theorem sx_call (G : FnOk X.prog X.w X.K X.mg X.base (L2.CX X.prog X.w) k fa fd ps (spF C cf f)) (hr : Room k X.A) (hg : Gl X x) (hm : X.mg x = some (.ref fa)) (hk : PySem.W.keepIn X.K (.ref fa) = true) (hb : Binds X.K fd ps [])
    (hd : (x == ("__debug__" : Str)) = false) (ha : SAs C X (a :: es) φ) (hs : starEach (a :: es) X.env = (false, eval a X.env) :: starEach es X.env) (hp : (backTo pos (starEach es X.env)).any (·.1) = false) :
    SX C X (.Call (.Name x p) (a :: es) [] pos) (fun env m => (φ env m).bind fun as m1 => (cf f as m1).bind fun v m2 => .ok v (m2.take m.length)) := by
  obtain ⟨t, pt, st⟩ := ha
  intro env m r m' hφ σ F ρ H H0 fo w Q hQ
  obtain ⟨as, m1, e1, h1⟩ := R.bind_eq_ok hφ
  obtain ⟨v, m2, e2, h2⟩ := R.bind_eq_ok h1
  cases h2
  refine use (L2.pe_call G hr hg hm hk hb .nil L2.passL pt hd hs hp) ?_
  refine st env m as m1 e1 σ F ρ H H0 fo w _ fun vs F1 ρ1 H1 x1 w1 r1 => ?_
  rw [List.append_nil]
  refine ⟨as, m1, _, m2, F1, ρ1, e2, w1, r1, fun v F' ρ' H' x' w' r' => ?_⟩
  obtain ⟨x3, w3⟩ := w.cut (x1.trans x') w'
  exact hQ v F' ρ H' x3 w3 ((r'.back x1).cut (x1.trans x'))
theorem sx_call0 (G : FnOk X.prog X.w X.K X.mg X.base (L2.CX X.prog X.w) k fa fd ps (spF C cf f)) (hr : Room k X.A) (hg : Gl X x) (hm : X.mg x = some (.ref fa)) (hk : PySem.W.keepIn X.K (.ref fa) = true) (hb : Binds X.K fd ps [])
    (hd : (x == ("__debug__" : Str)) = false) :
    SX C X (.Call (.Name x p) [] [] pos) (fun env m => (R.ok ([] : List Ar) m).bind fun as m1 => (cf f as m1).bind fun v m2 => .ok v (m2.take m.length)) := by
  intro env m r m' hφ σ F ρ H H0 fo w Q hQ
  obtain ⟨as, m1, e1, h1⟩ := R.bind_eq_ok hφ
  cases e1
  obtain ⟨v, m2, e2, h2⟩ := R.bind_eq_ok h1
  cases h2
  refine use (L2.pe_call0 G hr hg hm hk hb .nil L2.passL hd) ?_
  refine ⟨[], m, _, m2, F, ρ, e2, w, .nil, fun v F' ρ' H' x' w' r' => ?_⟩
  obtain ⟨x3, w3⟩ := w.cut x' w'
  exact hQ v F' ρ H' x3 w3 (r'.cut x')
end

/-! ### built-ins -/
inductive Cal | b (id : String) | t (id : String)
def Cal.val : Cal → Value
  | .b id => .builtin id
  | .t id => .type id
def calB : Bi → Cal
  | .len => .b "len" | .abs => .b "abs" | .int => .t "int" | .bool => .t "bool" | .min => .b "min" | .max => .b "max" | .sum => .b "sum" | .all => .b "all" | .any => .b "any"
  | .list => .t "list" | .tuple => .t "tuple" | .sorted => .b "sorted" | .str => .t "str" | .lenset => .b "len" | .sortset => .b "sorted"
abbrev Vas (C : Cf) (F H : Hp) (xs : List Vw) (vs : List V) : Prop := Paired (fun x v => VaOk C F H x v) xs vs
def Bi2 (C : Cf) (X : Cx) (f : Value) (m : Mem) (F : Hp) (ρ : List Addr) (H : Hp) (vs : List V) (r : Rv) : Prop :=
  ∃ rr : List V → Hp → VK → Prop, CallR X f rr ∧ ∀ Q : VK, (∀ z F' ρ' H', Ext F ρ H F' ρ' H' → Wo C m F' ρ' H' → RvOk C H F' H' ρ' r z → Q z H') → rr vs H Q
theorem Vas.one {x : Vw} {vs : List V} (h : Vas C F H [x] vs) : ∃ v, vs = [v] ∧ VaOk C F H x v := by
  cases h with
  | cons h t => cases t; exact ⟨_, rfl, h⟩
theorem Vas.two {x y : Vw} {vs : List V} (h : Vas C F H [x, y] vs) : ∃ v u, vs = [v, u] ∧ VaOk C F H x v ∧ VaOk C F H y u := by
  cases h with
  | cons h t => cases t with
    | cons h2 t => cases t; exact ⟨_, _, rfl, h, h2⟩
theorem minI_le : ∀ (xs : List Int) (m : Int), minI m xs ≤ m ∧ (∀ y ∈ xs, minI m xs ≤ y) ∧ (minI m xs = m ∨ minI m xs ∈ xs)
  | [], m => ⟨Int.le_refl _, ⟨fun y (h : y ∈ ([] : List Int)) => by simp at h, Or.inl rfl⟩⟩
  | x :: xs, m => by
    unfold minI
    by_cases h : x < m
    · rw [if_pos h]
      obtain ⟨h1, h2, h3⟩ := minI_le xs x
      refine ⟨by omega, fun y hy => ?_, ?_⟩
      · rcases List.mem_cons.mp hy with e | hy
        · subst e; exact h1
        · exact h2 y hy
      · rcases h3 with h3 | h3
        · exact .inr (by rw [h3]; exact List.mem_cons_self)
        · exact .inr (List.mem_cons_of_mem _ h3)
    · rw [if_neg h]
      obtain ⟨h1, h2, h3⟩ := minI_le xs m
      refine ⟨h1, fun y hy => ?_, ?_⟩
      · rcases List.mem_cons.mp hy with e | hy
        · subst e; omega
        · exact h2 y hy
      · rcases h3 with h3 | h3
        · exact .inl h3
        · exact .inr (List.mem_cons_of_mem _ h3)
theorem maxI_le : ∀ (xs : List Int) (m : Int), m ≤ maxI m xs ∧ (∀ y ∈ xs, y ≤ maxI m xs) ∧ (maxI m xs = m ∨ maxI m xs ∈ xs)
  | [], m => ⟨Int.le_refl _, ⟨fun y (h : y ∈ ([] : List Int)) => by simp at h, Or.inl rfl⟩⟩
  | x :: xs, m => by
    unfold maxI
    by_cases h : m < x
    · rw [if_pos h]
      obtain ⟨h1, h2, h3⟩ := maxI_le xs x
      refine ⟨by omega, fun y hy => ?_, ?_⟩
      · rcases List.mem_cons.mp hy with e | hy
        · subst e; exact h1
        · exact h2 y hy
      · rcases h3 with h3 | h3
        · exact .inr (by rw [h3]; exact List.mem_cons_self)
        · exact .inr (List.mem_cons_of_mem _ h3)
    · rw [if_neg h]
      obtain ⟨h1, h2, h3⟩ := maxI_le xs m
      refine ⟨h1, fun y hy => ?_, ?_⟩
      · rcases List.mem_cons.mp hy with e | hy
        · subst e; omega
        · exact h2 y hy
      · rcases h3 with h3 | h3
        · exact .inl h3
        · exact .inr (List.mem_cons_of_mem _ h3)
theorem minI_eq {x : Int} {xs : List Int} {k : Int} (h1 : k ∈ x :: xs) (h2 : ∀ y, y ∈ x :: xs → k ≤ y) : k = minI x xs := by
  obtain ⟨a1, a2, a3⟩ := minI_le xs x
  have b1 : minI x xs ∈ x :: xs := by
    rcases a3 with e | e
    · rw [e]; exact List.mem_cons_self
    · exact List.mem_cons_of_mem _ e
  have b2 := h2 _ b1
  rcases List.mem_cons.mp h1 with e | e
  · subst e; omega
  · have := a2 _ e; omega
theorem maxI_eq {x : Int} {xs : List Int} {k : Int} (h1 : k ∈ x :: xs) (h2 : ∀ y, y ∈ x :: xs → y ≤ k) : k = maxI x xs := by
  obtain ⟨a1, a2, a3⟩ := maxI_le xs x
  have b1 : maxI x xs ∈ x :: xs := by
    rcases a3 with e | e
    · rw [e]; exact List.mem_cons_self
    · exact List.mem_cons_of_mem _ e
  have b2 := h2 _ b1
  rcases List.mem_cons.mp h1 with e | e
  · subst e; omega
  · have := a2 _ e; omega
theorem putS_perm (x : Int) : ∀ ys : List Int, (putS x ys).Perm (x :: ys)
  | [] => .refl _
  | y :: ys => by
    unfold putS
    split
    · exact .refl _
    · exact ((putS_perm x ys).cons y).trans (List.Perm.swap x y ys)
theorem sortI_perm : ∀ xs : List Int, (sortI xs).Perm xs
  | [] => .refl _
  | x :: xs => (putS_perm x _).trans ((sortI_perm xs).cons x)
theorem putS_sorted (x : Int) : ∀ ys : List Int, ys.Pairwise (· ≤ ·) → (putS x ys).Pairwise (· ≤ ·)
  | [], _ => by simp [putS]
  | y :: ys, h => by
    unfold putS
    rw [List.pairwise_cons] at h
    split
    · rename_i hxy
      rw [List.pairwise_cons]
      refine ⟨fun z hz => ?_, List.pairwise_cons.mpr h⟩
      rcases List.mem_cons.mp hz with e | hz
      · subst e; exact hxy
      · exact Int.le_trans hxy (h.1 z hz)
    · rename_i hxy
      rw [List.pairwise_cons]
      refine ⟨fun z hz => ?_, putS_sorted x ys h.2⟩
      rcases List.mem_cons.mp ((putS_perm x ys).subset hz) with e | hz
      · subst e; omega
      · exact h.1 z hz
theorem sortI_sorted : ∀ xs : List Int, (sortI xs).Pairwise (· ≤ ·)
  | [] => List.Pairwise.nil
  | x :: xs => putS_sorted x _ (sortI_sorted xs)
theorem sorted_uniq : ∀ {xs ys : List Int}, xs.Perm ys → xs.Pairwise (· ≤ ·) → ys.Pairwise (· ≤ ·) → xs = ys
  | [], ys, p, _, _ => (List.Perm.nil_eq p)
  | x :: xs, [], p, _, _ => by have := p.length_eq; simp at this
  | x :: xs, y :: ys, p, h1, h2 => by
    rw [List.pairwise_cons] at h1 h2
    have e : x = y := by
      have a1 : x ∈ y :: ys := p.subset List.mem_cons_self
      have a2 : y ∈ x :: xs := p.symm.subset List.mem_cons_self
      rcases List.mem_cons.mp a1 with e | e
      · exact e
      · rcases List.mem_cons.mp a2 with e' | e'
        · exact e'.symm
        · have := h1.1 _ e'; have := h2.1 _ e; omega
    subst e
    rw [sorted_uniq (List.Perm.cons_inv p) h1.2 h2.2]
theorem sortI_eq {xs ys : List Int} (p : ys.Perm xs) (h : ys.Pairwise (· ≤ ·)) : ys = sortI xs := sorted_uniq (p.trans (sortI_perm xs).symm) h (sortI_sorted xs)
/-- len of a dict whose keys are tuples -/
theorem call_lenX (hK : X.K = C.K) (hw : X.w = C.w) : CallR X (.builtin "len") (fun xs H Q => ∃ (p : Addr) (kvs : List (D × D)) (es : List (NestedKey × Addr × V)) (F : Hp), xs = [V.ref p] ∧ Same F H ∧ H p = some (dxO C.w p es) ∧ Paired (DZ C F) kvs es ∧ kvs.length ≤ sizeLine ∧ Q (.int kvs.length) H) := by
  intro pins s σ H xs us Q I r h
  obtain ⟨p, kvs, es, F, rfl, sm, h1, h2, hz, q⟩ := h
  cases r with
  | cons r1 r2 =>
    cases r2
    cases r1
    obtain ⟨hd, zs, hp, dd⟩ := dx_dict I hK hw sm h1 h2
    have hl : kvs.length = zs.length := (Paired.length h2).trans (Paired.length hp)
    have dk : s.heap.DictKeyed (nestedKind X.prog X.w) p (pairsH zs) := ⟨zs, dd, rfl⟩
    have hpl : (pairsH zs).length = zs.length := by simp [pairsH]
    have hz' : zs.length ≤ 16777216 := by rw [← hl, ← sizeLine_eq]; exact hz
    refine PyProof.Rows.call_len_slot (n := (pairsH zs).length) dk.typeIs PySem.F.slot_dict_len (fun Q' hq => len_keyed hd dk hq) (by omega) (by rw [hpl]; omega) ?_
    rw [hpl, ← hl]
    exact ⟨.int kvs.length, H, I.tok _, ⟨_, rfl⟩, q⟩
theorem dk_keys {kvs : List (D × D)} {ps : List (Key × V)} (g : Paired (fun (p : D × D) (q : Key × V) => p.1 = keyD q.1 ∧ Rep C F p.2 q.2) kvs ps) : Reps C F (kvs.map (·.1)) (ps.map fun kv => kV kv.1) := by
  induction g with
  | nil => exact Reps.nil
  | @cons a b _ _ h t ih =>
    refine Reps.cons ?_ ih
    show Rep C F a.1 (kV b.1)
    rw [h.1]
    cases hq : b.1 with
    | inl i => show Rep C F (.int i) (.int i); unfold Rep; rfl
    | inr i => show Rep C F (.str i) (.str i); unfold Rep; rfl
theorem bi_ok (hK : X.K = C.K) (hw : X.w = C.w) (hc : X.calm = true) {bi : Bi} {xs : List Vw} {vs : List V} {r : Rv} (e : biV bi xs = some r) (w : Wo C m F ρ H) (hx : Vas C F H xs vs) : Bi2 C X (calB bi).val m F ρ H vs r := by
  have finI : ∀ {i : Int} {Q : VK}, (∀ z F' ρ' H', Ext F ρ H F' ρ' H' → Wo C m F' ρ' H' → RvOk C H F' H' ρ' (.d (.int i)) z → Q z H') → Q (.int i) H := fun {i Q} q => q _ F ρ H Ext.refl w (by show Rep C F (.int _) _; unfold Rep; rfl)
  have finB : ∀ {i : Bool} {Q : VK}, (∀ z F' ρ' H', Ext F ρ H F' ρ' H' → Wo C m F' ρ' H' → RvOk C H F' H' ρ' (.d (.bl i)) z → Q z H') → Q (.bl i) H := fun {i Q} q => q _ F ρ H Ext.refl w (by show Rep C F (.bl _) _; unfold Rep; rfl)
  have int_of : ∀ {i : Int} {v : V}, VaOk C F H (.d (.int i)) v → v = .int i := fun {i v} h => by
    have h' : Rep C F (.int i) v := h
    unfold Rep at h'
    exact h'
  unfold biV at e
  split at e
  · -- len
    rename_i x
    obtain ⟨v, rfl, h⟩ := Vas.one hx
    obtain ⟨n, e1, rfl⟩ := Option.map_eq_some_iff.mp e
    unfold lenV at e1
    split at e1
    · rename_i z
      split at e1
      · rename_i hz
        cases e1
        have h' : Rep C F (.str z) v := h
        unfold Rep at h'
        subst h'
        exact ⟨_, L2.call_len_str, fun Q q => ⟨z, rfl, lenOk_le hz, finI q⟩⟩
      · cases e1
    · cases hs : x.seq with
      | some p =>
        obtain ⟨t, ds⟩ := p
        rw [hs] at e1
        cases e1
        obtain ⟨p, vs, rfl, g1, g2⟩ := h.seqA hs w.same
        refine ⟨_, L2.call_len_seq, fun Q q => ⟨p, vs, rfl, hK ▸ g1, ?_⟩⟩
        rw [← g2.length]
        exact finI q
      | none =>
        rw [hs] at e1
        dsimp only at e1
        cases x with
        | c c =>
          obtain ⟨p, rfl, g⟩ := h
          cases c with
          | lst _ => cases hs
          | obj _ => cases e1
          | dk kvs =>
            cases e1
            obtain ⟨ps, g1, g2⟩ := g
            refine ⟨_, L2.call_lenD, fun Q q => ⟨p, ps, rfl, g1, ?_⟩⟩
            rw [← Paired.length g2]
            exact finI q
          | dx kvs =>
            dsimp only [lenV] at e1
            split at e1
            · rename_i hz
              cases e1
              obtain ⟨es, g1, g2⟩ := g
              exact ⟨_, call_lenX hK hw, fun Q q => ⟨p, kvs, es, F, rfl, w.same, g1, g2, lenOk_le hz, finI q⟩⟩
            · cases e1
        | d _ => cases e1
        | r _ => cases e1
  · -- abs
    cases e
    obtain ⟨v, rfl, h⟩ := Vas.one hx
    cases int_of h
    exact ⟨_, L2.call_abs, fun Q q => ⟨_, rfl, finI q⟩⟩
  · cases e
    obtain ⟨v, rfl, h⟩ := Vas.one hx
    cases int_of h
    exact ⟨_, L2.call_int1, fun Q q => .inl ⟨_, rfl, finI q⟩⟩
  · cases e
    obtain ⟨v, rfl, h⟩ := Vas.one hx
    have h' : Rep C F (.bl _) v := h
    unfold Rep at h'
    subst h'
    exact ⟨_, L2.call_int1, fun Q q => .inr ⟨_, rfl, finI q⟩⟩
  · cases e
    obtain ⟨v, u, rfl, h1, h2⟩ := Vas.two hx
    cases int_of h1
    cases int_of h2
    exact ⟨_, L2.call_min2 hc, fun Q q => ⟨_, _, rfl, finI q⟩⟩
  · cases e
    obtain ⟨v, u, rfl, h1, h2⟩ := Vas.two hx
    cases int_of h1
    cases int_of h2
    exact ⟨_, L2.call_max2 hc, fun Q q => ⟨_, _, rfl, finI q⟩⟩
  · split at e
    · rename_i ds hs
      split at e
      · rename_i y ys hi
        cases e
        obtain ⟨v, rfl, h⟩ := Vas.one hx
        obtain ⟨p, vs, rfl, g1, g2⟩ := h.seqL hs w.same
        obtain ⟨rfl, _⟩ := g2.intsOf hi
        refine ⟨_, L2.cr_min hc, fun Q q => ⟨p, _, rfl, hK ▸ g1, by simp, fun k k1 k2 => ?_⟩⟩
        rw [minI_eq k1 k2]
        exact finI q
      · cases e
    · cases e
  · split at e
    · rename_i ds hs
      split at e
      · rename_i y ys hi
        cases e
        obtain ⟨v, rfl, h⟩ := Vas.one hx
        obtain ⟨p, vs, rfl, g1, g2⟩ := h.seqL hs w.same
        obtain ⟨rfl, _⟩ := g2.intsOf hi
        refine ⟨_, L2.cr_max hc, fun Q q => ⟨p, _, rfl, hK ▸ g1, by simp, fun k k1 k2 => ?_⟩⟩
        rw [maxI_eq k1 k2]
        exact finI q
      · cases e
    · cases e
  · split at e
    · rename_i t ds hs
      obtain ⟨ns, hi, rfl⟩ := Option.map_eq_some_iff.mp e
      obtain ⟨v, rfl, h⟩ := Vas.one hx
      cases t with
      | false =>
        obtain ⟨p, vs, rfl, g1, g2⟩ := h.seqL hs w.same
        obtain ⟨rfl, _⟩ := g2.intsOf hi
        exact ⟨_, L2.cr_sum hc, fun Q q => ⟨p, _, rfl, hK ▸ g1, finI q⟩⟩
      | true =>
        obtain ⟨p, vs, rfl, g1, g2⟩ := h.seqT hs w.same
        obtain ⟨rfl, _⟩ := g2.intsOf hi
        exact ⟨_, cr_sumT hc, fun Q q => ⟨p, _, rfl, hK ▸ g1, finI q⟩⟩
    · cases e
  · split at e
    · rename_i ds hs
      obtain ⟨ns, hi, rfl⟩ := Option.map_eq_some_iff.mp e
      obtain ⟨v, rfl, h⟩ := Vas.one hx
      obtain ⟨p, vs, rfl, g1, g2⟩ := h.seqL hs w.same
      cases g2.blsOf hi
      exact ⟨_, L2.cr_all hc, fun Q q => ⟨p, _, rfl, hK ▸ g1, finB q⟩⟩
    · cases e
  · split at e
    · rename_i ds hs
      obtain ⟨ns, hi, rfl⟩ := Option.map_eq_some_iff.mp e
      obtain ⟨v, rfl, h⟩ := Vas.one hx
      obtain ⟨p, vs, rfl, g1, g2⟩ := h.seqL hs w.same
      cases g2.blsOf hi
      exact ⟨_, L2.cr_any hc, fun Q q => ⟨p, _, rfl, hK ▸ g1, finB q⟩⟩
    · cases e
  · -- list
    rename_i x
    obtain ⟨ds, e1, rfl⟩ := Option.map_eq_some_iff.mp e
    obtain ⟨v, rfl, h⟩ := Vas.one hx
    unfold Vw.keys at e1
    cases hs : x.seq with
    | some p =>
      obtain ⟨t, ds'⟩ := p
      rw [hs] at e1
      cases e1
      obtain ⟨p, vs, rfl, g1, g2⟩ := h.seqA hs w.same
      refine ⟨_, L2.call_list_of, fun Q q => ⟨p, vs, rfl, hK ▸ g1, fun l hl => ?_⟩⟩
      obtain ⟨x', w', r'⟩ := alloc_lst w g2 hl
      exact q _ F ρ _ x' w' r'
    | none =>
      rw [hs] at e1
      dsimp only at e1
      cases x with
      | c c =>
        obtain ⟨p, rfl, g⟩ := h
        cases c with
        | lst _ => cases hs
        | obj _ => cases e1
        | dx kvs => cases e1
        | dk kvs =>
          cases e1
          obtain ⟨ps, g1, g2⟩ := g
          refine ⟨_, L2.call_list_dK hc, fun Q q => ⟨p, ps, rfl, g1, fun l hl => ?_⟩⟩
          have rr := dk_keys g2
          obtain ⟨x', w', r'⟩ := alloc_lst w rr hl
          exact q _ F ρ _ x' w' r'
      | d _ => cases e1
      | r _ => cases e1
  · -- tuple
    rename_i x
    split at e
    · rename_i t ds hs
      cases e
      obtain ⟨v, rfl, h⟩ := Vas.one hx
      cases t with
      | true =>
        obtain ⟨p, vs, rfl, g1, g2⟩ := h.seqT hs w.same
        refine ⟨_, L2.call_tuple_of, fun Q q => ⟨p, vs, rfl, .inr ⟨hK ▸ g1, q _ F ρ H Ext.refl w ?_⟩⟩⟩
        cases x with
        | d d => cases d with
          | tup es => cases hs; exact h
          | _ => cases hs
        | c c => cases c <;> cases hs
        | r n => cases hs
      | false =>
        obtain ⟨p, vs, rfl, g1, g2⟩ := h.seqL hs w.same
        refine ⟨_, L2.call_tuple_of, fun Q q => ⟨p, vs, rfl, .inl ⟨hK ▸ g1, fun l hl => ?_⟩⟩⟩
        obtain ⟨F', x', w', r'⟩ := alloc_tup w g2 hl
        exact q _ F' ρ _ x' w' r'
    · cases e
  · -- sorted
    split at e
    · rename_i ds hs
      split at e
      · rename_i ns hi
        split at e
        · rename_i h64
          cases e
          obtain ⟨v, rfl, h⟩ := Vas.one hx
          obtain ⟨p, vs, rfl, g1, g2⟩ := h.seqL hs w.same
          obtain ⟨rfl, _⟩ := g2.intsOf hi
          refine ⟨_, L2.cr_sorted, fun Q q => ⟨p, _, rfl, hK ▸ g1, of_decide_eq_true h64, fun ns' l hp hs' hl => ?_⟩⟩
          rw [sortI_eq hp hs']
          obtain ⟨x', w', r'⟩ := alloc_lst w (Reps.ints (ns := sortI ns)) hl
          exact q _ F ρ _ x' w' r'
        · cases e
      · cases e
    · cases e
  · cases e
section
variable {x : Str} {es : List Expr} {φ : Fr → Mem → R (List Vw)}
theorem sx_bi (hK : X.K = C.K) (hw : X.w = C.w) (hc : X.calm = true) {bi : Bi} {cl : Cal} (hcl : calB bi = cl) (hg : Gl X x) (hm : X.mg x = none) (hv : bootBuiltins x = some cl.val) (hn : x ≠ "__name__") (hd : (x == ("__debug__" : Str)) = false) (ha : SVs C X (a :: es) φ)
    (hs : starEach (a :: es) X.env = (false, eval a X.env) :: starEach es X.env) (hp : (backTo pos (starEach es X.env)).any (·.1) = false) :
    SX C X (.Call (.Name x p) (a :: es) [] pos) (fun env m => (φ env m).bind fun as m1 => opt (biV bi (as.map (Vw.at m1))) m1) := by
  obtain ⟨t, pt, st⟩ := ha
  intro env m r m' hφ σ F ρ H H0 fo w Q hQ
  obtain ⟨as, m1, e1, h1⟩ := R.bind_eq_ok hφ
  obtain ⟨e2, q2⟩ := opt_eq_ok h1
  subst q2
  let RR : List V → Hp → VK → Prop := fun vs H2 Q2 => ∃ rr : List V → Hp → VK → Prop, CallR X cl.val rr ∧ rr vs H2 Q2
  have hRR : CallR X cl.val RR := fun pins s σ H xs us Q I r ⟨rr, ho, q⟩ => ho pins s σ H xs us Q I r q
  have fin : t σ H fun vs H2 => RR vs H2 Q := by
    refine st env m as _ e1 σ F ρ H H0 fo w _ fun vs F1 ρ1 H1 x1 w1 r1 => ?_
    obtain ⟨rr, ho, hq⟩ := bi_ok (X := X) hK hw hc e2 w1 (r1.now w1)
    rw [hcl] at ho
    exact ⟨rr, ho, hq Q fun z F' ρ' H' x' w' r' => hQ z F' ρ' H' (x1.trans x') w' (r'.back x1)⟩
  cases cl with
  | b id => exact use (L2.pe_callB hRR hg hm hv pt hn hd hs hp) fin
  | t id => exact use (L2.pe_callTy hRR hg hm hv pt hn hd hs hp) fin
end
end
end Ev

set_option linter.all false
set_option maxRecDepth 100000
/-! Ev9: what is walked; targets. -/
namespace Ev
open PySem PySem.Spec PyProof.Rows
open L2 (Hp HO V Cx Inv SqL SqT Same upd upd_same upd_ne TE VK PE PT PA PS PSs PG PGs PI PIE Key kV EP SP TP Rd RelV Vis Loc Gl OpR R2 UnR CallR Dp DpAll Sp FnOk Room Binds XK)
open L2 (tOp tUn pe_op pe_un thn rI rI0 rU IxR PlainIx SlR TA TI TG Itl Itt Itr Itv gName gNil gCons gTup)

section
variable {C : Cf} {X : Cx} {F F' F1 F2 H H' H1 H2 H0 : Hp} {ρ ρ' ρ1 ρ2 : List Addr} {m m' m1 m2 : Mem} {env : Fr} {σ : L2.St} {a b c tg it : Expr} {φa φb : Fr → Mem → R Vw} {pos p2 p : Pos}

/-- a walk J that yields xs -/
def JOk (C : Cf) (J : L2.It) (xs : List D) (P : Hp → List Addr → Hp → Prop) : Prop :=
  ∀ (m : Mem) (F : Hp) (ρ : List Addr) (H : Hp), P F ρ H → Wo C m F ρ H → ∀ i : Nat,
    (∀ d, xs[i]? = some d → J.go i H ∧ ∀ x H', J.yld i H x H' → ∃ F', Ext F ρ H F' ρ H' ∧ Wo C m F' ρ H' ∧ Rep C F' d x) ∧ (i = xs.length → J.stop i H)
def walkP (fz : Bool) (F1 : Hp) (ρ1 : List Addr) (H1 : Hp) (F : Hp) (ρ : List Addr) (H : Hp) : Prop := if fz = true then Same F1 F else Ext F1 ρ1 H1 F ρ H
theorem walkP.same {fz : Bool} (h : walkP fz F1 ρ1 H1 F ρ H) : Same F1 F := by
  unfold walkP at h
  split at h
  · exact h
  · exact h.sF
def wpI (X : Cx) (tg it : Expr) : TI := fun σ H R => ∀ pins s, Inv X pins σ H s →
  wpAny (model X.prog X.w) X.A (eval it X.env) (fun v s1 => wpAny (model X.prog X.w) X.A (pyIter v) (PIE X pins σ tg R) X.xe s1) X.xe s
theorem pI : PI X tg it (wpI X tg it) := ⟨fun pins s σ H R I h => h pins s I⟩
theorem useI {t : TI} (h : PI X tg it t) {σ : L2.St} {H : Hp} {R : L2.It → Hp → Prop} (q : t σ H R) : wpI X tg it σ H R := fun pins s I => h.run pins s σ H R I q
/-- it is walked as φ says; fz: the loop's body may write -/
def SI (C : Cf) (X : Cx) (tg it : Expr) (fz : Bool) (φ : Fr → Mem → R (List D)) : Prop :=
  ∀ (env : Fr) (m : Mem) (xs : List D) (m' : Mem), φ env m = .ok xs m' → ∀ (σ : L2.St) (F : Hp) (ρ : List Addr) (H H0 : Hp), FrOk C env σ F H ρ H0 → Wo C m F ρ H →
    ∀ R : L2.It → Hp → Prop, (∀ J F' ρ' H', Ext F ρ H F' ρ' H' → Wo C m' F' ρ' H' → JOk C J xs (walkP fz F' ρ' H') → R J H') → wpI X tg it σ H R
theorem ext0 (w : Wo C m F ρ H) {d : D} {x : V} (r : Rep C F d x) : ∃ F', Ext F ρ H F' ρ H ∧ Wo C m F' ρ H ∧ Rep C F' d x := ⟨F, Ext.refl, w, r⟩
theorem jok_range (lo : Int) (n : Nat) (P : Hp → List Addr → Hp → Prop) : JOk C (Itr lo n) (rangeL lo n) P := by
  intro m F ρ H hP w i
  refine ⟨fun d e => ?_, fun e => ?_⟩
  · unfold rangeL at e
    rw [List.getElem?_map] at e
    obtain ⟨j, e1, rfl⟩ := Option.map_eq_some_iff.mp e
    obtain ⟨hj, e2⟩ := List.getElem?_eq_some_iff.mp e1
    have hj' : i < n := by simpa using hj
    have e3 : i = j := by simpa using e2
    subst e3
    refine ⟨hj', fun x H' ⟨e4, e5⟩ => ?_⟩
    subst e4 e5
    exact ext0 w (by unfold Rep; rfl)
  · subst e
    show n ≤ (rangeL lo n).length
    simp [rangeL]
theorem si_rng {es : List Expr} {fz : Bool} {φ : Fr → Mem → R (List D)} (hg : Gl X "range") (hm : X.mg "range" = none) (h : SDs C X es φ)
    (hs : es.length = 1 ∧ (∃ a, es = [a] ∧ starEach [a] X.env = [(false, eval a X.env)]) ∨ ∃ a b, es = [a, b] ∧ starEach [a, b] X.env = [(false, eval a X.env), (false, eval b X.env)] ∧ starEach [b] X.env = [(false, eval b X.env)])
    (hln : ∀ env m ds m1, φ env m = .ok ds m1 → ds.length = es.length) :
    SI C X tg (.Call (.Name "range" p) es [] pos) fz (fun env m => (φ env m).bind fun ds m1 => opt (rngV ds) m1) := by
  obtain ⟨t, pt, st⟩ := h
  intro env m xs m' hφ σ F ρ H H0 f w RR hR
  obtain ⟨ds, m1, e1, h1⟩ := R.bind_eq_ok hφ
  obtain ⟨e2, rfl⟩ := opt_eq_ok h1
  have hl := hln _ _ _ _ e1
  rcases hs with ⟨_, a, rfl, hs⟩ | ⟨a, b, rfl, hs1, hs2⟩
  · refine useI (L2.pi_range1 hg hm pt hs) ?_
    refine st env m ds _ e1 σ F ρ H H0 f w _ fun vs F1 ρ1 H1 x1 w1 r1 => ?_
    match ds, hl with
    | [d], _ =>
      cases d with
      | int j =>
        obtain ⟨rfl, _⟩ := r1.intsOf (ns := [j]) rfl
        simp only [rngV] at e2
        split at e2
        · rename_i hj
          simp only [Bool.and_eq_true, decide_eq_true_eq] at hj
          cases e2
          exact ⟨j, rfl, hj.1.1, hj.1.2, hR _ F1 ρ1 H1 x1 w1 (jok_range _ _ _)⟩
        · cases e2
      | _ => cases e2
  · refine useI (L2.pi_range2 hg hm pt hs1 hs2) ?_
    refine st env m ds _ e1 σ F ρ H H0 f w _ fun vs F1 ρ1 H1 x1 w1 r1 => ?_
    match ds, hl with
    | [d, d'], _ =>
      cases d with
      | int i =>
        cases d' with
        | int j =>
          obtain ⟨rfl, _⟩ := r1.intsOf (ns := [i, j]) rfl
          simp only [rngV] at e2
          split at e2
          · rename_i hj
            simp only [Bool.and_eq_true, decide_eq_true_eq] at hj
            cases e2
            exact ⟨i, j, rfl, ⟨hj.1.1, hj.1.2.1, hj.1.2.2.1, hj.1.2.2.2⟩, hR _ F1 ρ1 H1 x1 w1 (jok_range _ _ _)⟩
          · cases e2
        | _ => cases e2
      | _ => cases e2
/-- a list or a tuple, whichever it is -/
def iAny (K : PySem.W.Frag) (tl : TE) : TI := fun σ H R => tl σ H fun x H1 => ∃ a, x = .ref a ∧ (((∃ xs, SqL K H1 a xs) ∧ R (Itl K a) H1) ∨ ((∃ xs, SqT K H1 a xs) ∧ R (Itt K a) H1))
/-- an iterator laid at the heap's end -/
theorem new_iter {tg : Expr} {pins : List (Addr × Obj)} {s1 : Shared} {R : L2.It → Hp → Prop} {u : Obj} {J : L2.It} {tn : Nat → Heap → Prop} (I : Inv X pins σ H1 s1) (T : L2.Turn X.prog X.w X.K tg J [s1.heap.objs.size] s1.heap.objs.size tn)
    (h0 : tn 0 (s1.heap.push u)) (q : R J H1) : L2.PIE X pins σ tg R (.ref s1.heap.objs.size) { s1 with heap := s1.heap.push u } :=
  ⟨_, _, tn, J, H1, rfl, I.kept (t' := s1.toks) fun _ _ => Heap.get?_push_of_some _, T, h0,
    fun b hb => (List.mem_singleton.mp hb).symm ▸ I.fpOk (Nat.le_refl s1.heap.objs.size) (I.hok.fresh (Nat.le_refl s1.heap.objs.size)), q⟩
theorem pi_any {l : Expr} {tl : TE} (hl : PE X l tl) : PI X tg l (iAny X.K tl) where
  run pins s σ H R I h := thn (hl.run pins s σ H _ I h) fun v s1 ⟨x, H1, I1, r1, a, ha, q1⟩ => by
    cases ha
    cases r1
    cases q1 with
    | inl q =>
      obtain ⟨⟨xs, hq⟩, q⟩ := q
      obtain ⟨_, _, p, _⟩ := I1.list hq
      exact wpAny_pyIter_list p.isList (new_iter I1 (L2.turn_list a _) ⟨_, Heap.get?_push_size _ rfl, rfl, rfl⟩ q)
    | inr q =>
      obtain ⟨⟨xs, hq⟩, q⟩ := q
      obtain ⟨its, _, p, _⟩ := I1.tuple hq
      exact wpAny_pyIter_tuple (show s1.heap.IsTuple a its.toArray from p) (new_iter I1 (L2.turn_tuple a _) ⟨_, Heap.get?_push_size _ rfl, rfl, rfl⟩ q)
/-- what is walked, as a look: it stays -/
def StOk (C : Cf) (fz : Bool) (F1 : Hp) (ρ1 : List Addr) (H1 : Hp) (x : Vw) (v : V) : Prop := ∀ m F ρ H, walkP fz F1 ρ1 H1 F ρ H → Wo C m F ρ H → VaOk C F H x v
def SS (C : Cf) (X : Cx) (e : Expr) (fz : Bool) (φ : Fr → Mem → R Vw) : Prop :=
  ∀ (env : Fr) (m : Mem) (r : Vw) (m' : Mem), φ env m = .ok r m' → ∀ (σ : L2.St) (F : Hp) (ρ : List Addr) (H H0 : Hp), FrOk C env σ F H ρ H0 → Wo C m F ρ H →
    ∀ Q : VK, (∀ v F' ρ' H', Ext F ρ H F' ρ' H' → Wo C m' F' ρ' H' → StOk C fz F' ρ' H' r v → Q v H') → wpT X e σ H Q
theorem ss_d {φ : Fr → Mem → R D} (h : SD C X a φ) : SS C X a true (fun env m => (φ env m).bind fun d m2 => .ok (.d d) m2) := by
  intro env m r m' hφ σ F ρ H H0 f w Q hQ
  obtain ⟨d, m1, e1, h1⟩ := R.bind_eq_ok hφ
  cases h1
  exact h env m d _ e1 σ F ρ H H0 f w Q fun v F' ρ' H' x' w' r' => hQ v F' ρ' H' x' w' fun m F ρ H hP _ => Rep.mono hP.same r'
theorem ss_v {φ : Fr → Mem → R Vw} (h : SV C X a φ) : SS C X a false φ := by
  intro env m r m' hφ σ F ρ H H0 f w Q hQ
  exact h env m r _ hφ σ F ρ H H0 f w Q fun v F' ρ' H' x' w' r' => hQ v F' ρ' H' x' w' fun m F ρ H hP w2 => by
    have x2 : Ext F' ρ' H' F ρ H := hP
    have r2 := r'.step x2
    cases r with
    | d d => exact r2
    | c c => obtain ⟨p, e, h1, _⟩ := r2; exact ⟨p, e, h1⟩
    | r n => trivial
theorem StOk.step {fz : Bool} {x : Vw} {v : V} (h : StOk C fz F ρ H x v) (e : Ext F ρ H F' ρ' H') : StOk C fz F' ρ' H' x v := fun m F2 ρ2 H2 hP w => by
  refine h m F2 ρ2 H2 ?_ w
  cases fz with
  | true => exact e.sF.trans (show Same F' F2 from hP)
  | false => exact e.trans (show Ext F' ρ' H' F2 ρ2 H2 from hP)
theorem StOk.now {fz : Bool} {x : Vw} {v : V} (h : StOk C fz F ρ H x v) (w : Wo C m F ρ H) : VaOk C F H x v := h m F ρ H (by cases fz; exact Ext.refl; exact Same.refl _) w
theorem si_seq {fz : Bool} {φ : Fr → Mem → R Vw} (hK : X.K = C.K) (h : SS C X a fz φ) : SI C X tg a fz (fun env m => (φ env m).bind fun x m1 => opt (x.seq.map (·.2)) m1) := by
  intro env m xs m' hφ σ F ρ H H0 f w RR hR
  obtain ⟨x, m1, e1, h1⟩ := R.bind_eq_ok hφ
  obtain ⟨e2, rfl⟩ := opt_eq_ok h1
  obtain ⟨⟨t, ds⟩, e3, rfl⟩ := Option.map_eq_some_iff.mp e2
  refine useI (pi_any pT) ?_
  refine h env m x _ e1 σ F ρ H H0 f w _ fun v F' ρ' H' x' w' r' => ?_
  cases t with
  | false =>
    obtain ⟨p, vs, rfl, g1, g2⟩ := (r'.now w').seqL e3 w'.same
    refine ⟨p, rfl, .inl ⟨⟨vs, hK ▸ g1⟩, hR _ F' ρ' H' x' w' ?_⟩⟩
    intro m F ρ H hP w i
    obtain ⟨p', us, e, k1, k2⟩ := (r' m F ρ H hP w).seqL e3 w.same
    cases e
    rw [← hK] at k1
    refine ⟨fun d e => ?_, fun e => ⟨us, k1, by rw [← k2.length, e]; exact Nat.le_refl _⟩⟩
    obtain ⟨u, hu, ru⟩ := k2.get e
    refine ⟨⟨us, u, k1, hu⟩, fun z H2 ⟨e4, e5⟩ => ?_⟩
    subst e4
    have := e5 us k1
    rw [hu] at this
    cases this
    exact ext0 w ru
  | true =>
    obtain ⟨p, vs, rfl, g1, g2⟩ := (r'.now w').seqT e3 w'.same
    refine ⟨p, rfl, .inr ⟨⟨vs, hK ▸ g1⟩, hR _ F' ρ' H' x' w' ?_⟩⟩
    intro m F ρ H hP w i
    obtain ⟨p', us, e, k1, k2⟩ := (r' m F ρ H hP w).seqT e3 w.same
    cases e
    rw [← hK] at k1
    refine ⟨fun d e => ?_, fun e => ⟨us, k1, by rw [← k2.length, e]; exact Nat.le_refl _⟩⟩
    obtain ⟨u, hu, ru⟩ := k2.get e
    refine ⟨⟨us, u, k1, hu⟩, fun z H2 ⟨e4, e5⟩ => ?_⟩
    subst e4
    have := e5 us k1
    rw [hu] at this
    cases this
    exact ext0 w ru
theorem rev_get {α : Type} {xs : List α} {i : Nat} {d : α} (e : xs.reverse[i]? = some d) : i < xs.length ∧ xs[xs.length - 1 - i]? = some d := by
  have h : i < xs.length := by
    have := (List.getElem?_eq_some_iff.mp e).1
    simpa using this
  refine ⟨h, ?_⟩
  rw [List.getElem?_reverse h] at e
  exact e
theorem si_rvs {fz : Bool} {φ : Fr → Mem → R Vw} (hK : X.K = C.K) (hg : Gl X "reversed") (hm : X.mg "reversed" = none) (h : SS C X a fz φ) (hs : starEach [a] X.env = (false, eval a X.env) :: starEach [] X.env) :
    SI C X tg (.Call (.Name "reversed" p) [a] [] pos) fz (fun env m => (φ env m).bind fun x m1 => opt (x.seq.map (·.2.reverse)) m1) := by
  intro env m xs m' hφ σ F ρ H H0 f w RR hR
  obtain ⟨x, m1, e1, h1⟩ := R.bind_eq_ok hφ
  obtain ⟨e2, rfl⟩ := opt_eq_ok h1
  obtain ⟨⟨t, ds⟩, e3, rfl⟩ := Option.map_eq_some_iff.mp e2
  refine useI (RT.pi_revA hg hm pT hs) ?_
  refine h env m x _ e1 σ F ρ H H0 f w _ fun v F' ρ' H' x' w' r' => ?_
  cases t with
  | false =>
    obtain ⟨p, vs, rfl, g1, g2⟩ := (r'.now w').seqL e3 w'.same
    refine ⟨p, vs, rfl, .inl ⟨hK ▸ g1, hR _ F' ρ' H' x' w' ?_⟩⟩
    intro m F ρ H hP w i
    obtain ⟨p', us, e, k1, k2⟩ := (r' m F ρ H hP w).seqL e3 w.same
    cases e
    rw [← hK] at k1
    have hl : vs.length = ds.length := g2.length.symm
    refine ⟨fun d e => ?_, fun e => show vs.length ≤ i by rw [e, hl]; simp⟩
    obtain ⟨hi, e⟩ := rev_get (xs := ds) e
    obtain ⟨u, hu, ru⟩ := k2.get e
    rw [← hl] at hu
    refine ⟨⟨by rw [hl]; exact hi, us, u, k1, hu⟩, fun z H2 ⟨e4, e5⟩ => ?_⟩
    subst e4
    have := e5 us k1
    rw [hu] at this
    cases this
    exact ext0 w ru
  | true =>
    obtain ⟨p, vs, rfl, g1, g2⟩ := (r'.now w').seqT e3 w'.same
    refine ⟨p, vs, rfl, .inr ⟨hK ▸ g1, hR _ F' ρ' H' x' w' ?_⟩⟩
    intro m F ρ H hP w i
    obtain ⟨p', us, e, k1, k2⟩ := (r' m F ρ H hP w).seqT e3 w.same
    cases e
    rw [← hK] at k1
    have hl : vs.length = ds.length := g2.length.symm
    refine ⟨fun d e => ?_, fun e => show vs.length ≤ i by rw [e, hl]; simp⟩
    obtain ⟨hi, e⟩ := rev_get (xs := ds) e
    obtain ⟨u, hu, ru⟩ := k2.get e
    rw [← hl] at hu
    refine ⟨⟨by rw [hl]; exact hi, us, u, k1, hu⟩, fun z H2 ⟨e4, e5⟩ => ?_⟩
    subst e4
    have := e5 us k1
    rw [hu] at this
    cases this
    exact ext0 w ru

/-- two walked together, in new pairs -/
theorem jok_zip {fz t : Bool} {J : L2.It} {ds es : List D} {x y : Vw} {v u : V} {F0 : Hp} {ρ0 : List Addr} {H0 : Hp} (hx : x.seq = some (t, ds)) (hy : y.seq = some (t, es)) (rx : StOk C fz F0 ρ0 H0 x v) (ry : StOk C fz F0 ρ0 H0 y u)
    (hgo : ∀ (i : Nat) (H : Hp) (p q : Addr) (vs us : List V) (c d : V), v = .ref p → u = .ref q → (if t = true then SqT C.K H p vs else SqL C.K H p vs) → (if t = true then SqT C.K H q us else SqL C.K H q us) → vs[i]? = some c → us[i]? = some d →
      J.go i H ∧ ∀ z H', J.yld i H z H' → ∃ T, z = .ref T ∧ H T = none ∧ H' = upd H T (.tup [c, d]))
    (hstop : ∀ (i : Nat) (H : Hp) (p q : Addr) (vs us : List V), v = .ref p → u = .ref q → (if t = true then SqT C.K H p vs else SqL C.K H p vs) → (if t = true then SqT C.K H q us else SqL C.K H q us) → vs.length ≤ i ∨ us.length ≤ i → J.stop i H) :
    JOk C J (List.zipWith (fun a b => D.tup [a, b]) ds es) (walkP fz F0 ρ0 H0) := by
  intro m F ρ H hP w i
  have both : ∃ (p q : Addr) (vs us : List V), v = .ref p ∧ u = .ref q ∧ (if t = true then SqT C.K H p vs else SqL C.K H p vs) ∧ (if t = true then SqT C.K H q us else SqL C.K H q us) ∧ Reps C F ds vs ∧ Reps C F es us := by
    cases t with
    | true =>
      obtain ⟨p, vs, e1, g1, g2⟩ := (rx m F ρ H hP w).seqT hx w.same
      obtain ⟨q, us, e2, k1, k2⟩ := (ry m F ρ H hP w).seqT hy w.same
      exact ⟨p, q, vs, us, e1, e2, g1, k1, g2, k2⟩
    | false =>
      obtain ⟨p, vs, e1, g1, g2⟩ := (rx m F ρ H hP w).seqL hx w.same
      obtain ⟨q, us, e2, k1, k2⟩ := (ry m F ρ H hP w).seqL hy w.same
      exact ⟨p, q, vs, us, e1, e2, g1, k1, g2, k2⟩
  obtain ⟨p, q, vs, us, e1, e2, g1, k1, g2, k2⟩ := both
  refine ⟨fun d hd => ?_, fun hi => ?_⟩
  · rw [List.getElem?_zipWith] at hd
    cases h1 : ds[i]? with
    | none => rw [h1] at hd; simp at hd
    | some d1 =>
      cases h2 : es[i]? with
      | none => rw [h1, h2] at hd; simp at hd
      | some d2 =>
        rw [h1, h2] at hd
        cases hd
        obtain ⟨c1, z1, r1⟩ := g2.get h1
        obtain ⟨c2, z2, r2⟩ := k2.get h2
        obtain ⟨go, yld⟩ := hgo i H p q vs us c1 c2 e1 e2 g1 k1 z1 z2
        refine ⟨go, fun z H' hz => ?_⟩
        obtain ⟨T, rfl, hT, rfl⟩ := yld z H' hz
        exact alloc_tup w (Reps.cons r1 (Reps.cons r2 Reps.nil)) hT
  · refine hstop i H p q vs us e1 e2 g1 k1 ?_
    have l1 := g2.length
    have l2 := k2.length
    rw [List.length_zipWith] at hi
    omega
theorem si_zip {fz : Bool} {elts : List Expr} {kk : Nat} {tpos : Pos} {φa φb : Fr → Mem → R Vw} (hK : X.K = C.K) (hg : Gl X "zip") (hm : X.mg "zip" = none) (ha : SS C X a fz φa) (hb : SS C X b fz φb)
    (hs : starEach [a, b] X.env = (false, eval a X.env) :: starEach [b] X.env) (hs2 : starEach [b] X.env = (false, eval b X.env) :: starEach [] X.env) (hpl : (backTo pos (starEach [b] X.env)).any (·.1) = false) :
    SI C X (.Tuple elts kk tpos) (.Call (.Name "zip" p) [a, b] [] pos) fz (fun env m => (φa env m).bind fun x m1 => (φb env m1).bind fun y m2 => match x.seq, y.seq with
      | some (p, xs), some (q, ys) => if p == q then .ok (List.zipWith (fun a b => D.tup [a, b]) xs ys) m2 else .bad
      | _, _ => .bad) := by
  intro env m xs m' hφ σ F ρ H H0 f w RR hR
  obtain ⟨x, m1, e1, h1⟩ := R.bind_eq_ok hφ
  obtain ⟨y, m2, e2, h2⟩ := R.bind_eq_ok h1
  refine useI (RZ.pi_zipA hg hm (L2.pa_cons pT (L2.pa_cons pT L2.pa_nil hs2) hs) hs hpl) ?_
  refine ha env m x m1 e1 σ F ρ H H0 f w _ fun v F1 ρ1 H1 x1 w1 r1 => ?_
  refine hb env m1 y m2 e2 σ F1 ρ1 H1 H0 (f.step x1) w1 _ fun u F2 ρ2 H2 x2 w2 r2 => ?_
  have r1 := r1.step x2
  split at h2
  · rename_i t ds t' es hx hy
    split at h2
    · rename_i ht
      have ht := eq_of_beq ht
      subst ht
      cases h2
      cases t with
      | true =>
        obtain ⟨p, vs, rfl, g1, g2⟩ := (r1.now w2).seqT hx w2.same
        obtain ⟨q, us, rfl, k1, k2⟩ := (r2.now w2).seqT hy w2.same
        refine ⟨p, q, vs, us, rfl, .inr ⟨hK ▸ g1, hK ▸ k1, hR _ F2 ρ2 H2 (x1.trans x2) w2 (jok_zip hx hy r1 r2 ?_ ?_)⟩⟩
        · rintro i H p' q' vs us c d hp hq g k z1 z2
          cases hp
          cases hq
          rw [← hK] at g k
          refine ⟨⟨vs, us, c, d, g, k, z1, z2⟩, fun z H' ⟨T, c', d', e3, e4, e5, e6, e7⟩ => ?_⟩
          have q1 := e6 vs g
          have q2 := e7 us k
          rw [z1] at q1
          rw [z2] at q2
          cases q1
          cases q2
          exact ⟨T, e3, e4, e5⟩
        · rintro i H p' q' vs us hp hq g k l
          cases hp
          cases hq
          rw [← hK] at g k
          exact ⟨vs, us, g, k, l⟩
      | false =>
        obtain ⟨p, vs, rfl, g1, g2⟩ := (r1.now w2).seqL hx w2.same
        obtain ⟨q, us, rfl, k1, k2⟩ := (r2.now w2).seqL hy w2.same
        refine ⟨p, q, vs, us, rfl, .inl ⟨hK ▸ g1, hK ▸ k1, hR _ F2 ρ2 H2 (x1.trans x2) w2 (jok_zip hx hy r1 r2 ?_ ?_)⟩⟩
        · rintro i H p' q' vs us c d hp hq g k z1 z2
          cases hp
          cases hq
          rw [← hK] at g k
          refine ⟨⟨vs, us, c, d, g, k, z1, z2⟩, fun z H' ⟨T, c', d', e3, e4, e5, e6, e7⟩ => ?_⟩
          have q1 := e6 vs g
          have q2 := e7 us k
          rw [z1] at q1
          rw [z2] at q2
          cases q1
          cases q2
          exact ⟨T, e3, e4, e5⟩
        · rintro i H p' q' vs us hp hq g k l
          cases hp
          cases hq
          rw [← hK] at g k
          exact ⟨vs, us, g, k, l⟩
    · cases h2
  · cases h2

/-! ### targets -/
theorem FrOk.setVal {d : D} {v : V} (f : FrOk C env σ F H ρ H0) (r : Rep C F d v) (i : Nat) : FrOk C (env.set i (.val d)) (σ.set i (some v)) F H ρ H0 where
  len := by simp [f.len]
  val := fun j d' e => by
    by_cases hj : i = j
    · subst hj
      have hl : i < env.length := by have := (List.getElem?_eq_some_iff.mp e).1; simpa using this
      rw [List.getElem?_set_self hl] at e
      cases e
      exact ⟨v, List.getElem?_set_self (by rw [← f.len]; exact hl), r⟩
    · rw [List.getElem?_set_ne hj] at e ⊢
      exact f.val j d' e
  cel := fun j n e => by
    by_cases hj : i = j
    · subst hj
      have hl : i < env.length := by have := (List.getElem?_eq_some_iff.mp e).1; simpa using this
      rw [List.getElem?_set_self hl] at e
      cases e
    · rw [List.getElem?_set_ne hj] at e ⊢
      exact f.cel j n e
  own := fun j c e => by
    by_cases hj : i = j
    · subst hj
      have hl : i < env.length := by have := (List.getElem?_eq_some_iff.mp e).1; simpa using this
      rw [List.getElem?_set_self hl] at e
      cases e
    · rw [List.getElem?_set_ne hj] at e ⊢
      exact f.own j c e
  dis := fun j k c c' a e1 e2 e3 e4 => by
    have aux : ∀ {j c}, (env.set i (.val d))[j]? = some (.own c) → i ≠ j := fun {j c} e => by
      rintro rfl
      have hl : i < env.length := by have := (List.getElem?_eq_some_iff.mp e).1; simpa using this
      rw [List.getElem?_set_self hl] at e
      cases e
    have h1 := aux e1
    have h2 := aux e2
    rw [List.getElem?_set_ne h1] at e1 e3
    rw [List.getElem?_set_ne h2] at e2 e4
    exact f.dis j k c c' a e1 e2 e3 e4
theorem FrOk.setUn (f : FrOk C env σ F H ρ H0) (i : Nat) (o : Option V) : FrOk C (env.set i .un) (σ.set i o) F H ρ H0 := by
  have ne : ∀ {j s}, (env.set i .un)[j]? = some s → s ≠ .un → i ≠ j := fun {j s} e hs => by
    rintro rfl
    have hl : i < env.length := by have := (List.getElem?_eq_some_iff.mp e).1; simpa using this
    rw [List.getElem?_set_self hl] at e
    cases e
    exact hs rfl
  refine ⟨by simp [f.len], fun j d e => ?_, fun j n e => ?_, fun j c e => ?_, fun j k c c' a e1 e2 e3 e4 => ?_⟩
  · have h := ne e (by simp)
    rw [List.getElem?_set_ne h] at e ⊢
    exact f.val j d e
  · have h := ne e (by simp)
    rw [List.getElem?_set_ne h] at e ⊢
    exact f.cel j n e
  · have h := ne e (by simp)
    rw [List.getElem?_set_ne h] at e ⊢
    exact f.own j c e
  · have h1 := ne e1 (by simp)
    have h2 := ne e2 (by simp)
    rw [List.getElem?_set_ne h1] at e1 e3
    rw [List.getElem?_set_ne h2] at e2 e4
    exact f.dis j k c c' a e1 e2 e3 e4
/-- slots of a frame set one after another -/
def sAll : L2.St → List Nat → List V → L2.St
  | σ, i :: is, v :: vs => sAll (σ.set i (some v)) is vs
  | σ, _, _ => σ
/-- a target: what it does -/
def STg (C : Cf) (X : Cx) (e : Expr) (tg : Tg) (t : TG) : Prop :=
  PG X e t ∧ ∀ (d : D) (env env1 : Fr), setTg tg d env = some env1 → ∀ (v : V) (σ : L2.St) (F H : Hp) (ρ : List Addr) (H0 : Hp), FrOk C env σ F H ρ H0 → Same F H → Rep C F d v →
    ∀ Q : L2.St → Hp → Prop, (∀ vs, FrOk C env1 (sAll σ tg.is vs) F H ρ H0 → Q (sAll σ tg.is vs) H) → t v σ H Q
theorem stg_one {i : Nat} (h : PG X a (gName i)) : STg C X a (.one i) (gName i) := by
  refine ⟨h, fun d env env1 e v σ F H ρ H0 f sm r Q hQ => ?_⟩
  cases e
  exact hQ [v] (f.setVal r i)
def gAll : List Nat → L2.TGs
  | [] => gNil
  | i :: is => gCons (gName i) (gAll is)
theorem gAll_ok : ∀ (is : List Nat) (ds : List D) (env env1 : Fr), setAll env is ds = some env1 → ∀ (vs : List V) (σ : L2.St) (F H : Hp) (ρ : List Addr) (H0 : Hp), FrOk C env σ F H ρ H0 → Reps C F ds vs →
    ∀ Q : L2.St → Hp → Prop, (FrOk C env1 (sAll σ is vs) F H ρ H0 → Q (sAll σ is vs) H) → gAll is vs σ H Q
  | [], [], env, env1, e, vs, σ, F, H, ρ, H0, f, r, Q, hQ => by
    cases e
    unfold Reps at r
    subst r
    exact ⟨rfl, hQ f⟩
  | [], _ :: _, env, env1, e, _, _, _, _, _, _, _, _, _, _ => by cases e
  | _ :: _, [], env, env1, e, _, _, _, _, _, _, _, _, _, _ => by cases e
  | i :: is, d :: ds, env, env1, e, vs, σ, F, H, ρ, H0, f, r, Q, hQ => by
    unfold Reps at r
    obtain ⟨v, us, rfl, r1, r2⟩ := r
    refine ⟨v, us, rfl, ?_⟩
    exact gAll_ok is ds _ env1 e us _ F H ρ H0 (f.setVal r1 i) r2 Q hQ
theorem setAll_len : ∀ {is : List Nat} {ds : List D} {env env1 : Fr}, setAll env is ds = some env1 → is.length = ds.length
  | [], [], _, _, _ => rfl
  | [], _ :: _, _, _, e => by cases e
  | _ :: _, [], _, _, e => by cases e
  | i :: is, d :: ds, env, env1, e => by simp [setAll_len (is := is) (ds := ds) e]
theorem stg_many {is : List Nat} (hK : X.K = C.K) (h : PG X a (gTup X.K is.length (gAll is))) : STg C X a (.many is) (gTup X.K is.length (gAll is)) := by
  refine ⟨h, fun d env env1 e v σ F H ρ H0 f sm r Q hQ => ?_⟩
  cases d with
  | tup ds =>
    have e : setAll env is ds = some env1 := e
    unfold Rep at r
    obtain ⟨p, vs, rfl, r1, r2⟩ := r
    exact ⟨p, vs, rfl, hK ▸ Same.tup sm r1, by rw [← r2.length, setAll_len e], gAll_ok is ds env env1 e vs σ F H ρ H0 f r2 Q (hQ vs)⟩
  | _ => cases e
theorem wipe_set : ∀ {ws : List Nat} {i : Nat} {o : Option V} {σ : L2.St}, i ∈ ws → L2.wipe (σ.set i o) ws = L2.wipe σ ws := by
  intro ws
  induction ws with
  | nil => intro i o σ h; cases h
  | cons w ws ih =>
    intro i o σ h
    show (L2.wipe (σ.set i o) ws).set w none = (L2.wipe σ ws).set w none
    by_cases hi : i ∈ ws
    · rw [ih hi]
    · have hiw : i = w := (List.mem_cons.mp h).resolve_right hi
      subst hiw
      have com : ∀ (us : List Nat) (σ : L2.St), i ∉ us → L2.wipe (σ.set i o) us = (L2.wipe σ us).set i o := by
        intro us
        induction us with
        | nil => intro σ _; rfl
        | cons u us ih2 =>
          intro σ hu
          have h1 : i ≠ u := fun e => hu (e ▸ List.mem_cons_self)
          have h2 : i ∉ us := fun e => hu (List.mem_cons_of_mem _ e)
          show (L2.wipe (σ.set i o) us).set u none = ((L2.wipe σ us).set u none).set i o
          rw [ih2 σ h2, List.set_comm _ _ h1]
      rw [com ws σ hi, List.set_set]
theorem sAll_wipe {ws : List Nat} : ∀ {is : List Nat} {vs : List V} {σ : L2.St}, (∀ i ∈ is, i ∈ ws) → L2.wipe (sAll σ is vs) ws = L2.wipe σ ws := by
  intro is
  induction is with
  | nil => intro vs σ _; cases vs <;> rfl
  | cons i is ih =>
    intro vs σ h
    cases vs with
    | nil => rfl
    | cons v vs =>
      show L2.wipe (sAll (σ.set i (some v)) is vs) ws = _
      rw [ih fun j hj => h j (List.mem_cons_of_mem _ hj), wipe_set (h i List.mem_cons_self)]
theorem wipe_sub {ws : List Nat} {σ : L2.St} : ∀ {us : List Nat}, (∀ i ∈ us, i ∈ ws) → L2.wipe (L2.wipe σ us) ws = L2.wipe σ ws
  | [], _ => rfl
  | u :: us, h => by
    show L2.wipe ((L2.wipe σ us).set u none) ws = _
    rw [wipe_set (h u List.mem_cons_self)]
    exact wipe_sub fun i hi => h i (List.mem_cons_of_mem _ hi)
end
end Ev

set_option linter.all false
set_option maxRecDepth 100000
/-! Ev10: list comprehensions. -/
namespace Ev
open PySem PySem.Spec PyProof.Rows
open L2 (Hp HO V Cx Inv SqL SqT Same upd upd_same upd_ne TE VK PE PT PA PS PSs PG PGs PI PIE PTs Key kV EP SP TP Rd RelV Vis Loc Gl OpR R2 UnR CallR Dp DpAll Sp FnOk Room Binds XK BlkOk)
open L2 (tOp tUn pe_op pe_un thn rI rI0 rU IxR PlainIx SlR TA TI TG TT Itl Itt Itr Itv gName gNil gCons gTup tLc tLc2)

section
variable {C : Cf} {X : Cx} {F F' F1 F2 H H' H1 H2 H0 : Hp} {ρ ρ' ρ1 ρ2 : List Addr} {m m' m1 m2 : Mem} {env : Fr} {σ : L2.St} {a b c tg it : Expr} {φa φb : Fr → Mem → R Vw} {pos p2 : Pos} {ct ct' : Ct} {p : Addr}

/-- a block's context -/
abbrev BX (X : Cx) (scope : Scope) (s : Shared) (Hb : Hp) (cc : Addr) (cl : List (Str × Addr)) (fp : List Addr) : Cx := X.blk s Hb scope (compEnvC scope cl cc X.env) fp
/-- a reading that does what φ says -/
def SXr (C : Cf) (t : TE) (φ : Fr → Mem → R Rv) : Prop :=
  ∀ (env : Fr) (m : Mem) (r : Rv) (m' : Mem), φ env m = .ok r m' → ∀ (σ : L2.St) (F : Hp) (ρ : List Addr) (H H0 : Hp), FrOk C env σ F H ρ H0 → Wo C m F ρ H →
    ∀ Q : VK, (∀ v F' ρ' H', Ext F ρ H F' ρ' H' → Wo C m' F' ρ' H' → RvOk C H F' H' ρ' r v → Q v H') → t σ H Q
theorem SXr.sx {t : TE} {φ : Fr → Mem → R Rv} (h : SXr C t φ) (pe : PE X a t) : SX C X a φ := fun env m r m' e σ F ρ H H0 f w Q hQ => use pe (h env m r m' e σ F ρ H H0 f w Q hQ)
/-- tests of a clause -/
def wpTs (X : Cx) (ifs : List Expr) : TT := fun σ H Q => ∃ t : TT, L2.PTs X ifs t ∧ t σ H Q
def SBs (C : Cf) (X : Cx) (ifs : List Expr) (φ : Fr → Mem → R Bool) : Prop :=
  ∀ (env : Fr) (m : Mem) (r : Bool) (m' : Mem), φ env m = .ok r m' → ∀ (σ : L2.St) (F : Hp) (ρ : List Addr) (H H0 : Hp), FrOk C env σ F H ρ H0 → Wo C m F ρ H →
    ∀ Q : Bool → Hp → Prop, (∀ F' ρ' H', Ext F ρ H F' ρ' H' → Wo C m' F' ρ' H' → Q r H') → wpTs X ifs σ H Q
theorem sbs_nil {φ : Fr → Mem → R Rv} : SBs C X [] (fun env m => condE true m (φ env m)) := by
  intro env m r m' hφ σ F ρ H H0 f w Q hQ
  cases hφ
  exact ⟨_, L2.pts_nil, hQ F ρ H Ext.refl w⟩
theorem sbs_one {φ : Fr → Mem → R Rv} (h : SB C X c (fun env m => asB (φ env m))) : SBs C X [c] (fun env m => condE false m (φ env m)) := by
  intro env m r m' hφ σ F ρ H H0 f w Q hQ
  exact ⟨_, L2.pts_one pB, h env m r m' hφ σ F ρ H H0 f w Q hQ⟩
/-- the collecting object through a comprehension -/
structure LcSt (C : Cf) (m : Mem) (F1 : Hp) (ρ1 : List Addr) (H1 : Hp) (p : Addr) (ct : Ct) (F : Hp) (ρ : List Addr) (H : Hp) : Prop where
  new : H1 p = none
  ext : Ext F1 ρ1 H1 F ρ H
  wo : Wo C m F ρ H
  nF : F p = none
  nR : p ∉ ρ
  at_ : CtAt C F H ct p
theorem LcSt.step (l : LcSt C m F1 ρ1 H1 p ct F ρ H) (x : Ext F ρ H F' ρ' H') (w : Wo C m' F' ρ' H') : LcSt C m' F1 ρ1 H1 p ct F' ρ' H' where
  new := l.new
  ext := l.ext.trans x
  wo := w
  nF := by
    cases q : F' p with
    | none => rfl
    | some o => exact ((x.nF p (by rw [q]; simp)).elim (fun z => (z l.nF).elim) fun z => (l.at_.some z).elim)
  nR := fun z => (x.nR p z).elim l.nR l.at_.some
  at_ := l.at_.mono x.sF fun o q => x.kp p o q l.nR
theorem LcSt.write {o : HO} (l : LcSt C m F1 ρ1 H1 p ct F ρ H) (h : CtAt C F (upd H p o) ct' p) : LcSt C m F1 ρ1 H1 p ct' F ρ (upd H p o) where
  new := l.new
  ext := ⟨l.ext.sF, l.ext.sR, fun b u e n => by rw [upd_ne (L2.ne_of_none e l.new)]; exact l.ext.kp b u e n, l.ext.nF, l.ext.nR, fun b e => by
    by_cases q : b = p
    · subst q; rw [upd_same]; simp
    · rw [upd_ne q]; exact l.ext.th b e⟩
  wo := ⟨fun b u e => by rw [upd_ne (L2.ne_of_none e l.nF)]; exact l.wo.same b u e, l.wo.len, l.wo.nd, l.wo.nf, fun n c e => by
    obtain ⟨b, e1, h1⟩ := l.wo.at_ n c e
    have hb : b ≠ p := fun q => l.nR (q ▸ List.mem_of_getElem? e1)
    exact ⟨b, e1, h1.mono (Same.refl _) fun u q => by rw [upd_ne hb]; exact q⟩⟩
  nF := l.nF
  nR := l.nR
  at_ := h
theorem LcSt.start {o : HO} (w : Wo C m F1 ρ1 H1) (h : H1 p = none) (c : CtAt C F1 (upd H1 p o) ct p) : LcSt C m F1 ρ1 H1 p ct F1 ρ1 (upd H1 p o) :=
  ⟨h, Ext.new h, w.new h, w.free h, w.notin h, c⟩
theorem LcSt.push {ds : List D} {d : D} {v : V} {acc : List V} (l : LcSt C m F1 ρ1 H1 p (.lst ds) F ρ H) (e : H p = some (.lst acc)) (r : Rep C F d v) : LcSt C m F1 ρ1 H1 p (.lst (ds ++ [d])) F ρ (upd H p (.lst (acc ++ [v]))) := by
  obtain ⟨vs, h1, h2⟩ := l.at_
  rw [e] at h1
  cases h1
  exact l.write ⟨_, upd_same, h2.append (Reps.one r)⟩
theorem LcSt.done (l : LcSt C m F1 ρ1 H1 p ct F ρ H) (x : Ext F' ρ' H' F1 ρ1 H1) : Ext F' ρ' H' F ρ H ∧ RvOk C H' F H ρ (.f ct) (.ref p) := by
  refine ⟨x.trans l.ext, p, rfl, l.at_, l.nF, l.nR, ?_⟩
  cases q : H' p with
  | none => rfl
  | some o => exact absurd l.new (x.th p (by rw [q]; simp))
/-- frames alike but at some slots -/
theorem setAll_ext : ∀ {is : List Nat} {ds : List D} {env env1 env' : Fr}, setAll env is ds = some env1 → env'.length = env.length → (∀ j, j ∉ is → env'[j]? = env[j]?) → setAll env' is ds = some env1
  | [], [], env, env1, env', e, hl, h => by
    cases e
    have : env' = env := List.ext_getElem? fun j => h j (by simp)
    rw [this]
    rfl
  | [], _ :: _, _, _, _, e, _, _ => by cases e
  | _ :: _, [], _, _, _, e, _, _ => by cases e
  | i :: is, d :: ds, env, env1, env', e, hl, h => by
    have e' : setAll (env.set i (.val d)) is ds = some env1 := e
    show setAll (env'.set i (.val d)) is ds = some env1
    refine setAll_ext e' (by simp [hl]) fun j hj => ?_
    by_cases q : i = j
    · subst q
      by_cases hi : i < env.length
      · rw [List.getElem?_set_self hi, List.getElem?_set_self (by omega)]
      · have hi2 : ¬ i < env'.length := by omega
        rw [List.getElem?_eq_none (by simp; omega), List.getElem?_eq_none (by simp; omega)]
    · rw [List.getElem?_set_ne q, List.getElem?_set_ne q]
      exact h j fun z => (List.mem_cons.mp z).elim (fun z => q z.symm) hj
theorem setTg_ext {t : Tg} {d : D} {env env1 env' : Fr} (e : setTg t d env = some env1) (hl : env'.length = env.length) (h : ∀ j, j ∉ t.is → env'[j]? = env[j]?) : setTg t d env' = some env1 := by
  cases t with
  | one i =>
    have e' : setAll env [i] [d] = some env1 := e
    exact setAll_ext e' hl h
  | many is =>
    cases d with
    | tup ds => exact setAll_ext (is := is) (ds := ds) e hl h
    | _ => cases e
theorem wipe_len (env : Fr) : ∀ vs : List Nat, (wipe env vs).length = env.length
  | [] => rfl
  | v :: vs => by show ((wipe env vs).set v .un).length = _; rw [List.length_set, wipe_len env vs]
theorem wipe_ne {env : Fr} {j : Nat} : ∀ {vs : List Nat}, j ∉ vs → (wipe env vs)[j]? = env[j]?
  | [], _ => rfl
  | v :: vs, h => by
    show ((wipe env vs).set v .un)[j]? = _
    rw [List.getElem?_set_ne fun e : v = j => h (by rw [← e]; exact List.mem_cons_self)]
    exact wipe_ne fun z => h (List.mem_cons_of_mem _ z)
theorem wipe_in {env : Fr} {j : Nat} : ∀ {vs : List Nat}, j ∈ vs → (wipe env vs)[j]? = if j < env.length then some .un else none
  | [], h => by cases h
  | v :: vs, h => by
    show ((wipe env vs).set v .un)[j]? = _
    by_cases q : v = j
    · subst q
      by_cases hv : v < env.length
      · rw [List.getElem?_set_self (by rw [wipe_len]; exact hv), if_pos hv]
      · rw [List.getElem?_eq_none (by simp [wipe_len]; omega), if_neg hv]
    · rw [List.getElem?_set_ne q]
      exact wipe_in ((List.mem_cons.mp h).resolve_left fun e => q e.symm)
theorem FrOk.wipe (f : FrOk C env σ F H ρ H0) : ∀ vs : List Nat, FrOk C (Ev.wipe env vs) (L2.wipe σ vs) F H ρ H0
  | [] => f
  | v :: vs => (FrOk.wipe f vs).setUn v none
/-- a target: soundness alone -/
def TgOk (C : Cf) (t : TG) (tg : Tg) : Prop :=
  ∀ (d : D) (env env1 : Fr), setTg tg d env = some env1 → ∀ (v : V) (σ : L2.St) (F H : Hp) (ρ : List Addr) (H0 : Hp), FrOk C env σ F H ρ H0 → Same F H → Rep C F d v →
    ∀ Q : L2.St → Hp → Prop, (∀ vs, FrOk C env1 (sAll σ tg.is vs) F H ρ H0 → Q (sAll σ tg.is vs) H) → t v σ H Q
theorem STg.ok {e : Expr} {tg : Tg} {t : TG} (h : STg C X e tg t) : TgOk C t tg := h.2
theorem drop_cons {α : Type} {xs : List α} {i : Nat} (h : i < xs.length) : xs.drop i = xs[i] :: xs.drop (i + 1) := by
  rw [← List.getElem_cons_drop h]
/-- a list comprehension of one clause -/
theorem lc_read {scope : Scope} {tge ite elt : Expr} {ifs : List Expr} {t : TG} {tg : Tg} {vs : List Nat} {φi : Fr → Mem → R (List D)} {φc : Fr → Mem → R Bool} {φe : Fr → Mem → R D}
    (hi : SI C X tge ite false φi) (hg : TgOk C t tg) (hc : ∀ s Hb cc cl fp, SBs C (BX X scope s Hb cc cl fp) ifs φc) (he : ∀ s Hb cc cl fp, SD C (BX X scope s Hb cc cl fp) elt φe) (h1 : ∀ i ∈ vs, i ∈ tg.is) (h2 : ∀ i ∈ tg.is, i ∈ vs) :
    SXr C (tLc (wpI X tge ite) t (fun σ H Q => ∀ s Hb cc cl fp, wpTs (BX X scope s Hb cc cl fp) ifs σ H Q) (fun σ H Q => ∀ s Hb cc cl fp, wpT (BX X scope s Hb cc cl fp) elt σ H Q) vs)
      (fun env m => (φi env m).bind fun xs m1 => (lcLoop (fun x m2 => (opt (setTg tg x env) m2).bind fun env1 m3 => (φc env1 m3).bind fun t m4 => if t then (φe env1 m4).bind fun y m5 => .ok [y] m5 else .ok [] m4) xs m1).bind fun ys m2 => if lenOk ys.length then .ok (.f (.lst ys)) m2 else .bad) := by
  intro env m r m' hφ σ F ρ H H0 f w Q hQ
  obtain ⟨xs, m1, e1, k1⟩ := R.bind_eq_ok hφ
  obtain ⟨ys, m2, e2, k2⟩ := R.bind_eq_ok k1
  split at k2
  · rename_i hlen
    cases k2
    have hlen := lenOk_le hlen
    refine hi env m xs m1 e1 σ F ρ H H0 f w _ fun J F1 ρ1 H1 x1 w1 j1 => ?_
    intro p hp
    generalize hf : (fun (x : D) (m2 : Mem) => (opt (setTg tg x env) m2).bind fun env1 m3 => (φc env1 m3).bind fun t m4 => if t then (φe env1 m4).bind fun y m5 => R.ok [y] m5 else R.ok [] m4) = fn at e2
    let Pv : Nat → Hp → Prop := fun i H => ∃ mi ds rest F ρ, LcSt C mi F1 ρ1 H1 p (.lst ds) F ρ H ∧ lcLoop fn (xs.drop i) mi = .ok rest m' ∧ ds ++ rest = ys
    refine ⟨fun i k H => k = xs.length - i ∧ i ≤ xs.length ∧ Pv i H, ⟨xs.length, by simp, Nat.zero_le _, m1, [], ys, F1, ρ1, LcSt.start w1 hp ⟨[], upd_same, Reps.nil⟩, by simpa using e2, rfl⟩, ?_⟩
    rintro i k H3 ⟨rfl, hi, mi, ds, rest, F3, ρ3, l3, e3, ey⟩
    by_cases hlt : i < xs.length
    · right
      have hd : xs[i]? = some xs[i] := by simp [hlt]
      obtain ⟨hgo, hyld⟩ := (j1 mi F3 ρ3 H3 l3.ext l3.wo i).1 _ hd
      refine ⟨hgo, Pv (i + 1), fun H' p' => ⟨xs.length - (i + 1), by omega, rfl, hlt, p'⟩, fun x H4 hy => ?_⟩
      obtain ⟨F4, x4, w4, r4⟩ := hyld x H4 hy
      have l4 := l3.step x4 w4
      rw [drop_cons hlt] at e3
      obtain ⟨y1, m5, e5, k5⟩ := R.bind_eq_ok e3
      obtain ⟨zs, m6, e6, k6⟩ := R.bind_eq_ok k5
      cases k6
      have e5' := e5
      rw [← hf] at e5'
      obtain ⟨env1, m7, e7, k7⟩ := R.bind_eq_ok e5'
      obtain ⟨e7a, rfl⟩ := opt_eq_ok e7
      obtain ⟨t1, m8, e8, k8⟩ := R.bind_eq_ok k7
      have fw : FrOk C (Ev.wipe env vs) (L2.wipe σ vs) F4 H4 ρ3 H0 := ((f.step (x1.trans l3.ext)).step x4).wipe vs
      have e7' : setTg tg xs[i] (Ev.wipe env vs) = some env1 := setTg_ext e7a (wipe_len _ _) fun j hj => wipe_ne fun z => hj (h1 j z)
      refine hg _ _ _ e7' x (L2.wipe σ vs) F4 H4 ρ3 H0 fw w4.same r4 _ fun us f1 => ?_
      refine ⟨by rw [sAll_wipe h2]; exact wipe_sub fun _ h => h, fun s Hb cc cl fp => ?_⟩
      refine hc s Hb cc cl fp env1 m7 t1 m8 e8 _ F4 ρ3 H4 H0 f1 w4 _ fun F5 ρ5 H5 x5 w5 => ?_
      have l5 := l4.step x5 w5
      cases t1 with
      | false =>
        rw [if_neg Bool.false_ne_true] at k8 ⊢
        cases k8
        exact ⟨_, ds, zs, F5, ρ5, l5, e6, by rw [← ey]; rfl⟩
      | true =>
        rw [if_pos rfl] at k8 ⊢
        obtain ⟨y, m9, e9, k9⟩ := R.bind_eq_ok k8
        cases k9
        intro s Hb cc cl fp
        refine he s Hb cc cl fp env1 m8 y _ e9 _ F5 ρ5 H5 H0 (f1.step x5) w5 _ fun v F6 ρ6 H6 x6 w6 r6 => ?_
        have l6 := l5.step x6 w6
        obtain ⟨acc, h3, h4⟩ := l6.at_
        refine ⟨acc, h3, ?_, _, ds ++ [y], zs, F6, ρ6, l6.push h3 r6, e6, by rw [← ey]; simp⟩
        have hl := h4.length
        rw [← hl, sizeLine_eq]
        have : ys.length = ds.length + (1 + zs.length) := by rw [← ey]; simp; omega
        have hlen' := hlen
        rw [sizeLine_eq] at hlen'
        omega
    · left
      have hi' : i = xs.length := by omega
      subst hi'
      refine ⟨(j1 mi F3 ρ3 H3 l3.ext l3.wo _).2 rfl, ?_⟩
      rw [List.drop_length] at e3
      cases e3
      rw [List.append_nil] at ey
      subst ey
      obtain ⟨x5, r5⟩ := l3.done x1
      exact hQ _ F3 ρ3 H3 x5 l3.wo r5
  · cases k2
theorem FrOk.mark {o : HO} (f : FrOk C env σ F H ρ H0) (h : H p = none) : FrOk C env σ F H ρ (upd H0 p o) where
  len := f.len
  val := f.val
  cel := f.cel
  own := fun i c e => by
    obtain ⟨a, h1, h2, h3, h4, h5⟩ := f.own i c e
    exact ⟨a, h1, h2, h3, h4, by rw [upd_ne fun q => h2.some (by rw [q]; exact h)]; exact h5⟩
  dis := f.dis
theorem FrOk.write {o : HO} (f : FrOk C env σ F H ρ H0) (h : H0 p ≠ none) : FrOk C env σ F (upd H p o) ρ H0 where
  len := f.len
  val := f.val
  cel := f.cel
  own := fun i c e => by
    obtain ⟨a, h1, h2, h3, h4, h5⟩ := f.own i c e
    have ha : a ≠ p := fun q => h (by rw [← q]; exact h5)
    exact ⟨a, h1, h2.mono (Same.refl _) fun u q => by rw [upd_ne ha]; exact q, h3, h4, h5⟩
  dis := f.dis
/-- .. of two clauses -/
theorem lc2_read {scope : Scope} {tge ite tge2 ite2 elt : Expr} {ifs ifs2 : List Expr} {t t2 : TG} {tg tg2 : Tg} {vs : List Nat} {φi φi2 : Fr → Mem → R (List D)} {φc φc2 : Fr → Mem → R Bool} {φe : Fr → Mem → R D}
    (hi : SI C X tge ite false φi) (hg : TgOk C t tg) (hc : ∀ s Hb cc cl fp, SBs C (BX X scope s Hb cc cl fp) ifs φc) (hi2 : ∀ s Hb cc cl fp, SI C (BX X scope s Hb cc cl fp) tge2 ite2 true φi2) (hg2 : TgOk C t2 tg2)
    (hc2 : ∀ s Hb cc cl fp, SBs C (BX X scope s Hb cc cl fp) ifs2 φc2) (he : ∀ s Hb cc cl fp, SD C (BX X scope s Hb cc cl fp) elt φe) (h1 : ∀ i ∈ vs, i ∈ tg.is ∨ i ∈ tg2.is) (h2 : ∀ i ∈ tg.is, i ∈ vs) (h3 : ∀ i ∈ tg2.is, i ∈ vs) :
    SXr C (tLc2 (wpI X tge ite) t (fun σ H Q => ∀ s Hb cc cl fp, wpTs (BX X scope s Hb cc cl fp) ifs σ H Q) (fun σ H Q => ∀ s Hb cc cl fp, wpI (BX X scope s Hb cc cl fp) tge2 ite2 σ H Q) t2 (fun σ H Q => ∀ s Hb cc cl fp, wpTs (BX X scope s Hb cc cl fp) ifs2 σ H Q)
        (fun σ H Q => ∀ s Hb cc cl fp, wpT (BX X scope s Hb cc cl fp) elt σ H Q) vs tg2.is)
      (fun env m => (φi env m).bind fun xs m1 => (lcLoop (fun x m2 => (opt (setTg tg x (wipe env tg2.is)) m2).bind fun env1 m3 => (φc env1 m3).bind fun t m4 =>
        if t then (φi2 env1 m4).bind fun xs2 m5 => lcLoop (fun x2 m6 => (opt (setTg tg2 x2 env1) m6).bind fun env2 m7 => (φc2 env2 m7).bind fun t2 m8 =>
          if t2 then (φe env2 m8).bind fun y m9 => .ok [y] m9 else .ok [] m8) xs2 m5 else .ok [] m4) xs m1).bind fun ys m2 => if lenOk ys.length then .ok (.f (.lst ys)) m2 else .bad) := by
  intro env m r m' hφ σ F ρ H H0 f w Q hQ
  obtain ⟨xs, m1, e1, k1⟩ := R.bind_eq_ok hφ
  obtain ⟨ys, m2, e2, k2⟩ := R.bind_eq_ok k1
  split at k2
  · rename_i hlen
    cases k2
    have hlen := lenOk_le hlen
    refine hi env m xs m1 e1 σ F ρ H H0 f w _ fun J F1 ρ1 H1 x1 w1 j1 => ?_
    intro p hp
    have f0 : FrOk C env σ F1 H1 ρ1 (upd H0 p (.lst [])) := (f.step x1).mark hp
    have hnp : (upd H0 p (.lst [])) p ≠ none := by rw [upd_same]; simp
    generalize upd H0 p (.lst []) = H0 at f0 hnp
    generalize hf : (fun (x : D) (m2 : Mem) => (opt (setTg tg x (wipe env tg2.is)) m2).bind fun env1 m3 => (φc env1 m3).bind fun t m4 =>
        if t then (φi2 env1 m4).bind fun xs2 m5 => lcLoop (fun x2 m6 => (opt (setTg tg2 x2 env1) m6).bind fun env2 m7 => (φc2 env2 m7).bind fun t2 m8 =>
          if t2 then (φe env2 m8).bind fun y m9 => R.ok [y] m9 else R.ok [] m8) xs2 m5 else R.ok [] m4) = fn at e2
    let Pv : Nat → Hp → Prop := fun i H => ∃ mi ds rest F ρ, LcSt C mi F1 ρ1 H1 p (.lst ds) F ρ H ∧ lcLoop fn (xs.drop i) mi = .ok rest m' ∧ ds ++ rest = ys
    refine ⟨fun i k H => k = xs.length - i ∧ i ≤ xs.length ∧ Pv i H, ⟨xs.length, by simp, Nat.zero_le _, m1, [], ys, F1, ρ1, LcSt.start w1 hp ⟨[], upd_same, Reps.nil⟩, by simpa using e2, rfl⟩, ?_⟩
    rintro i k H3 ⟨rfl, hi, mi, ds, rest, F3, ρ3, l3, e3, ey⟩
    by_cases hlt : i < xs.length
    · right
      have hd : xs[i]? = some xs[i] := by simp [hlt]
      obtain ⟨hgo, hyld⟩ := (j1 mi F3 ρ3 H3 l3.ext l3.wo i).1 _ hd
      refine ⟨hgo, Pv (i + 1), fun H' p' => ⟨xs.length - (i + 1), by omega, rfl, hlt, p'⟩, fun x H4 hy => ?_⟩
      obtain ⟨F4, x4, w4, r4⟩ := hyld x H4 hy
      have l4 := l3.step x4 w4
      rw [drop_cons hlt] at e3
      obtain ⟨y1, m5, e5, k5⟩ := R.bind_eq_ok e3
      obtain ⟨zs, m6, e6, k6⟩ := R.bind_eq_ok k5
      cases k6
      have e5' := e5
      rw [← hf] at e5'
      obtain ⟨env1, m7, e7, k7⟩ := R.bind_eq_ok e5'
      obtain ⟨e7a, rfl⟩ := opt_eq_ok e7
      obtain ⟨t1, m8, e8, k8⟩ := R.bind_eq_ok k7
      have fw : FrOk C (Ev.wipe env vs) (L2.wipe σ vs) F4 H4 ρ3 H0 := ((f0.step l3.ext).step x4).wipe vs
      have e7' : setTg tg xs[i] (Ev.wipe env vs) = some env1 := setTg_ext e7a (by rw [wipe_len, wipe_len]) fun j hj => by
        by_cases hv : j ∈ vs
        · rw [wipe_in hv, wipe_in ((h1 j hv).resolve_left hj)]
        · rw [wipe_ne hv, wipe_ne fun z => hv (h3 j z)]
      refine hg _ _ _ e7' x (L2.wipe σ vs) F4 H4 ρ3 H0 fw w4.same r4 _ fun us f1 => ?_
      refine ⟨by rw [sAll_wipe h2]; exact wipe_sub fun _ h => h, fun s Hb cc cl fp => ?_⟩
      refine hc s Hb cc cl fp env1 m7 t1 m8 e8 _ F4 ρ3 H4 H0 f1 w4 _ fun F5 ρ5 H5 x5 w5 => ?_
      have l5 := l4.step x5 w5
      have f5 := f1.step x5
      generalize sAll (L2.wipe σ vs) tg.is us = σ2 at f5
      cases t1 with
      | false =>
        rw [if_neg Bool.false_ne_true] at k8 ⊢
        cases k8
        exact ⟨_, ds, zs, F5, ρ5, l5, e6, by rw [← ey]; rfl⟩
      | true =>
        rw [if_pos rfl] at k8 ⊢
        obtain ⟨xs2, m9, e9, k9⟩ := R.bind_eq_ok k8
        intro s Hb cc cl fp
        refine hi2 s Hb cc cl fp env1 m8 xs2 m9 e9 σ2 F5 ρ5 H5 H0 f5 w5 _ fun J2 F6 ρ6 H6 x6 w6 j2 => ?_
        have l6 := l5.step x6 w6
        have f6 := f5.step x6
        generalize hf2 : (fun (x2 : D) (m6 : Mem) => (opt (setTg tg2 x2 env1) m6).bind fun env2 m7 => (φc2 env2 m7).bind fun t2 m8 => if t2 then (φe env2 m8).bind fun y m9 => R.ok [y] m9 else R.ok [] m8) = fn2 at k9
        let Pv2 : Nat → Hp → Prop := fun j H => ∃ mj ds2 rest2 F ρ, LcSt C mj F1 ρ1 H1 p (.lst ds2) F ρ H ∧ Same F6 F ∧ FrOk C env1 σ2 F H ρ H0 ∧ lcLoop fn2 (xs2.drop j) mj = .ok rest2 m5 ∧ ds2 ++ rest2 ++ zs = ys
        refine ⟨fun j k H => k = xs2.length - j ∧ j ≤ xs2.length ∧ Pv2 j H, ⟨xs2.length, by simp, Nat.zero_le _, m9, ds, y1, F6, ρ6, l6, Same.refl _, f6, by simpa using k9, by rw [← ey]; simp⟩, ?_⟩
        rintro j k H7 ⟨rfl, hj, mj, ds2, rest2, F7, ρ7, l7, s7, f7, e7, ey7⟩
        by_cases hlt2 : j < xs2.length
        · right
          have hd2 : xs2[j]? = some xs2[j] := by simp [hlt2]
          obtain ⟨hgo2, hyld2⟩ := (j2 mj F7 ρ7 H7 s7 l7.wo j).1 _ hd2
          refine ⟨hgo2, Pv2 (j + 1), fun H' p' => ⟨xs2.length - (j + 1), by omega, rfl, hlt2, p'⟩, fun x H8 hy => ?_⟩
          obtain ⟨F8, x8, w8, r8⟩ := hyld2 x H8 hy
          have l8 := l7.step x8 w8
          have f8 := f7.step x8
          rw [drop_cons hlt2] at e7
          obtain ⟨y2, m10, e10, k10⟩ := R.bind_eq_ok e7
          obtain ⟨zs2, m11, e11, k11⟩ := R.bind_eq_ok k10
          cases k11
          have e10' := e10
          rw [← hf2] at e10'
          obtain ⟨env2, m12, e12, k12⟩ := R.bind_eq_ok e10'
          obtain ⟨e12a, rfl⟩ := opt_eq_ok e12
          obtain ⟨t3, m13, e13, k13⟩ := R.bind_eq_ok k12
          have e12' : setTg tg2 xs2[j] (Ev.wipe env1 tg2.is) = some env2 := setTg_ext e12a (wipe_len _ _) fun j hj => wipe_ne hj
          refine hg2 _ _ _ e12' x (L2.wipe σ2 tg2.is) F8 H8 ρ7 H0 (f8.wipe _) w8.same r8 _ fun us2 f9 => ?_
          refine ⟨by rw [sAll_wipe fun _ h => h]; exact wipe_sub fun _ h => h, fun s Hb cc cl fp => ?_⟩
          refine hc2 s Hb cc cl fp env2 m12 t3 m13 e13 _ F8 ρ7 H8 H0 f9 w8 _ fun F9 ρ9 H9 x9 w9 => ?_
          have l9 := l8.step x9 w9
          cases t3 with
          | false =>
            rw [if_neg Bool.false_ne_true] at k13 ⊢
            cases k13
            exact ⟨_, ds2, zs2, F9, ρ9, l9, s7.trans (x8.sF.trans x9.sF), f8.step x9, e11, by rw [← ey7]; rfl⟩
          | true =>
            rw [if_pos rfl] at k13 ⊢
            obtain ⟨y, m14, e14, k14⟩ := R.bind_eq_ok k13
            cases k14
            intro s Hb cc cl fp
            refine he s Hb cc cl fp env2 m13 y _ e14 _ F9 ρ9 H9 H0 (f9.step x9) w9 _ fun v F10 ρ10 H10 x10 w10 r10 => ?_
            have l10 := l9.step x10 w10
            obtain ⟨acc, h3, h4⟩ := l10.at_
            refine ⟨acc, h3, ?_, _, ds2 ++ [y], zs2, F10, ρ10, l10.push h3 r10, s7.trans (x8.sF.trans (x9.sF.trans x10.sF)), ((f8.step x9).step x10).write hnp, e11, by rw [← ey7]; simp⟩
            have hl := h4.length
            rw [← hl, sizeLine_eq]
            have : ys.length = ds2.length + (1 + zs2.length) + zs.length := by rw [← ey7]; simp; omega
            have hlen' := hlen
            rw [sizeLine_eq] at hlen'
            omega
        · left
          have hj' : j = xs2.length := by omega
          subst hj'
          refine ⟨(j2 mj F7 ρ7 H7 s7 l7.wo _).2 rfl, ?_⟩
          rw [List.drop_length] at e7
          cases e7
          rw [List.append_nil] at ey7
          exact ⟨_, ds2, zs, F7, ρ7, l7, e6, ey7⟩
    · left
      have hi' : i = xs.length := by omega
      subst hi'
      refine ⟨(j1 mi F3 ρ3 H3 l3.ext l3.wo _).2 rfl, ?_⟩
      rw [List.drop_length] at e3
      cases e3
      rw [List.append_nil] at ey
      subst ey
      obtain ⟨x5, r5⟩ := l3.done x1
      exact hQ _ F3 ρ3 H3 x5 l3.wo r5
  · cases k2

/-- the block's context is a context of the block's scope -/
theorem relS_fwd {sc : Scope} : ∀ {names : List (Str × NameKind)} {x : Str} {k : NameKind}, names.lookup x = some k →
    (names.map fun (n, k) => if (k == NameKind.free && sc.kind == .function && sc.names.lookup n == some .cell) then (n, NameKind.cell) else (n, k)).lookup x = some k ∨
    (k = .free ∧ (names.map fun (n, k) => if (k == NameKind.free && sc.kind == .function && sc.names.lookup n == some .cell) then (n, NameKind.cell) else (n, k)).lookup x = some .cell)
  | [], _, _, h => by simp at h
  | (n, k0) :: r, x, k, h => by
    have ih := @relS_fwd sc r x k
    show List.lookup x ((if (k0 == NameKind.free && sc.kind == .function && sc.names.lookup n == some .cell) = true then (n, NameKind.cell) else (n, k0)) :: (r.map _)) = some k ∨ (k = .free ∧ List.lookup x ((if (k0 == NameKind.free && sc.kind == .function && sc.names.lookup n == some .cell) = true then (n, NameKind.cell) else (n, k0)) :: (r.map _)) = some .cell)
    cases hx : x == n with
    | true =>
      simp only [List.lookup_cons, hx] at h
      cases h
      by_cases hc : (k0 == NameKind.free && sc.kind == .function && sc.names.lookup n == some .cell) = true
      · rw [if_pos hc]
        simp only [Bool.and_eq_true, beq_iff_eq] at hc
        exact .inr ⟨hc.1.1, by simp only [List.lookup_cons, hx]⟩
      · rw [if_neg hc]
        exact .inl (by simp only [List.lookup_cons, hx])
    | false =>
      simp only [List.lookup_cons, hx] at h
      have ih := ih h
      by_cases hc : (k0 == NameKind.free && sc.kind == .function && sc.names.lookup n == some .cell) = true
      · rw [if_pos hc]
        simp only [List.lookup_cons, hx]
        exact ih
      · rw [if_neg hc]
        simp only [List.lookup_cons, hx]
        exact ih
theorem CxOk.blk {k : Nat} {N : List Str} {sc scope : Scope} (c : CxOk C k N sc X) (hk : scope.kind = .function) (s : Shared) (Hb : Hp) (cc : Addr) (cl : List (Str × Addr)) (fp : List Addr) : CxOk C k N scope (BX X scope s Hb cc cl fp) where
  hN := c.hN
  nd := c.nd
  K := c.K
  w := c.w
  scp := fun x kd h => relS_fwd h
  cal := c.cal
  room := c.room
  fn := fun x h => by
    rcases h with h | h
    · rcases relS_fwd (sc := X.env.scope) h with q | q
      · exact .inr q
      · cases q.1
    · exact .inl (by show (scope.names.lookup x == some NameKind.cell) = true; rw [h]; rfl)
  kind := hk
end
end Ev

set_option linter.all false
set_option maxRecDepth 100000
/-! Ev11: dict comprehensions, chains, isinstance, {}. -/
namespace Ev
open PySem PySem.Spec PyProof.Rows
open L2 (Hp HO V Cx Inv SqL SqT Same upd upd_same upd_ne TE VK PE PT PA PS PSs PG PGs PI PIE PTs Key kV EP SP TP Rd RelV Vis Loc Gl OpR R2 UnR CallR Dp DpAll Sp FnOk Room Binds XK BlkOk)
open L2 (tOp tUn pe_op pe_un thn thnF rI rI0 rU IxR PlainIx SlR TA TI TG TT Itl Itt Itr Itv gName gNil gCons gTup tLc tLc2 FpOk ObjOk block_start cloFrom mem_pinsAt pinsAt closure_ok PSet Turn)

section
variable {C : Cf} {X : Cx} {F F' F1 F2 H H' H1 H2 H0 : Hp} {ρ ρ' ρ1 ρ2 : List Addr} {m m' m1 m2 : Mem} {env : Fr} {σ : L2.St} {a b c tg it : Expr} {φa φb : Fr → Mem → R Vw} {pos p2 : Pos} {ct ct' : Ct} {p : Addr}

/-- a comprehension that makes a dict: what lies at first, what a pair does -/
abbrev TSt := Addr → V → V → Hp → (Hp → Prop) → Prop
def tDcG (o0 : Addr → HO) (st : TSt) (wi : TI) (g : TG) (tt : TT) (tk tv : TE) (vs : List Nat) : TE := fun σ H Q => wi σ H fun J H1 => ∀ p, H1 p = none → ∃ W : Nat → Nat → Hp → Prop, (∃ m, W 0 m (upd H1 p (o0 p))) ∧ ∀ i m H, W i m H →
  (J.stop i H ∧ Q (.ref p) H) ∨ (J.go i H ∧ ∃ Nx : Hp → Prop, (∀ H', Nx H' → ∃ m', m' < m ∧ W (i + 1) m' H') ∧ ∀ x H', J.yld i H x H' → g x (L2.wipe σ vs) H' fun σ2 H2 => L2.wipe σ2 vs = L2.wipe σ vs ∧ tt σ2 H2 fun b H3 =>
    if b = true then tk σ2 H3 fun y H4 => tv σ2 H4 fun z H5 => st p y z H5 Nx else Nx H3)
/-- the store of a pair, in a block -/
def StR (X : Cx) (st : TSt) : Prop := ∀ (pins : List (Addr × Obj)) (s : Shared) (σ : L2.St) (H : Hp) (p : Addr) (y z : V) (u r : Value) (Nx : Hp → Prop), Inv X pins σ H s → RelV y u → RelV z r → st p y z H Nx →
  wpAny (model X.prog X.w) X.A (dictSet p u r) (fun _ s' => ∃ H', Inv X pins σ H' s' ∧ Nx H') (fun _ _ => False) s
/-- a block between two draws: its context Y, how far its iterator is; the iterator's objects are not told by H -/
structure Btw (Y : Cx) (tn : Nat → Heap → Prop) (fp : List Addr) (w : L2.St) (i : Nat) (H : Hp) (s : Shared) : Prop where
  inv : Inv Y [] w H s
  far : tn i s.heap
  off : ∀ b, b ∈ fp → H b = none
section blk
variable {Y : Cx} {J : L2.It} {fp : List Addr} {it : Addr} {tn : Nat → Heap → Prop} {w : L2.St} {i : Nat} {s s7 s8 : Shared} {vs : List Nat} {σ8 : L2.St} {H8 : Hp}
theorem Btw.ours (B : Btw Y tn fp w i H s) (he : Y.ex = fp) (hp : Y.pn = []) : ∀ b ∈ fp, FpOk Y [] H b := by
  intro b hb
  have hx : b ∈ Y.ex := by rw [he]; exact hb
  have q := B.inv.ok.exf b hx
  refine ⟨B.off b hb, q.1, B.inv.ok.exfs b hx, Or.inl hx, q.2, ?_⟩
  intro c z
  rw [hp] at z
  simp at z
/-- what ran with the iterator's objects pinned is between two draws again -/
theorem Btw.again (T : Turn Y.prog Y.w Y.K tg J fp it tn) (far : tn i s7.heap) (I : Inv Y ([] ++ pinsAt fp s7.heap) σ8 H8 s8) (hw : L2.wipe σ8 vs = L2.wipe σ vs) : Btw Y tn fp (L2.wipe σ vs) i H8 s8 := by
  have pinned : ∀ b ∈ fp, ∀ o, s7.heap.get? b = some o → s8.heap.get? b = some o ∧ H8 b = none := by
    intro b hb o e
    have z := I.pin ⟨b, o⟩ (List.mem_append.mpr (.inr (List.mem_append.mpr (.inr (mem_pinsAt hb e)))))
    exact ⟨z.1, z.2.1⟩
  have less := (I.unpinned (pins := [])).weak (σ' := L2.wipe σ8 vs) (L2.wipe_length σ8 vs) fun _ _ e => (L2.wipe_some e).1
  constructor
  · rwa [hw] at less
  · exact T.keep i _ _ far fun b hb o e => (pinned b hb o e).1
  · intro b hb
    obtain ⟨o, e, _⟩ := T.obj i _ far b hb
    exact (pinned b hb o e).2
/-- the loop of a dict's block -/
theorem dcG_loop {kx vx iter : Expr} {ifs : List Expr} {scope : Scope} {pos : Pos} {st : TSt} {g : TG} {tt : TT} {tk tv : TE} {W : Nat → Nat → Hp → Prop} {QQ : Hp → Prop} {R : Result → Shared → Prop}
    (T : Turn Y.prog Y.w Y.K tg J fp it tn) (hc : Y.calm = true) (he : Y.ex = fp) (hp : Y.pn = []) (hx : Y.xe = fun _ _ => False)
    (pg : PG Y tg g) (pt : PTs Y ifs tt) (pk : PE Y kx tk) (pv : PE Y vx tv) (ps : StR Y st)
    (turn : ∀ i m H, W i m H → (J.stop i H ∧ QQ H) ∨ (J.go i H ∧ ∃ Nx : Hp → Prop, (∀ H', Nx H' → ∃ m', m' < m ∧ W (i + 1) m' H') ∧ ∀ x H', J.yld i H x H' → g x (L2.wipe σ vs) H' fun σ2 H2 => L2.wipe σ2 vs = L2.wipe σ vs ∧ tt σ2 H2 fun b H3 =>
      if b = true then tk σ2 H3 fun y H4 => tv σ2 H4 fun z H5 => st p y z H5 Nx else Nx H3))
    (last : ∀ s' H', Inv Y [] (L2.wipe σ vs) H' s' → QQ H' → R (.ok .next) s')
    {m0 : Nat} (B0 : Btw Y tn fp (L2.wipe σ vs) 0 H s) (w0 : W 0 m0 H) :
    codeAny (model Y.prog Y.w) Y.A (.compLoop (.DictComp kx vx [⟨tg, iter, ifs, 0⟩] scope pos) 0 (.ref it) (.ref p) Y.env) R s := by
  refine L2.compLoop_anyD (fun n s' => ∃ i H', Btw Y tn fp (L2.wipe σ vs) i H' s' ∧ W i n H') ?_ m0 ⟨0, H, B0, w0⟩
  intro n s1 ⟨i, H1, B, w1⟩
  have ours := B.ours he hp
  rcases turn i n H1 w1 with ⟨stop, qq⟩ | ⟨go, Nx, less, step⟩
  · refine thnF (T.done Y rfl rfl rfl hc i [] s1 _ H1 (fun _ _ => False) B.inv ours B.far stop) fun r s2 ⟨hr, I2⟩ => ?_
    rw [hr]
    exact last s2 H1 I2 qq
  · refine thnF (T.item Y rfl rfl rfl hc i [] s1 _ H1 (fun _ _ => False) B.inv ours B.far go) fun r s2 ⟨u, hr, drawn⟩ => ?_
    rw [hr]
    refine thnF drawn fun _ s3 ⟨x, H3, I3, rx, hy, far3, off3⟩ => ?_
    have I3 := I3.pinned ((Btw.mk I3 far3 off3).ours he hp) (T.obj _ _ far3)
    have bound := pg.run _ s3 _ H3 x u _ I3 rx (step x H3 hy)
    rw [hx] at bound
    refine thnF bound fun _ s4 ⟨σ4, H4, I4, hw, q4⟩ => ?_
    have back : ∀ {s' : Shared} {H' : Hp}, Inv Y ([] ++ pinsAt fp s3.heap) σ4 H' s' → Nx H' → ∃ m, m < n ∧ ∃ i H', Btw Y tn fp (L2.wipe σ vs) i H' s' ∧ W i m H' := fun I nx =>
      let ⟨m', hm, w'⟩ := less _ nx
      ⟨m', hm, _, _, Btw.again T far3 I hw, w'⟩
    have tested := pt.run _ s4 σ4 H4 _ I4 q4
    rw [hx] at tested
    refine thnF tested fun b s5 ⟨H5, I5, q5⟩ => ?_
    cases b
    · exact back I5 q5
    · have key := pk.run _ s5 σ4 H5 _ I5 q5
      rw [hx] at key
      refine thnF key fun _ s6 ⟨y, H6, I6, ry, q6⟩ => ?_
      have val := pv.run _ s6 σ4 H6 _ I6 q6
      rw [hx] at val
      refine thnF val fun _ s7 ⟨z, H7, I7, rz, q7⟩ => ?_
      exact thnF (ps _ s7 σ4 H7 p y z _ _ Nx I7 ry rz q7) fun _ s8 ⟨H8, I8, q8⟩ => back I8 q8
end blk
/-- the heap with a new empty dict at its end -/
abbrev withDict (s : Shared) : Shared := { s with heap := s.heap.push { cls := .type "dict", data := .dict #[] } }
/-- the frame's block, as the model makes it at s -/
abbrev blkEnv (X : Cx) (scope : Scope) (s : Shared) : Env := compEnvC scope (cellsFrom (s.heap.objs.size + 1) scope.names (cloFrom X.env.cells scope.names [])) s.heap.objs.size X.env
theorem dcG_run {pins : List (Addr × Obj)} {s : Shared} {σ : L2.St} {H : Hp} {Q : VK} {o0 : Addr → HO} {st : TSt} {kx vx tg iter : Expr} {ifs : List Expr} {scope : Scope} {own : List (Str × Nat)} {pos pos' : Pos} {wi : TI} {g : TG} {tt : TT} {tk tv : TE} {use : Option (Value → Sem Unit)} {Qf : Value → Shared → Prop}
    (cal : X.calm = true) (nd : X.N.Nodup) (iv : Inv X pins σ H s) (src : PI X tg iter wi) (bo : BlkOk X.N X.env.scope scope own) (fs : ∀ x, foldedSetIterable iter X.env x = pure x)
    (new : ∀ (Hh : Hp) (h : Heap), sysModules < h.objs.size → ObjOk X.prog X.w Hh (h.push { cls := .type "dict", data := .dict #[] }) h.objs.size (o0 h.objs.size))
    (parts : ∀ s Hb cc cl fp, let Y := X.blk s Hb scope (compEnvC scope cl cc X.env) fp; StR Y st ∧ PG Y tg g ∧ PTs Y ifs tt ∧ PE Y kx tk ∧ PE Y vx tv)
    (h : tDcG o0 st wi g tt tk tv (own.map (·.2)) σ H Q)
    (after : ∀ D C s' m H', Inv X pins σ H' s' → Q (.ref D) H' → s'.heap.Ns C m → FpOk X pins H' C → compPost (model X.prog X.w) X.A X.xe use Qf (.ref D) C (.ok .next) s') :
    wpAny (model X.prog X.w) X.A
      (comprehension (.DictComp kx vx [⟨tg, iter, ifs, 0⟩] scope pos) scope X.env pos' newDict false (eval iter X.env) use) Qf X.xe s := by
  have clo := closure_ok (scope := scope) (env := X.env) fun y hy e => (bo.free y hy e).elim (fun k => iv.ok.has _ (.inl k)) fun k => iv.ok.has _ (.inr k)
  refine wpAny_comprehension_free rfl fs clo bo.kind (fun y hy e => (bo.uniq y hy).trans (congrArg some e)) (thn (src.run pins s σ H _ iv h) fun _ _ drawn => thn drawn fun _ s2 at2 => ?_)
  obtain ⟨it, fp, tn, J, H2, rfl, I2, T, far2, off2, q⟩ := at2
  refine wpAny_newObj_type (L2.newEnv_comp ?_)
  have fresh : H2 s2.heap.objs.size = none := I2.hok.fresh (Nat.le_refl _)
  obtain ⟨W, ⟨m0, w0⟩, turn⟩ := q s2.heap.objs.size fresh
  have keeps : ∀ b u, s2.heap.get? b = some u → (withDict s2).heap.get? b = some u := fun b u e => Heap.get?_push_of_some _ e
  have I3 : Inv X pins σ (upd H2 s2.heap.objs.size (o0 s2.heap.objs.size)) (withDict s2) := I2.laid (t' := s2.toks) keeps (Nat.le_refl _) (new _ _ I2.big)
  have far3 : tn 0 (withDict s2).heap := T.keep 0 _ _ far2 fun b _ o => keeps b o
  have off3 : ∀ b ∈ fp, FpOk X pins (upd H2 s2.heap.objs.size (o0 s2.heap.objs.size)) b ∧ b < (withDict s2).heap.objs.size := fun b hb => by
    obtain ⟨o, e, _⟩ := T.obj 0 _ far2 b hb
    have lt := Heap.lt_size e
    obtain ⟨f1, f2⟩ := off2 b hb
    exact ⟨⟨(upd_ne (Nat.ne_of_lt lt)).trans f1, f2⟩, Nat.lt_of_lt_of_le lt (by rw [Heap.size_push]; exact Nat.le_succ _)⟩
  obtain ⟨ps, pg, pt, pk, pv⟩ := parts (withDict s2) (upd H2 s2.heap.objs.size (o0 s2.heap.objs.size)) (withDict s2).heap.objs.size (cellsFrom ((withDict s2).heap.objs.size + 1) scope.names (cloFrom X.env.cells scope.names [])) fp
  have I4 := block_start I3 bo nd off3
  have far4 : tn 0 (pushCells ((withDict s2).heap.push { cls := .type "dict", data := .dict #[] }) scope.names) := T.keep 0 _ _ far3 fun b _ o e => pushCells_keeps _ _ _ _ (Heap.get?_push_of_some _ e)
  have run := dcG_loop (iter := iter) (scope := scope) (pos := pos) (R := compPost (model X.prog X.w) X.A X.xe use Qf (.ref s2.heap.objs.size) (withDict s2).heap.objs.size) (Y := X.blk (withDict s2) (upd H2 s2.heap.objs.size (o0 s2.heap.objs.size)) scope (blkEnv X scope (withDict s2)) fp)
    T cal rfl rfl rfl pg pt pk pv ps turn (fun s' H' I' qq => ?_) (Btw.mk I4 far4 fun b hb => (off3 b hb).1.1) w0
  · exact codeAny_compStart_dict run (T.self X.A 0 _ _ _ far4 run)
  · have outer : Inv X pins σ H' s' := I3.call' (ch := fp) I'.os I'.base I'.hok I'.bare fun b hb =>
      let ⟨⟨_, f1, _, f3, f4, f5⟩, _⟩ := off3 b hb
      ⟨f3, f1, f4, f5⟩
    obtain ⟨m, hn, _⟩ := I'.loc
    exact after _ (withDict s2).heap.objs.size s' m H' outer qq hn (I3.fpOk (Nat.le_refl _) I'.free)
theorem pe_dcG {o0 : Addr → HO} {st : TSt} {kx vx tg iter : Expr} {ifs : List Expr} {scope : Scope} {own : List (Str × Nat)} {pos : Pos} {wi : TI} {g : TG} {tt : TT} {tk tv : TE} (cal : X.calm = true) (nd : X.N.Nodup) (src : PI X tg iter wi) (bo : BlkOk X.N X.env.scope scope own)
    (new : ∀ (Hh : Hp) (h : Heap), sysModules < h.objs.size → ObjOk X.prog X.w Hh (h.push { cls := .type "dict", data := .dict #[] }) h.objs.size (o0 h.objs.size))
    (parts : ∀ s Hb cc cl fp, let Y := X.blk s Hb scope (compEnvC scope cl cc X.env) fp; StR Y st ∧ PG Y tg g ∧ PTs Y ifs tt ∧ PE Y kx tk ∧ PE Y vx tv) (fs : ∀ x, foldedSetIterable iter X.env x = pure x) :
    PE X (.DictComp kx vx [⟨tg, iter, ifs, 0⟩] scope pos) (tDcG o0 st wi g tt tk tv (own.map (·.2))) where
  run := fun pins s σ H Q iv h => by
    rw [arm_eval_DictComp]
    refine dcG_run cal nd iv src bo fs new parts h fun D C s' m H' I' q hn ⟨f0, f1, _, f3, f4, f5⟩ => ?_
    refine ⟨m, hn, fun h2 same => ⟨.ref D, H', ?_, rfl, q⟩⟩
    exact I'.turned (t' := s'.toks) (fun b o hb e => (same.2 b hb).trans e) f0 f1 f3 f4 f5
theorem ps_setDcG {i : Nat} {y : Str} {py spos : Pos} {o0 : Addr → HO} {st : TSt} {kx vx tg iter : Expr} {ifs : List Expr} {scope : Scope} {own : List (Str × Nat)} {pos : Pos} {wi : TI} {g : TG} {tt : TT} {tk tv : TE} (cal : X.calm = true) (nd : X.N.Nodup) (hy : X.N[i]? = some y) (hyl : X.env.scope.names.lookup y = some .local)
    (hsw : swapsWith (.DictComp kx vx [⟨tg, iter, ifs, 0⟩] scope pos) (some (.Name y py)) spos.line X.env = pure true) (src : PI X tg iter wi) (bo : BlkOk X.N X.env.scope scope own)
    (new : ∀ (Hh : Hp) (h : Heap), sysModules < h.objs.size → ObjOk X.prog X.w Hh (h.push { cls := .type "dict", data := .dict #[] }) h.objs.size (o0 h.objs.size))
    (parts : ∀ s Hb cc cl fp, let Y := X.blk s Hb scope (compEnvC scope cl cc X.env) fp; StR Y st ∧ PG Y tg g ∧ PTs Y ifs tt ∧ PE Y kx tk ∧ PE Y vx tv) (fs : ∀ x, foldedSetIterable iter X.env x = pure x) :
    PS X (.Assign [.Name y py] (.DictComp kx vx [⟨tg, iter, ifs, 0⟩] scope pos) spos) (L2.tAsg (tDcG o0 st wi g tt tk tv (own.map (·.2))) (gName i)) where
  run := fun pins s σ H DD iv h => by
    rw [exec_Assign_Name_used (hs := hsw)]
    have hh : tDcG o0 st wi g tt tk tv (own.map (·.2)) σ H (fun x H1 => gName i x σ H1 DD.nx) := h
    refine wpAny_bind (wpAny_standAt (wpAny_bind (wpAny_bind (thn (dcG_run (Qf := fun _ s' => SP X pins DD .next s') cal nd iv src bo fs new parts hh fun L C s' m H' I' q hn ⟨f0, f1, _, f3, f4, f5⟩ => ?_) fun _ _ done => wpAny_pure (wpAny_pure done)))))
    refine wpAny_assign_Name (L2.store_ok2 (v := V.ref L) I' nd hy (.inl hyl) rfl (fun s2 I2 ⟨a, sb, ha⟩ => ?_) (.inr hyl))
    have far : C ≠ a := fun e => ha.elim (fun z => f1 (e.trans z)) fun z => f4 y a z e.symm
    exact ⟨m, hn.sameBut sb far, fun h3 same => ⟨_, H', I2.turned (t' := s2.toks) (fun b o hb e => (same.2 b hb).trans e) f0 f1 f3 f4 f5, q⟩⟩

/-- the empty dict of a kind -/
def o0 (C : Cf) (x : Bool) (p : Addr) : HO := if x = true then dxO C.w p [] else .dK []
theorem o0_ok (hw : X.w = C.w) (x : Bool) (Hh : Hp) (h : Heap) (hb : sysModules < h.objs.size) : ObjOk X.prog X.w Hh (h.push { cls := .type "dict", data := .dict #[] }) h.objs.size (o0 C x h.objs.size) := by
  cases x with
  | false => exact L2.dk_empty h hb
  | true =>
    refine ⟨⟨beq_eq_false_iff_ne.mpr (Ne.symm (Nat.ne_of_lt hb)), [], .nil, _, #[], 0, Heap.get?_push_size _ rfl, ⟨rfl, rfl, rfl⟩, rfl, rfl, List.nodup_nil⟩, ⟨_, Heap.get?_push_size _ rfl⟩, ?_⟩
    rintro h1 h2 ⟨n, zs, hp, o, des, ep, g1, r⟩ hk
    exact ⟨n, zs, hp, o, des, ep, hk _ g1, r⟩
theorem o0_ct (x : Bool) {H : Hp} (p : Addr) : CtAt C F (upd H p (o0 C x p)) (mkDic x []) p := by
  cases x with
  | false => exact ⟨[], upd_same, .nil⟩
  | true => exact ⟨[], upd_same, .nil⟩
def stD (C : Cf) (x : Bool) : TSt := fun p y z H Nx => ∃ F kvs k d, Same F H ∧ CtAt C F H (mkDic x kvs) p ∧ keyOk x k = true ∧ kvs.length < line ∧ Rep C F k y ∧ Rep C F d z ∧ ∀ o, CtAt C F (upd H p o) (mkDic x (dput kvs k d)) p → Nx (upd H p o)
theorem stD_ok (hu : X.A.units + 64 < cLine) (hK : X.K = C.K) (hw : X.w = C.w) (x : Bool) : StR X (stD C x) := by
  intro pins s σ H a y v u r Nx I ru rr ⟨F, kvs, k, d, sm, h, ok, hl, ry, rd, q⟩
  cases x with
  | false =>
    obtain ⟨ps, h1, h2⟩ := (show CtAt C F H (.dk kvs) a from h)
    obtain ⟨k', rfl⟩ := plain_key ok
    have ey := rep_key ry
    subst ey
    refine L2.d_dictSet I h1 (by rw [← Paired.length h2, sizeLine_eq]; exact hl) ru rr fun s' I' => ⟨_, I', ?_⟩
    exact q _ (show CtAt C F _ (.dk _) a from ⟨_, upd_same, DK_put rd h2⟩)
  | true =>
    obtain ⟨es, h1, h2⟩ := (show CtAt C F H (.dx kvs) a from h)
    obtain ⟨b, rfl⟩ := rep_tup_ref ry (keyOk_t ok).1
    cases ru
    obtain ⟨hd, zs, hp, dd⟩ := dx_dict I hK hw sm h1 h2
    have hz : zs.length ≤ sizeLine := by rw [← Paired.length hp, ← Paired.length h2, sizeLine_eq]; exact Nat.le_of_lt hl
    refine wpAny_dictSet_heap (hsz := hz) (show X.A.units + 8 < cLine by omega) (key_is I hK sm ry ok) dd fun h' dd' hs => ?_
    obtain ⟨o, des, ep, g1, g2, g3, g4, _, g5⟩ := dd'
    refine ⟨_, L2.d_write (ob := dxO C.w a (exPut es (toN k) b v)) I (by rw [h1]; exact True.intro) hs ⟨o, g1⟩ ?_, q (dxO C.w a (exPut es (toN k) b v)) (show CtAt C F _ (.dx _) a from ⟨_, upd_same, DZ_put ok ry rd h2⟩)⟩
    refine ⟨⟨hd, _, EZ_put rr hp, o, des, ep, g1, g2, g3, by rw [g4, ← hw]; rfl, g5⟩, ⟨o, g1⟩, ?_⟩
    rintro h1 h2 ⟨n, zs, hp, o, des, ep, g1, r⟩ hk
    exact ⟨n, zs, hp, o, des, ep, hk _ g1, r⟩
end
end Ev

set_option linter.all false
set_option maxRecDepth 100000
/-! Ev12: comprehensions as expressions, chains, isinstance, {}. -/
namespace Ev
open PySem PySem.Spec PyProof.Rows
open L2 (Hp HO V Cx Inv SqL SqT Same upd upd_same upd_ne TE VK PE PT PA PS PSs PG PGs PI PIE PTs Key kV EP SP TP Rd RelV Vis Loc Gl OpR R2 UnR CallR Dp DpAll Sp FnOk Room Binds XK BlkOk)
open L2 (tOp tUn pe_op pe_un thn thnF rI rI0 rU IxR PlainIx SlR TA TI TG TT Itl Itt Itr Itv gName gNil gCons gTup tLc tLc2)

section
variable {C : Cf} {X : Cx} {F F' F1 F2 H H' H1 H2 H0 : Hp} {ρ ρ' ρ1 ρ2 : List Addr} {m m' m1 m2 : Mem} {env : Fr} {σ : L2.St} {a b c tg it : Expr} {φa φb : Fr → Mem → R Vw} {pos p2 p : Pos} {ct ct' : Ct}

theorem dc_read {x : Bool} {scope : Scope} {tge ite kx vx : Expr} {ifs : List Expr} {t : TG} {tg : Tg} {vs : List Nat} {φi : Fr → Mem → R (List D)} {φc : Fr → Mem → R Bool} {φk φv : Fr → Mem → R D}
    (hi : SI C X tge ite false φi) (hg : TgOk C t tg) (hc : ∀ s Hb cc cl fp, SBs C (BX X scope s Hb cc cl fp) ifs φc) (hk : ∀ s Hb cc cl fp, SD C (BX X scope s Hb cc cl fp) kx φk) (he : ∀ s Hb cc cl fp, SD C (BX X scope s Hb cc cl fp) vx φv)
    (h1 : ∀ i ∈ vs, i ∈ tg.is) (h2 : ∀ i ∈ tg.is, i ∈ vs) :
    SXr C (tDcG (o0 C x) (stD C x) (wpI X tge ite) t (fun σ H Q => ∀ s Hb cc cl fp, wpTs (BX X scope s Hb cc cl fp) ifs σ H Q) (fun σ H Q => ∀ s Hb cc cl fp, wpT (BX X scope s Hb cc cl fp) kx σ H Q) (fun σ H Q => ∀ s Hb cc cl fp, wpT (BX X scope s Hb cc cl fp) vx σ H Q) vs)
      (fun env m => (φi env m).bind fun xs m1 => (dcLoop (fun y m2 => (opt (setTg tg y env) m2).bind fun env1 m3 => (φc env1 m3).bind fun t m4 =>
        if t then (φk env1 m4).bind fun a m5 => (φv env1 m5).bind fun b m6 => if keyOk x a then .ok [(a, b)] m6 else .bad else .ok [] m4) xs [] m1).bind fun kvs m2 => .ok (.f (mkDic x kvs)) m2) := by
  intro env m r m' hφ σ F ρ H H0 f w Q hQ
  obtain ⟨xs, m1, e1, k1⟩ := R.bind_eq_ok hφ
  obtain ⟨kvs, m2, e2, k2⟩ := R.bind_eq_ok k1
  cases k2
  refine hi env m xs m1 e1 σ F ρ H H0 f w _ fun J F1 ρ1 H1 x1 w1 j1 => ?_
  intro p hp
  generalize hf : (fun (y : D) (m2 : Mem) => (opt (setTg tg y env) m2).bind fun env1 m3 => (φc env1 m3).bind fun t m4 =>
        if t then (φk env1 m4).bind fun a m5 => (φv env1 m5).bind fun b m6 => if keyOk x a then R.ok [(a, b)] m6 else R.bad else R.ok [] m4) = fn at e2
  let Pv : Nat → Hp → Prop := fun i H => ∃ mi acc F ρ, LcSt C mi F1 ρ1 H1 p (mkDic x acc) F ρ H ∧ dcLoop fn (xs.drop i) acc mi = .ok kvs m'
  refine ⟨fun i k H => k = xs.length - i ∧ i ≤ xs.length ∧ Pv i H, ⟨xs.length, by simp, Nat.zero_le _, m1, [], F1, ρ1, LcSt.start w1 hp (o0_ct x p), by simpa using e2⟩, ?_⟩
  rintro i k H3 ⟨rfl, hi, mi, acc, F3, ρ3, l3, e3⟩
  by_cases hlt : i < xs.length
  · right
    have hd : xs[i]? = some xs[i] := by simp [hlt]
    obtain ⟨hgo, hyld⟩ := (j1 mi F3 ρ3 H3 l3.ext l3.wo i).1 _ hd
    refine ⟨hgo, Pv (i + 1), fun H' p' => ⟨xs.length - (i + 1), by omega, rfl, hlt, p'⟩, fun y H4 hy => ?_⟩
    obtain ⟨F4, x4, w4, r4⟩ := hyld y H4 hy
    have l4 := l3.step x4 w4
    rw [drop_cons hlt] at e3
    obtain ⟨kv, m5, e5, k5⟩ := R.bind_eq_ok e3
    split at k5
    · rename_i hlen
      have hlen := of_decide_eq_true hlen
      have e5' := e5
      rw [← hf] at e5'
      obtain ⟨env1, m7, e7, k7⟩ := R.bind_eq_ok e5'
      obtain ⟨e7a, rfl⟩ := opt_eq_ok e7
      obtain ⟨t1, m8, e8, k8⟩ := R.bind_eq_ok k7
      have fw : FrOk C (Ev.wipe env vs) (L2.wipe σ vs) F4 H4 ρ3 H0 := ((f.step (x1.trans l3.ext)).step x4).wipe vs
      have e7' : setTg tg xs[i] (Ev.wipe env vs) = some env1 := setTg_ext e7a (wipe_len _ _) fun j hj => wipe_ne fun z => hj (h1 j z)
      refine hg _ _ _ e7' y (L2.wipe σ vs) F4 H4 ρ3 H0 fw w4.same r4 _ fun us f1 => ?_
      refine ⟨by rw [sAll_wipe h2]; exact wipe_sub fun _ h => h, fun s Hb cc cl fp => ?_⟩
      refine hc s Hb cc cl fp env1 m7 t1 m8 e8 _ F4 ρ3 H4 H0 f1 w4 _ fun F5 ρ5 H5 x5 w5 => ?_
      have l5 := l4.step x5 w5
      cases t1 with
      | false =>
        rw [if_neg Bool.false_ne_true] at k8 ⊢
        cases k8
        exact ⟨_, acc, F5, ρ5, l5, k5⟩
      | true =>
        rw [if_pos rfl] at k8 ⊢
        obtain ⟨ka, m9, e9, k9⟩ := R.bind_eq_ok k8
        obtain ⟨vb, m10, e10, k10⟩ := R.bind_eq_ok k9
        split at k10
        · rename_i hka
          cases k10
          intro s Hb cc cl fp
          refine hk s Hb cc cl fp env1 m8 ka _ e9 _ F5 ρ5 H5 H0 (f1.step x5) w5 _ fun u F6 ρ6 H6 x6 w6 r6 => ?_
          have l6 := l5.step x6 w6
          intro s Hb cc cl fp
          refine he s Hb cc cl fp env1 m9 vb _ e10 _ F6 ρ6 H6 H0 ((f1.step x5).step x6) w6 _ fun v F7 ρ7 H7 x7 w7 r7 => ?_
          have l7 := l6.step x7 w7
          exact ⟨F7, acc, ka, vb, w7.same, l7.at_, hka, hlen, r6.mono x7.sF, r7, fun o ho => ⟨_, dput acc ka vb, F7, ρ7, l7.write ho, k5⟩⟩
        · cases k10
    · cases k5
  · left
    have hi' : i = xs.length := by omega
    subst hi'
    refine ⟨(j1 mi F3 ρ3 H3 l3.ext l3.wo _).2 rfl, ?_⟩
    rw [List.drop_length] at e3
    cases e3
    obtain ⟨x5, r5⟩ := l3.done x1
    exact hQ _ F3 ρ3 H3 x5 l3.wo r5
/-- what a block's parts are, for its readings -/
theorem pts_all {ifs : List Expr} {scope : Scope} (s : Shared) (Hb : Hp) (cc : Addr) (cl : List (Str × Addr)) (fp : List Addr) : PTs (BX X scope s Hb cc cl fp) ifs (fun σ H Q => ∀ s Hb cc cl fp, wpTs (BX X scope s Hb cc cl fp) ifs σ H Q) := ⟨fun pins t σ H Q I h => let ⟨_, p, q⟩ := h s Hb cc cl fp; p.run pins t σ H Q I q⟩
theorem pe_all {e : Expr} {scope : Scope} (s : Shared) (Hb : Hp) (cc : Addr) (cl : List (Str × Addr)) (fp : List Addr) : PE (BX X scope s Hb cc cl fp) e (fun σ H Q => ∀ s Hb cc cl fp, wpT (BX X scope s Hb cc cl fp) e σ H Q) := ⟨fun pins t σ H Q I h => h s Hb cc cl fp pins t I⟩
theorem pi_all {tge ite : Expr} {scope : Scope} (s : Shared) (Hb : Hp) (cc : Addr) (cl : List (Str × Addr)) (fp : List Addr) : PI (BX X scope s Hb cc cl fp) tge ite (fun σ H Q => ∀ s Hb cc cl fp, wpI (BX X scope s Hb cc cl fp) tge ite σ H Q) := ⟨fun pins t σ H Q I h => h s Hb cc cl fp pins t I⟩
theorem sx_d0 (hw : X.w = C.w) (x : Bool) : SX C X (.Dict [] [] pos) (fun _ m => .ok (.f (mkDic x [])) m) := by
  intro env m r m' hφ σ F ρ H H0 f w Q hQ
  cases hφ
  intro pins s I
  have hp := I.hok.fresh (Nat.le_refl s.heap.objs.size)
  refine wpAny_Dict_empty ⟨.ref s.heap.objs.size, _, I.laid (a := s.heap.objs.size) (o := o0 C x s.heap.objs.size) (t' := s.toks) (fun _ _ q => Heap.get?_push_of_some _ q) (Nat.le_refl _) (o0_ok hw x _ s.heap I.big), rfl, ?_⟩
  obtain ⟨x5, r5⟩ := (LcSt.start (ct := mkDic x []) w hp (o0_ct x _)).done Ext.refl
  exact hQ _ F ρ _ x5 (w.new hp) r5

/-- the built-in types among themselves -/
def tyNs : List String := ["NoneType", "bool", "int", "str", "tuple", "list", "dict"]
def tyQ : List String := ["bool", "int", "str", "tuple", "list"]
def TyF (K : PySem.W.Frag) : Prop := ∀ t ∈ tyNs, ∀ u ∈ tyQ, PySem.W.kitOne K (.type t) (.type u) = some (t == u || (t == "bool" && u == "int"))
theorem nm_in {t : Ty} {n : String} (e : t.nm = some n) : n ∈ tyQ := by
  cases t <;> first | (cases e; decide) | cases e
theorem tyx {x : Vw} {v : V} {n : String} (hK : X.K = C.K) (sm : Same F H) (h : VaOk C F H x v) (e : tyOf x = some n) : L2.TyX X.K H v (.type n) ∧ n ∈ tyNs := by
  have sqT : ∀ {a : Addr} {vs : List V}, SqT C.K H a vs → L2.TyX X.K H (.ref a) (.type "tuple") := fun {a vs} q => by
    rcases q with (q | ⟨o, q⟩) | ⟨o, its, k, q, qc, _⟩
    · exact .base (.tup q)
    · exact .fTuple q
    · exact .kTuple (hK ▸ q) qc
  have sqL : ∀ {a : Addr} {vs : List V}, SqL C.K H a vs → L2.TyX X.K H (.ref a) (.type "list") := fun {a vs} q => by
    rcases q with (q | ⟨o, q⟩) | ⟨o, its, k, q, qc, _⟩
    · exact .base (.lst q)
    · exact .base (.frz q)
    · exact .kList (hK ▸ q) qc
  cases x with
  | d d =>
    cases d with
    | non => cases e; have h : Rep C F .non v := h; unfold Rep at h; subst h; exact ⟨.base .non, by decide⟩
    | bl b => cases e; have h : Rep C F (.bl b) v := h; unfold Rep at h; subst h; exact ⟨.base (.bl _), by decide⟩
    | int i => cases e; have h : Rep C F (.int i) v := h; unfold Rep at h; subst h; exact ⟨.base (.int _), by decide⟩
    | str z => cases e; have h : Rep C F (.str z) v := h; unfold Rep at h; subst h; exact ⟨.base (.str _), by decide⟩
    | tup ds =>
      cases e
      obtain ⟨a, vs, rfl, q, _⟩ := VaOk.seqT (x := .d (.tup ds)) rfl h sm
      exact ⟨sqT q, by decide⟩
    | lst ds =>
      cases e
      obtain ⟨a, vs, rfl, q, _⟩ := VaOk.seqL (x := .d (.lst ds)) rfl h sm
      exact ⟨sqL q, by decide⟩
    | ins c fs => cases e
  | c c =>
    cases c with
    | lst ds =>
      cases e
      obtain ⟨a, vs, rfl, q, _⟩ := VaOk.seqL (x := .c (.lst ds)) rfl h sm
      exact ⟨sqL q, by decide⟩
    | dk kvs =>
      cases e
      obtain ⟨a, rfl, ps, q, _⟩ := h
      exact ⟨.base (.dK q), by decide⟩
    | dx kvs => cases e
    | obj fs => cases e
  | r n => cases e
theorem sx_isi {x : Str} {t : Ty} {n : String} {p3 : Pos} (hK : X.K = C.K) (hT : TyF C.K) (hn : t.nm = some n) (hg : Gl X "isinstance") (hm : X.mg "isinstance" = none) (hgx : Gl X x) (hmx : X.mg x = none) (hv : bootBuiltins x = some (.type n)) (hnx : x ≠ "__name__")
    (hdx : (x == ("__debug__" : Str)) = false) (ha : SV C X a φa) (hs : starEach [a, .Name x p3] X.env = (false, eval a X.env) :: starEach [.Name x p3] X.env) (hs2 : starEach [.Name x p3] X.env = (false, eval (.Name x p3) X.env) :: starEach [] X.env)
    (hp : (backTo pos (starEach [.Name x p3] X.env)).any (·.1) = false) :
    SX C X (.Call (.Name "isinstance" p) [a, .Name x p3] [] pos) (fun env m => (φa env m).bind fun x m1 => (opt (isiO t (x.at m1)) m1).bind fun b m2 => .ok (.d (.bl b)) m2) := by
  intro env m r m' hφ σ F ρ H H0 f w Q hQ
  obtain ⟨y, m1, e1, h1⟩ := R.bind_eq_ok hφ
  obtain ⟨b, m2, e2, h2⟩ := R.bind_eq_ok h1
  cases h2
  obtain ⟨e3, rfl⟩ := opt_eq_ok e2
  have pa : PA X [a, .Name x p3] (L2.tCons (wpT X a) (L2.tCons (L2.tC (.ty n)) L2.tNil)) := L2.pa_cons pT (L2.pa_cons (L2.pe_bltn hgx hmx hv (show RelV (V.ty n) (Value.type n) from rfl) hnx hdx) L2.pa_nil hs2) hs
  refine use (L2.pe_callB L2.call_isi hg hm rfl pa (by decide) (by decide) hs hp) ?_
  refine ha env m y _ e1 σ F ρ H H0 f w _ fun v F1 ρ1 H1 x1 w1 r1 => ?_
  unfold isiO at e3
  rw [hn] at e3
  cases hk : tyOf (y.at m') with
  | none => rw [hk] at e3; cases e3
  | some k =>
    rw [hk] at e3
    cases e3
    obtain ⟨t1, t2⟩ := tyx hK w1.same (r1.now w1) hk
    refine ⟨v, .ty n, .type k, .type n, _, rfl, .ty n, t1, hK ▸ hT k t2 n (nm_in hn), ?_⟩
    exact hQ _ F1 ρ1 H1 x1 w1 (by show Rep C F1 (.bl _) _; unfold Rep; rfl)
/-- a op b op c -/
theorem sx_cmp2 (hK : X.K = C.K) (hw : X.w = C.w) (hu : X.A.units + 70 < cLine) {o q : Cop} {φ ψ χ : Fr → Mem → R D} (ha : SD C X a φ) (hb : SD C X b ψ) (hc : SD C X c χ) (hm : lastMarks [opC o, opC q] [b, c] = false) :
    SX C X (.Compare a [opC o, opC q] [b, c] pos) (fun env m => (φ env m).bind fun x m1 => (ψ env m1).bind fun y m2 => (opt (cmpD o (.d x) (.d y)) m2).bind fun t m3 =>
      if t then (χ env m3).bind fun z m4 => (opt (cmpD q (.d y) (.d z)) m4).bind fun u m5 => .ok (.d (.bl u)) m5 else .ok (.d (.bl false)) m3) := by
  intro env m r m' hφ σ F ρ H H0 f w Q hQ
  obtain ⟨x, m1, e1, h1⟩ := R.bind_eq_ok hφ
  obtain ⟨y, m2, e2, h2⟩ := R.bind_eq_ok h1
  obtain ⟨t, m3, e3, h3⟩ := R.bind_eq_ok h2
  obtain ⟨e3a, rfl⟩ := opt_eq_ok e3
  let RR : Cop → R2 := fun o v u H2 Q2 => ∃ rr : R2, OpR X (compareOp (opC o)) rr ∧ rr v u H2 Q2
  have hRR : ∀ o, OpR X (compareOp (opC o)) (RR o) := fun o pins s σ H x y v u Q I rx ry ⟨rr, ho, q⟩ => ho pins s σ H x y v u Q I rx ry q
  refine use (L2.pe_chain (hRR o) (hRR q) pT pT pT hm) ?_
  refine ha env m x _ e1 σ F ρ H H0 f w _ fun v F1 ρ1 H1 x1 w1 r1 => ?_
  refine hb env m1 y _ e2 σ F1 ρ1 H1 H0 (f.step x1) w1 _ fun u F2 ρ2 H2 x2 w2 r2 => ?_
  obtain ⟨rr, ho, hq⟩ := cmp_ok (X := X) hK hw hu e3a w2 (show VaOk C F2 H2 (.d x) v from r1.mono x2.sF) (show VaOk C F2 H2 (.d y) u from r2)
  refine ⟨rr, ho, hq _ ⟨t, rfl, ?_⟩⟩
  cases t with
  | false =>
    rw [if_neg Bool.false_ne_true] at h3 ⊢
    cases h3
    exact hQ _ F2 ρ2 H2 (x1.trans x2) w2 (by show Rep C F2 (.bl _) _; unfold Rep; rfl)
  | true =>
    rw [if_pos rfl] at h3 ⊢
    obtain ⟨z, m4, e4, h4⟩ := R.bind_eq_ok h3
    obtain ⟨k, m5, e5, h5⟩ := R.bind_eq_ok h4
    cases h5
    obtain ⟨e5a, rfl⟩ := opt_eq_ok e5
    refine hc env _ z _ e4 σ F2 ρ2 H2 H0 ((f.step x1).step x2) w2 _ fun t F3 ρ3 H3 x3 w3 r3 => ?_
    obtain ⟨rr, ho, hq⟩ := cmp_ok (X := X) hK hw hu e5a w3 (show VaOk C F3 H3 (.d y) u from r2.mono x3.sF) (show VaOk C F3 H3 (.d z) t from r3)
    exact ⟨rr, ho, hq _ (hQ _ F3 ρ3 H3 ((x1.trans x2).trans x3) w3 (by show Rep C F3 (.bl _) _; unfold Rep; rfl))⟩
theorem sb_cmp2 (hK : X.K = C.K) (hw : X.w = C.w) (hu : X.A.units + 70 < cLine) {o q : Cop} {φ ψ χ : Fr → Mem → R D} (ha : SD C X a φ) (hb : SD C X b ψ) (hc : SD C X c χ) (hm : lastMarks [opC o, opC q] [b, c] = false) :
    SB C X (.Compare a [opC o, opC q] [b, c] pos) (fun env m => asB ((φ env m).bind fun x m1 => (ψ env m1).bind fun y m2 => (opt (cmpD o (.d x) (.d y)) m2).bind fun t m3 =>
      if t then (χ env m3).bind fun z m4 => (opt (cmpD q (.d y) (.d z)) m4).bind fun u m5 => .ok (.d (.bl u)) m5 else .ok (.d (.bl false)) m3)) := by
  intro env m r m' hφ0 σ F ρ H H0 f w Q hQ
  have hφ := asB_ok hφ0
  obtain ⟨x, m1, e1, h1⟩ := R.bind_eq_ok hφ
  obtain ⟨y, m2, e2, h2⟩ := R.bind_eq_ok h1
  obtain ⟨t, m3, e3, h3⟩ := R.bind_eq_ok h2
  obtain ⟨e3a, rfl⟩ := opt_eq_ok e3
  let RR : Cop → R2 := fun o v u H2 Q2 => ∃ rr : R2, OpR X (compareOp (opC o)) rr ∧ rr v u H2 Q2
  have hRR : ∀ o, OpR X (compareOp (opC o)) (RR o) := fun o pins s σ H x y v u Q I rx ry ⟨rr, ho, q⟩ => ho pins s σ H x y v u Q I rx ry q
  refine useB (L2.pt_chain (hRR o) (hRR q) pT pT pT hm) ?_
  refine ha env m x _ e1 σ F ρ H H0 f w _ fun v F1 ρ1 H1 x1 w1 r1 => ?_
  refine hb env m1 y _ e2 σ F1 ρ1 H1 H0 (f.step x1) w1 _ fun u F2 ρ2 H2 x2 w2 r2 => ?_
  obtain ⟨rr, ho, hq⟩ := cmp_ok (X := X) hK hw hu e3a w2 (show VaOk C F2 H2 (.d x) v from r1.mono x2.sF) (show VaOk C F2 H2 (.d y) u from r2)
  refine ⟨rr, ho, hq _ ⟨t, rfl, ?_⟩⟩
  cases t with
  | false =>
    rw [if_neg Bool.false_ne_true] at h3 ⊢
    cases h3
    exact ⟨_, rfl, hQ F2 ρ2 H2 (x1.trans x2) w2⟩
  | true =>
    rw [if_pos rfl] at h3 ⊢
    obtain ⟨z, m4, e4, h4⟩ := R.bind_eq_ok h3
    obtain ⟨k, m5, e5, h5⟩ := R.bind_eq_ok h4
    cases h5
    obtain ⟨e5a, rfl⟩ := opt_eq_ok e5
    refine hc env _ z _ e4 σ F2 ρ2 H2 H0 ((f.step x1).step x2) w2 _ fun t F3 ρ3 H3 x3 w3 r3 => ?_
    obtain ⟨rr, ho, hq⟩ := cmp_ok (X := X) hK hw hu e5a w3 (show VaOk C F3 H3 (.d y) u from r2.mono x3.sF) (show VaOk C F3 H3 (.d z) t from r3)
    exact ⟨rr, ho, hq _ ⟨_, rfl, hQ F3 ρ3 H3 ((x1.trans x2).trans x3) w3⟩⟩
end
end Ev

set_option linter.all false
set_option maxRecDepth 100000
/-! Ev13: statements. -/
namespace Ev
open PySem PySem.Spec PyProof.Rows
open L2 (Hp HO V Cx Inv SqL SqT Same upd upd_same upd_ne TE VK PE PT PA PS PSs PG PGs PI PIE PTs PSet Key kV EP SP TP Rd RelV Vis Loc Gl OpR R2 UnR CallR Dp DpAll Sp FnOk Room Binds XK BlkOk)
open L2 (tOp tUn pe_op pe_un thn thnF rI rI0 rU IxR PlainIx SlR TA TI TG TT TS TSet Itl Itt Itr Itv gName gNil gCons gTup tLc tLc2 tAsg tDrop tRet tFor tWhile tSeq gSub)

section
variable {C : Cf} {X : Cx} {F F' F0 F1 F2 H H' H1 H2 H0 : Hp} {ρ ρ' ρ0 ρ1 ρ2 : List Addr} {m m' m1 m2 : Mem} {env env' : Fr} {σ : L2.St} {a b c tg it : Expr} {φa φb : Fr → Mem → R Vw} {pos p2 : Pos} {ct ct' : Ct} {p : Addr} {st : Stmt} {sts : List Stmt} {o : Out} {DD : L2.Ends}

def wpS (X : Cx) (st : Stmt) : TS := fun DD σ H => ∀ pins s, Inv X pins σ H s → wpAny (model X.prog X.w) X.A (exec st X.env) (SP X pins DD) X.xe s
theorem pS : PS X st (wpS X st) := ⟨fun pins s σ H DD I h => h pins s I⟩
theorem useS {t : TS} (h : PS X st t) (q : t DD σ H) : wpS X st DD σ H := fun pins s I => h.run pins s σ H DD I q
def wpSs (X : Cx) (sts : List Stmt) : TS := fun DD σ H => ∀ pins s, Inv X pins σ H s → wpAny (model X.prog X.w) X.A (execs sts X.env) (SP X pins DD) X.xe s
theorem pSs : PSs X sts (wpSs X sts) := ⟨fun pins s σ H DD I h => h pins s I⟩
theorem useSs {t : TS} (h : PSs X sts t) (q : t DD σ H) : wpSs X sts DD σ H := fun pins s I => h.run pins s σ H DD I q
/-- a place of the run -/
structure At (C : Cf) (env : Fr) (m : Mem) (F0 : Hp) (ρ0 : List Addr) (H0 : Hp) (σ : L2.St) (F : Hp) (ρ : List Addr) (H : Hp) : Prop where
  fr : FrOk C env σ F H ρ H0
  wo : Wo C m F ρ H
  ex : Ext F0 ρ0 H0 F ρ H
def NxOk (C : Cf) (env : Fr) (m : Mem) (F0 : Hp) (ρ0 : List Addr) (H0 : Hp) (Q : L2.St → Hp → Prop) : Prop := ∀ σ F ρ H, At C env m F0 ρ0 H0 σ F ρ H → Q σ H
/-- the ends, as an outcome asks them -/
def EndOk (C : Cf) (o : Out) (m : Mem) (F0 : Hp) (ρ0 : List Addr) (H0 : Hp) (DD : L2.Ends) : Prop := match o with
  | .nx env => NxOk C env m F0 ρ0 H0 DD.nx
  | .ct env => NxOk C env m F0 ρ0 H0 DD.ct
  | .brk env => NxOk C env m F0 ρ0 H0 DD.bk
  | .ret r => ∀ v F ρ H, Ext F0 ρ0 H0 F ρ H → Wo C m F ρ H → RvOk C H0 F H ρ r v → DD.rt v H
/-- a reading of statements does what φ says -/
def SSr (C : Cf) (t : TS) (φ : Fr → Mem → R Out) : Prop :=
  ∀ (env : Fr) (m : Mem) (o : Out) (m' : Mem), φ env m = .ok o m' → ∀ (σ : L2.St) (F : Hp) (ρ : List Addr) (H F0 : Hp) (ρ0 : List Addr) (H0 : Hp), At C env m F0 ρ0 H0 σ F ρ H → ∀ DD, EndOk C o m' F0 ρ0 H0 DD → t DD σ H
def ST (C : Cf) (X : Cx) (st : Stmt) (φ : Fr → Mem → R Out) : Prop := SSr C (wpS X st) φ
def STs (C : Cf) (X : Cx) (sts : List Stmt) (φ : Fr → Mem → R Out) : Prop := SSr C (wpSs X sts) φ
theorem SSr.ss {t : TS} {φ : Fr → Mem → R Out} (h : SSr C t φ) (ps : PS X st t) : ST C X st φ := fun env m o m' e σ F ρ H F0 ρ0 H0 a DD hD => useS ps (h env m o m' e σ F ρ H F0 ρ0 H0 a DD hD)
theorem At.step (a : At C env m F0 ρ0 H0 σ F ρ H) (x : Ext F ρ H F' ρ' H') (w : Wo C m' F' ρ' H') : At C env m' F0 ρ0 H0 σ F' ρ' H' := ⟨a.fr.step x, w, a.ex.trans x⟩
theorem Ext.h0 {b : Addr} (x : Ext F0 ρ0 H0 F ρ H) (h : H b = none) : H0 b = none := by
  cases q : H0 b with
  | none => rfl
  | some o => exact absurd h (x.th b (by rw [q]; simp))

/-! ### blocks -/
theorem sss_nil : STs C X [] (fun env m => .ok (.nx env) m) := by
  intro env m o m' e σ F ρ H F0 ρ0 H0 a DD hD
  cases e
  exact useSs L2.pss_nil (hD σ F ρ H a)
theorem sss_cons {φ ψ : Fr → Mem → R Out} (h : ST C X st φ) (hr : STs C X sts ψ) : STs C X (st :: sts) (fun env m => (φ env m).bind fun o m1 => match o with | .nx e => ψ e m1 | o => .ok o m1) := by
  intro env m o m' e σ F ρ H F0 ρ0 H0 a DD hD
  obtain ⟨o1, m1, e1, h1⟩ := R.bind_eq_ok e
  refine useSs (L2.pss_cons pS pSs) (h env m o1 m1 e1 σ F ρ H F0 ρ0 H0 a _ ?_)
  cases o1 with
  | nx e2 => exact fun σ2 F2 ρ2 H2 a2 => hr e2 m1 o m' h1 σ2 F2 ρ2 H2 F0 ρ0 H0 a2 DD hD
  | ret v => cases h1; exact hD
  | brk e2 => cases h1; exact hD
  | ct e2 => cases h1; exact hD

/-! ### names written -/
theorem ss_asg {i : Nat} {t : TE} {φ : Fr → Mem → R Rv} (ps : PS X st (tAsg t (gName i))) (hx : SXr C t φ) : ST C X st (fun env m => (asD (φ env m)).bind fun d m1 => .ok (.nx (env.set i (.val d))) m1) := by
  intro env m o m' e σ F ρ H F0 ρ0 H0 a DD hD
  obtain ⟨d, m1, e1, h1⟩ := R.bind_eq_ok e
  obtain ⟨r, m2, e2, h2⟩ := R.bind_eq_ok e1
  cases h1
  obtain ⟨e3, rfl⟩ := opt_eq_ok h2
  refine useS ps (hx env m r _ e2 σ F ρ H H0 a.fr a.wo _ fun v F' ρ' H' x w r' => ?_)
  obtain ⟨F2, x2, w2, rp⟩ := r'.dat e3 x w
  have a2 := a.step x2 w2
  exact hD _ F2 ρ' H' ⟨a2.fr.setVal rp i, w2, a2.ex⟩
theorem FrOk.setOwn {p : Addr} (f : FrOk C env σ F H ρ H0) (i : Nat) (h1 : CtAt C F H ct p) (h2 : F p = none) (h3 : p ∉ ρ) (h4 : H0 p = none) (h5 : ∀ j c, env[j]? = some (.own c) → i ≠ j → σ[j]? ≠ some (some (.ref p))) :
    FrOk C (env.set i (.own ct)) (σ.set i (some (.ref p))) F H ρ H0 := by
  have get : ∀ {j : Nat} {s : Sl}, (List.set env i (Sl.own ct))[j]? = some s → (j = i ∧ s = Sl.own ct ∧ (σ.set i (some (V.ref p)))[j]? = some (some (.ref p))) ∨ (i ≠ j ∧ env[j]? = some s ∧ (σ.set i (some (V.ref p)))[j]? = σ[j]?) := fun {j s} e => by
    by_cases q : i = j
    · subst q
      have hl : i < env.length := by have := (List.getElem?_eq_some_iff.mp e).1; simpa using this
      rw [List.getElem?_set_self hl] at e
      cases e
      exact .inl ⟨rfl, rfl, List.getElem?_set_self (by rw [← f.len]; exact hl)⟩
    · rw [List.getElem?_set_ne q] at e
      exact .inr ⟨q, e, List.getElem?_set_ne q⟩
  refine ⟨by simp [f.len], fun j d e => ?_, fun j n e => ?_, fun j c e => ?_, fun j k c c' b e1 e2 e3 e4 => ?_⟩
  · rcases get e with ⟨_, q, _⟩ | ⟨_, q, z⟩
    · cases q
    · rw [z]; exact f.val j d q
  · rcases get e with ⟨_, q, _⟩ | ⟨_, q, z⟩
    · cases q
    · rw [z]; exact f.cel j n q
  · rcases get e with ⟨_, q, z⟩ | ⟨_, q, z⟩
    · cases q; exact ⟨p, z, h1, h2, h3, h4⟩
    · rw [z]; exact f.own j c q
  · rcases get e1 with ⟨q1, k1, z1⟩ | ⟨q1, k1, z1⟩ <;> rcases get e2 with ⟨q2, k2, z2⟩ | ⟨q2, k2, z2⟩
    · rw [q1, q2]
    · rw [z1] at e3; cases e3
      rw [z2] at e4
      exact absurd e4 (h5 k c' k2 q2)
    · rw [z2] at e4; cases e4
      rw [z1] at e3
      exact absurd e3 (h5 j c k1 q1)
    · rw [z1] at e3; rw [z2] at e4
      exact f.dis j k c c' b k1 k2 e3 e4
theorem ss_asgO {i : Nat} {t : TE} {φ : Fr → Mem → R Rv} (ps : PS X st (tAsg t (gName i))) (hx : SXr C t φ) : ST C X st (fun env m => (asF (φ env m)).bind fun c m1 => .ok (.nx (env.set i (.own c))) m1) := by
  intro env m o m' e σ F ρ H F0 ρ0 H0 a DD hD
  obtain ⟨c, m1, e1, h1⟩ := R.bind_eq_ok e
  obtain ⟨r, m2, e2, h2⟩ := R.bind_eq_ok e1
  cases h1
  obtain ⟨e3, rfl⟩ := opt_eq_ok h2
  refine useS ps (hx env m r _ e2 σ F ρ H H0 a.fr a.wo _ fun v F' ρ' H' x w r' => ?_)
  cases r with
  | d d => cases e3
  | f c' =>
    cases e3
    obtain ⟨p, rfl, g1, g2, g3, g4⟩ := r'
    have a2 := a.step x w
    refine hD _ F' ρ' H' ⟨a2.fr.setOwn i g1 g2 g3 (a.ex.h0 g4) fun j c' k1 _ k2 => ?_, w, a2.ex⟩
    obtain ⟨b, k3, k4, _⟩ := a.fr.own j c' k1
    rw [k2] at k3; cases k3
    exact k4.some g4
theorem FrOk.setCell {p : Addr} {n : Nat} (f : FrOk C env σ F H ρ H0) (i : Nat) (h : ρ[n]? = some p) : FrOk C (env.set i (.cell n)) (σ.set i (some (.ref p))) F H ρ H0 := by
  have get : ∀ {j : Nat} {s : Sl}, (List.set env i (Sl.cell n))[j]? = some s → (j = i ∧ s = Sl.cell n ∧ (σ.set i (some (V.ref p)))[j]? = some (some (.ref p))) ∨ (i ≠ j ∧ env[j]? = some s ∧ (σ.set i (some (V.ref p)))[j]? = σ[j]?) := fun {j s} e => by
    by_cases q : i = j
    · subst q
      have hl : i < env.length := by have := (List.getElem?_eq_some_iff.mp e).1; simpa using this
      rw [List.getElem?_set_self hl] at e
      cases e
      exact .inl ⟨rfl, rfl, List.getElem?_set_self (by rw [← f.len]; exact hl)⟩
    · rw [List.getElem?_set_ne q] at e
      exact .inr ⟨q, e, List.getElem?_set_ne q⟩
  refine ⟨by simp [f.len], fun j d e => ?_, fun j k e => ?_, fun j c e => ?_, fun j k c c' b e1 e2 e3 e4 => ?_⟩
  · rcases get e with ⟨_, q, _⟩ | ⟨_, q, z⟩
    · cases q
    · rw [z]; exact f.val j d q
  · rcases get e with ⟨_, q, z⟩ | ⟨_, q, z⟩
    · cases q; exact ⟨p, z, h⟩
    · rw [z]; exact f.cel j k q
  · rcases get e with ⟨_, q, _⟩ | ⟨_, q, z⟩
    · cases q
    · rw [z]; exact f.own j c q
  · rcases get e1 with ⟨q1, k1, z1⟩ | ⟨q1, k1, z1⟩
    · cases k1
    · rcases get e2 with ⟨q2, k2, z2⟩ | ⟨q2, k2, z2⟩
      · cases k2
      · rw [z1] at e3; rw [z2] at e4
        exact f.dis j k c c' b k1 k2 e3 e4
theorem ss_asgC {i : Nat} {t : TE} {φ : Fr → Mem → R Rv} (ps : PS X st (tAsg t (gName i))) (hx : SXr C t φ) : ST C X st (fun env m => (asF (φ env m)).bind fun c m1 => if isObj c then .bad else .ok (.nx (env.set i (.cell m1.length))) (m1 ++ [c])) := by
  intro env m o m' e σ F ρ H F0 ρ0 H0 a DD hD
  obtain ⟨c, m1, e1, h1⟩ := R.bind_eq_ok e
  obtain ⟨r, m2, e2, h2⟩ := R.bind_eq_ok e1
  cases ho : isObj c with
  | true => rw [ho] at h1; cases h1
  | false =>
  rw [ho] at h1
  cases h1
  obtain ⟨e3, rfl⟩ := opt_eq_ok h2
  refine useS ps (hx env m r _ e2 σ F ρ H H0 a.fr a.wo _ fun v F' ρ' H' x w r' => ?_)
  cases r with
  | d d => cases e3
  | f c' =>
    cases e3
    obtain ⟨p, rfl, x2, w2, e4⟩ := new_cell x w r'
    have a2 := a.step x2 w2
    exact hD _ F' _ H' ⟨a2.fr.setCell i e4, w2, a2.ex⟩
theorem ss_tgt {tge e : Expr} {t : TG} {tt : Tg} {φ : Fr → Mem → R D} (hx : SD C X e φ) (hg : STg C X tge tt t) (ps : ∀ te, PE X e te → PS X st (tAsg te t)) : ST C X st (fun env m => (φ env m).bind fun d m1 => (opt (setTg tt d env) m1).bind fun env1 m2 => .ok (.nx env1) m2) := by
  intro env m o m' e σ F ρ H F0 ρ0 H0 a DD hD
  obtain ⟨d, m1, e1, h1⟩ := R.bind_eq_ok e
  obtain ⟨env1, m2, e2, h2⟩ := R.bind_eq_ok h1
  cases h2
  obtain ⟨e3, rfl⟩ := opt_eq_ok e2
  refine useS (ps _ pT) (hx env m d _ e1 σ F ρ H H0 a.fr a.wo _ fun v F' ρ' H' x w r' => ?_)
  have a2 := a.step x w
  exact hg.2 _ _ _ e3 v σ F' H' ρ' H0 a2.fr w.same r' _ fun vs f => hD _ F' ρ' H' ⟨f, w, a2.ex⟩
/-- a, b = x, y stored from the right -/
theorem ss_par {is : List Nat} {φ : Fr → Mem → R (List D)} {es : List Expr} {Kk : List V → (L2.St → Hp → Prop) → L2.St → Hp → Prop} (hx : SDs C X es φ) (hK : ∀ vs (nx : L2.St → Hp → Prop) σ H1, vs.length = is.length → nx (sAll σ is vs) H1 → Kk vs nx σ H1) (ps : ∀ t, PA X es t → PS X st (fun DD σ H => t σ H fun vs H1 => Kk vs DD.nx σ H1)) :
    ST C X st (fun env m => (φ env m).bind fun ds m1 => (opt (setAll env is ds) m1).bind fun env1 m2 => .ok (.nx env1) m2) := by
  obtain ⟨t, pt, s⟩ := hx
  intro env m o m' e σ F ρ H F0 ρ0 H0 a DD hD
  obtain ⟨ds, m1, e1, h1⟩ := R.bind_eq_ok e
  obtain ⟨env1, m2, e2, h2⟩ := R.bind_eq_ok h1
  cases h2
  obtain ⟨e3, rfl⟩ := opt_eq_ok e2
  refine useS (ps _ pt) (s env m ds _ e1 σ F ρ H H0 a.fr a.wo _ fun vs F' ρ' H' x w r' => ?_)
  have a2 := a.step x w
  refine hK vs DD.nx σ H' (by rw [← r'.length, setAll_len e3]) ?_
  have fin : ∀ (is : List Nat) (ds : List D) (env env1 : Fr) (vs : List V) (σ : L2.St), setAll env is ds = some env1 → FrOk C env σ F' H' ρ' H0 → Reps C F' ds vs → FrOk C env1 (sAll σ is vs) F' H' ρ' H0 := by
    intro is
    induction is with
    | nil => intro ds env env1 vs σ e f r; cases ds with
      | nil => cases e; unfold Reps at r; subst r; exact f
      | cons d ds => cases e
    | cons i is ih => intro ds env env1 vs σ e f r; cases ds with
      | nil => cases e
      | cons d ds =>
        unfold Reps at r
        obtain ⟨v, us, rfl, r1, r2⟩ := r
        exact ih ds _ env1 us _ e (f.setVal r1 i) r2
  exact hD _ F' ρ' H' ⟨fin is ds env env1 vs σ e3 a2.fr r', w, a2.ex⟩

/-! ### contents written -/
theorem slot_at {i : Nat} (f : FrOk C env σ F H ρ H0) (w : Wo C m F ρ H) (e : getC env m i = some ct) : ∃ p : Addr, σ[i]? = some (some (.ref p)) ∧ CtAt C F H ct p ∧ F p = none := by
  unfold getC at e
  split at e
  · rename_i c h
    cases e
    obtain ⟨p, h1, h2, h3, _⟩ := f.own i _ h
    exact ⟨p, h1, h2, h3⟩
  · rename_i n h
    obtain ⟨p, h1, h2⟩ := f.cel i n h
    obtain ⟨b, h3, h4⟩ := w.at_ n _ e
    rw [h2] at h3; cases h3
    exact ⟨p, h1, h4, w.nf p (List.mem_of_getElem? h2)⟩
  · cases e
theorem slot_wr {i : Nat} {ob : HO} (a : At C env m F0 ρ0 H0 σ F ρ H) (e : putC env m i ct = some (env', m')) (hσ : σ[i]? = some (some (.ref p))) (hF : F p = none) (h : CtAt C F (upd H p ob) ct p) : At C env' m' F0 ρ0 H0 σ F ρ (upd H p ob) := by
  obtain ⟨f, w, x⟩ := a
  unfold putC at e
  have same' : Same F (upd H p ob) := fun b u q => by rw [upd_ne (L2.ne_of_none q hF)]; exact w.same b u q
  split at e
  · rename_i c hi
    cases e
    obtain ⟨q, k1, k2, k3, k4, k5⟩ := f.own i _ hi
    rw [hσ] at k1; cases k1
    have wo' : Wo C m F ρ (upd H p ob) := ⟨same', w.len, w.nd, w.nf, fun n c e => by
      obtain ⟨b, e1, h1⟩ := w.at_ n c e
      have hb : b ≠ p := fun z => k4 (z ▸ List.mem_of_getElem? e1)
      exact ⟨b, e1, h1.mono (Same.refl _) fun u q => by rw [upd_ne hb]; exact q⟩⟩
    have fr' : FrOk C env σ F H ρ H0 := f
    refine ⟨?_, wo', ⟨x.sF, x.sR, fun b u z n => by rw [upd_ne (L2.ne_of_none z k5)]; exact x.kp b u z n, x.nF, x.nR, fun b z => ?_⟩⟩
    · have hl : i < env.length := (List.getElem?_eq_some_iff.mp hi).1
      have ne : ∀ {j : Nat} {c : Ct}, env[j]? = some (Sl.own c) → i ≠ j → ∀ b : Addr, σ[j]? = some (some (.ref b)) → b ≠ p := fun {j c} k n b hb => by
        rintro rfl
        exact n (f.dis i j _ _ _ hi k hσ hb)
      have get : ∀ {j : Nat} {s : Sl}, (List.set env i (Sl.own ct))[j]? = some s → (j = i ∧ s = Sl.own ct) ∨ (i ≠ j ∧ env[j]? = some s) := fun {j s} e => by
        by_cases q : i = j
        · subst q; rw [List.getElem?_set_self hl] at e; cases e; exact .inl ⟨rfl, rfl⟩
        · rw [List.getElem?_set_ne q] at e; exact .inr ⟨q, e⟩
      refine ⟨by simp [f.len], fun j d e => ?_, fun j n e => ?_, fun j c e => ?_, fun j k c c' b e1 e2 e3 e4 => ?_⟩
      · rcases get e with ⟨_, q⟩ | ⟨_, q⟩
        · cases q
        · exact f.val j d q
      · rcases get e with ⟨_, q⟩ | ⟨_, q⟩
        · cases q
        · exact f.cel j n q
      · rcases get e with ⟨q, q2⟩ | ⟨q, q2⟩
        · cases q2; subst q
          exact ⟨p, hσ, h, hF, k4, k5⟩
        · obtain ⟨b, z1, z2, z3, z4, z5⟩ := f.own j c q2
          exact ⟨b, z1, z2.mono (Same.refl _) fun u z => by rw [upd_ne (ne q2 q b z1)]; exact z, z3, z4, z5⟩
      · have ex : ∀ {j : Nat} {c : Ct}, (List.set env i (Sl.own ct))[j]? = some (Sl.own c) → ∃ c', env[j]? = some (Sl.own c') := fun {j c} e => by
          rcases get e with ⟨q, _⟩ | ⟨_, q⟩
          · subst q; exact ⟨_, hi⟩
          · exact ⟨_, q⟩
        obtain ⟨d1, g1⟩ := ex e1
        obtain ⟨d2, g2⟩ := ex e2
        exact f.dis j k d1 d2 b g1 g2 e3 e4
    · by_cases q : b = p
      · subst q; rw [upd_same]; simp
      · rw [upd_ne q]; exact x.th b z
  · rename_i n hi
    cases e
    obtain ⟨q, k1, k2⟩ := f.cel i n hi
    rw [hσ] at k1; cases k1
    have hn : n < m.length := by rw [← w.len]; exact (List.getElem?_eq_some_iff.mp k2).1
    refine ⟨⟨f.len, f.val, f.cel, fun j c e => ?_, f.dis⟩, ⟨same', by simp [w.len], w.nd, w.nf, fun n' c e => ?_⟩, ⟨x.sF, x.sR, fun b u z hb => ?_, x.nF, x.nR, fun b z => ?_⟩⟩
    · obtain ⟨b, z1, z2, z3, z4, z5⟩ := f.own j c e
      have hb : b ≠ p := fun z => z4 (z ▸ List.mem_of_getElem? k2)
      exact ⟨b, z1, z2.mono (Same.refl _) fun u z => by rw [upd_ne hb]; exact z, z3, z4, z5⟩
    · by_cases q : n = n'
      · subst q
        rw [List.getElem?_set_self hn] at e
        cases e
        exact ⟨p, k2, h⟩
      · rw [List.getElem?_set_ne q] at e
        obtain ⟨b, z1, z2⟩ := w.at_ n' c e
        have hb : b ≠ p := fun z => q (by rw [z] at z1; exact (List.getElem?_inj (by rw [w.len]; exact hn) w.nd).mp (k2.trans z1.symm))
        exact ⟨b, z1, z2.mono (Same.refl _) fun u z => by rw [upd_ne hb]; exact z⟩
    · have hbp : b ≠ p := by
        rintro rfl
        rcases x.nR b (List.mem_of_getElem? k2) with z' | z'
        · exact hb z'
        · rw [z] at z'; cases z'
      rw [upd_ne hbp]
      exact x.kp b u z hb
    · by_cases q : b = p
      · subst q; rw [upd_same]; simp
      · rw [upd_ne q]; exact x.th b z
  · cases e
end
end Ev

set_option linter.all false
set_option maxRecDepth 100000
/-! Ev14: more statements. -/
namespace Ev
open L2 (ixN)
open HT (sIx lexLt)
open PySem PySem.Spec PyProof.Rows
open L2 (Hp HO V Cx Inv SqL SqT Same upd upd_same upd_ne TE VK PE PT PA PS PSs PG PGs PI PIE PTs PSet PIp Key kV EP SP TP Rd RelV Vis Loc Gl OpR R2 UnR CallR Dp DpAll Sp FnOk Room Binds XK BlkOk)
open L2 (tOp tUn pe_op pe_un thn thnF rI rI0 rU IxR PlainIx SlR TA TI TG TT TS TSet TIp Itl Itt Itr Itv gName gNil gCons gTup tLc tLc2 tAsg tDrop tRet tFor tWhile tSeq gSub)

section
variable {C : Cf} {X : Cx} {F F' F0 F1 F2 H H' H1 H2 H0 : Hp} {ρ ρ' ρ0 ρ1 ρ2 : List Addr} {m m' m1 m2 : Mem} {env env' : Fr} {σ : L2.St} {a b c tg it : Expr} {φa φb : Fr → Mem → R Vw} {pos p2 : Pos} {ct ct' : Ct} {p : Addr} {st : Stmt} {sts : List Stmt} {o : Out} {DD : L2.Ends}

/-! ### d[k] = v -/
def rSetC (C : Cf) : TSet := fun o i v H Q => ∃ F a c c' k d, o = .ref a ∧ Same F H ∧ CtAt C F H c a ∧ Rep C F k i ∧ Rep C F d v ∧ setC c k d = some c' ∧ ∀ ob, CtAt C F (upd H a ob) c' a → Q (upd H a ob)
theorem set_ct (hu : X.A.units + 64 < cLine) (hK : X.K = C.K) (hw : X.w = C.w) : PSet X (rSetC C) := by
  intro pins s σ H o i v ov iv u Q I ro ri rv ⟨F, a, c, c', k, d, ea, sm, h, rk, rd, e, q⟩
  subst ea
  cases ro
  have dic : ∀ {t : Bool} {kvs : List (D × D)}, c = mkDic t kvs → (if keyOk t k && decide (kvs.length < line) then some (mkDic t (dput kvs k d)) else none) = some c' → wpAny (model X.prog X.w) X.A (setItem (.ref a) iv u) (fun _ s' => ∃ H', Inv X pins σ H' s' ∧ Q H') X.xe s := fun {t kvs} ec e => by
    split at e
    · rename_i hk
      simp only [Bool.and_eq_true, decide_eq_true_eq] at hk
      cases e
      subst ec
      exact d_setItem hu hK hw I sm h hk.1 hk.2 rk ri rd rv fun o s' I' g => ⟨_, I', q o g⟩
    · cases e
  cases c with
  | lst ds =>
    unfold setC at e
    cases k with
    | int z =>
      obtain ⟨j, e1, rfl⟩ := Option.map_eq_some_iff.mp e
      obtain ⟨vs, h1, h2⟩ := h
      unfold Rep at rk
      subst rk
      refine L2.set_list pins s σ H _ _ v _ iv u Q I (show RelV (V.ref a) (Value.ref a) from rfl) ri rv ⟨a, vs, z, j, rfl, rfl, h1, by rw [← h2.length]; exact e1, ?_⟩
      exact q _ ⟨_, upd_same, h2.set rd j⟩
    | _ => cases e
  | dk kvs => exact dic (t := false) rfl e
  | dx kvs => exact dic (t := true) rfl e
  | obj fs => cases e
theorem ss_setI {i : Nat} {x k v : Expr} {φk φv : Fr → Mem → R D} (hx : PE X x (L2.tVar i)) (hk : SD C X k φk) (hv : SD C X v φv) (ps : ∀ te to ti, PE X v te → PE X x to → PE X k ti → PS X st (tAsg te (gSub to ti (rSetC C)))) :
    ST C X st (fun env m => (φv env m).bind fun x m1 => (φk env m1).bind fun y m2 => (opt ((getC env m2 i).bind fun c => (setC c y x).bind fun c' => putC env m2 i c') m2).bind fun p _ => .ok (.nx p.1) p.2) := by
  intro env m o m' e σ F ρ H F0 ρ0 H0 a DD hD
  obtain ⟨d, m1, e1, h1⟩ := R.bind_eq_ok e
  obtain ⟨y, m2, e2, h2⟩ := R.bind_eq_ok h1
  obtain ⟨pr, m3, e3, h3⟩ := R.bind_eq_ok h2
  cases h3
  obtain ⟨e3a, rfl⟩ := opt_eq_ok e3
  obtain ⟨c, e4, h4⟩ := Option.bind_eq_some_iff.mp e3a
  obtain ⟨c', e5, e6⟩ := Option.bind_eq_some_iff.mp h4
  refine useS (ps _ _ _ pT hx pT) (hv env m d _ e1 σ F ρ H H0 a.fr a.wo _ fun v F1 ρ1 H1 x1 w1 r1 => ?_)
  have a1 := a.step x1 w1
  -- the slot holds an address already
  have hsl : ∃ p : Addr, σ[i]? = some (some (.ref p)) := by
    unfold getC at e4
    split at e4
    · rename_i cc hi; obtain ⟨p, q, _⟩ := a.fr.own i _ hi; exact ⟨p, q⟩
    · rename_i n hi; obtain ⟨p, q, _⟩ := a.fr.cel i n hi; exact ⟨p, q⟩
    · cases e4
  obtain ⟨p, hp⟩ := hsl
  refine ⟨.ref p, hp, ?_⟩
  refine hk env m1 y _ e2 σ F1 ρ1 H1 H0 a1.fr w1 _ fun u F2 ρ2 H2 x2 w2 r2 => ?_
  have a2 := a1.step x2 w2
  obtain ⟨p', g1, g2, g3⟩ := slot_at a2.fr w2 e4
  rw [hp] at g1; cases g1
  exact ⟨F2, p, c, c', y, d, rfl, w2.same, g2, r2, r1.mono x2.sF, e5, fun ob g => hD _ _ _ _ (slot_wr a2 e6 hp g3 g)⟩

/-! ### x op= e -/
def opO : Bop → Operator := opB
theorem ip_mul : PIp X .Mult (fun x y H Q => ∃ i j, x = .int i ∧ y = .int j ∧ L2.CMulW i j ∧ Q (.int (i * j)) H) := by
  intro pins s σ H x y v u Q I r1 r2 h
  obtain ⟨i, j, e1, e2, hm, q⟩ := h
  subst e1; subst e2
  obtain ⟨t, rfl⟩ := r1
  obtain ⟨t', rfl⟩ := r2
  exact imul_int ⟨.int _, H, I.tok _, ⟨_, rfl⟩, q⟩ hm.ok
theorem aug_ok {o : Bop} {x y z : D} {v u : V} (e : augV o x y = some z) (rx : Rep C F x v) (ry : Rep C F y u) : ∃ rr : TIp, PIp X (opB o) rr ∧ ∀ Q : VK, (∀ w, Rep C F z w → Q w H) → rr v u H Q := by
  unfold augV at e
  split at e
  · rename_i i j
    unfold Rep at rx ry
    subst rx ry
    split at e
    · cases e
      exact ⟨_, L2.ip_add, fun Q q => ⟨_, _, rfl, rfl, q _ (by unfold Rep; rfl)⟩⟩
    · cases e
      exact ⟨_, L2.ip_sub, fun Q q => ⟨_, _, rfl, rfl, q _ (by unfold Rep; rfl)⟩⟩
    · split at e
      · rename_i h
        cases e
        unfold mulOk at h
        exact ⟨_, ip_mul, fun Q q => ⟨_, _, rfl, rfl, (of_decide_eq_true h : _ < _), q _ (by unfold Rep; rfl)⟩⟩
      · cases e
    · cases e
  · cases e
theorem ss_aug {i : Nat} {o : Bop} {e : Expr} {φ : Fr → Mem → R D} (he : SD C X e φ) (ps : ∀ te ti, PE X e te → PIp X (opB o) ti → PS X st (L2.tAug i te ti)) :
    ST C X st (fun env m => match env[i]? with
      | some (.val x) => (φ env m).bind fun y m1 => (opt (augV o x y) m1).bind fun z m2 => .ok (.nx (env.set i (.val z))) m2
      | _ => .bad) := by
  intro env m o' m' e σ F ρ H F0 ρ0 H0 a DD hD
  dsimp only at e
  split at e
  · rename_i x hi
    obtain ⟨y, m1, e1, h1⟩ := R.bind_eq_ok e
    obtain ⟨z, m2, e2, h2⟩ := R.bind_eq_ok h1
    cases h2
    obtain ⟨e2a, rfl⟩ := opt_eq_ok e2
    let RR : TIp := fun v u H2 Q2 => ∃ rr : TIp, PIp X (opB o) rr ∧ rr v u H2 Q2
    have hRR : PIp X (opB o) RR := fun pins s σ H x y v u Q I rx ry ⟨rr, ho, q⟩ => ho pins s σ H x y v u Q I rx ry q
    obtain ⟨v, hv, rv⟩ := a.fr.val i x hi
    refine useS (ps _ _ pT hRR) ⟨v, hv, ?_⟩
    refine he env m y _ e1 σ F ρ H H0 a.fr a.wo _ fun u F1 ρ1 H1 x1 w1 r1 => ?_
    have a1 := a.step x1 w1
    obtain ⟨rr, ho, hq⟩ := aug_ok (X := X) (H := H1) e2a (rv.mono x1.sF) r1
    exact ⟨rr, ho, hq _ fun w rw' => hD _ _ _ _ ⟨a1.fr.setVal rw' i, w1, a1.ex⟩⟩
  · cases e

/-! ### lists that grow and shrink -/
theorem ss_ex {e : Expr} {φ : Fr → Mem → R Rv} (he : SX C X e φ) (ps : ∀ te, PE X e te → PS X st (tDrop te)) : ST C X st (fun env m => (φ env m).bind fun _ m1 => .ok (.nx env) m1) := by
  intro env m o' m' e σ F ρ H F0 ρ0 H0 a DD hD
  obtain ⟨r, m1, e1, h1⟩ := R.bind_eq_ok e
  cases h1
  refine useS (ps _ pT) (he env m r _ e1 σ F ρ H H0 a.fr a.wo _ fun v F1 ρ1 H1 x1 w1 r1 => ?_)
  exact hD _ _ _ _ (a.step x1 w1)
theorem lst_ty {vs : List V} (h : H p = some (.lst vs)) : L2.tyV X.K "list" (.ref p) H := .inl ⟨rfl, vs, SqL.of h⟩
theorem ss_app {i : Nat} {x e : Expr} {φ : Fr → Mem → R D} (hx : PE X x (L2.tVar i)) (he : SD C X e φ) (hs : starEach [e] X.env = (false, eval e X.env) :: starEach [] X.env)
    (ps : ∀ t, PA X [e] t → PS X st (tDrop (L2.tBM X.K "list" L2.rAppend (L2.tVar i) t))) :
    ST C X st (fun env m => match getC env m i with
      | some (.lst _) => (φ env m).bind fun x m1 => (opt ((getC env m1 i).bind fun c => match c with | .lst ds => if decide (ds.length < line) then putC env m1 i (.lst (ds ++ [x])) else none | _ => none) m1).bind fun p _ => .ok (.nx p.1) p.2
      | _ => .bad) := by
  intro env m o' m' e0 σ F ρ H F0 ρ0 H0 a DD hD
  dsimp only at e0
  split at e0
  · rename_i ds0 hg
    obtain ⟨d, m1, e1, h1⟩ := R.bind_eq_ok e0
    obtain ⟨pr, m3, e3, h3⟩ := R.bind_eq_ok h1
    cases h3
    obtain ⟨e3a, rfl⟩ := opt_eq_ok e3
    obtain ⟨c, e4, h4⟩ := Option.bind_eq_some_iff.mp e3a
    obtain ⟨p, hp, ⟨vs0, g0, _⟩, _⟩ := slot_at a.fr a.wo hg
    refine useS (ps _ (L2.pa_cons pT L2.pa_nil hs)) ⟨.ref p, hp, lst_ty g0, ?_⟩
    refine he env m d _ e1 σ F ρ H H0 a.fr a.wo _ fun v F1 ρ1 H1 x1 w1 r1 => ?_
    have a1 := a.step x1 w1
    obtain ⟨p', g1, g2, g3⟩ := slot_at a1.fr w1 e4
    rw [hp] at g1; cases g1
    split at h4
    · rename_i ds
      split at h4
      · rename_i hl
        obtain ⟨vs, k1, k2⟩ := g2
        refine ⟨p, vs, v, rfl, rfl, k1, by rw [← k2.length, sizeLine_eq]; exact of_decide_eq_true hl, ?_⟩
        exact hD _ _ _ _ (slot_wr a1 h4 hp g3 ⟨_, upd_same, k2.append (Reps.one r1)⟩)
      · cases h4
    · cases h4
  · cases e0
theorem ss_ext {i : Nat} {x e : Expr} {φ : Fr → Mem → R Rv} (hx : PE X x (L2.tVar i)) (he : SX C X e φ) (hs : starEach [e] X.env = (false, eval e X.env) :: starEach [] X.env)
    (ps : ∀ t, PA X [e] t → PS X st (tDrop (L2.tBM X.K "list" L2.rExtend (L2.tVar i) t))) :
    ST C X st (fun env m => match getC env m i with
      | some (.lst _) => (asF (φ env m)).bind fun x m1 => (opt ((getC env m1 i).bind fun c => match c, x with | .lst ds, .lst es => if lenOk (ds.length + es.length) then putC env m1 i (.lst (ds ++ es)) else none | _, _ => none) m1).bind fun p _ => .ok (.nx p.1) p.2
      | _ => .bad) := by
  intro env m o' m' e0 σ F ρ H F0 ρ0 H0 a DD hD
  dsimp only at e0
  split at e0
  · rename_i ds0 hg
    obtain ⟨d, m1, e1, h1⟩ := R.bind_eq_ok e0
    obtain ⟨r, m2, e2, h2⟩ := R.bind_eq_ok e1
    obtain ⟨e2a, q2⟩ := opt_eq_ok h2
    subst q2
    obtain ⟨pr, m3, e3, h3⟩ := R.bind_eq_ok h1
    cases h3
    obtain ⟨e3a, rfl⟩ := opt_eq_ok e3
    obtain ⟨c, e4, h4⟩ := Option.bind_eq_some_iff.mp e3a
    obtain ⟨p, hp, ⟨vs0, g0, _⟩, _⟩ := slot_at a.fr a.wo hg
    refine useS (ps _ (L2.pa_cons pT L2.pa_nil hs)) ⟨.ref p, hp, lst_ty g0, ?_⟩
    refine he env m r _ e2 σ F ρ H H0 a.fr a.wo _ fun v F1 ρ1 H1 x1 w1 r1 => ?_
    have a1 := a.step x1 w1
    obtain ⟨p', g1, g2, g3⟩ := slot_at a1.fr w1 e4
    rw [hp] at g1; cases g1
    cases r with
    | d _ => cases e2a
    | f c' =>
      cases e2a
      obtain ⟨q, rfl, k3, _⟩ := r1
      split at h4
      · rename_i ds es _
        split at h4
        · rename_i hl
          obtain ⟨vs, k1, k2⟩ := g2
          obtain ⟨us, k4, k5⟩ := k3
          refine ⟨p, q, vs, us, rfl, rfl, k1, k4, by rw [← k2.length, ← k5.length]; exact lenOk_le hl, ?_⟩
          exact hD _ _ _ _ (slot_wr a1 h4 hp g3 ⟨_, upd_same, k2.append k5⟩)
        · cases h4
      · cases h4
  · cases e0
theorem erase_last {α : Type} (xs : List α) : xs.eraseIdx (xs.length - 1) = xs.dropLast := by
  induction xs with
  | nil => rfl
  | cons x xs ih =>
    cases xs with
    | nil => rfl
    | cons y ys =>
      show (x :: y :: ys).eraseIdx (ys.length + 1) = _
      rw [List.eraseIdx_cons_succ, List.dropLast_cons₂]
      congr 1
def popSt (j : Option Nat) (σ : L2.St) (v : V) : L2.St := match j with | some j => σ.set j (some v) | none => σ
def popT (j : Option Nat) (t : TE) : TS := match j with | some j => tAsg t (gName j) | none => tDrop t
theorem popT_of {t : TE} {j : Option Nat} {H : Hp} (h : t σ H fun v H1 => DD.nx (popSt j σ v) H1) : popT j t DD σ H := by
  cases j with
  | none => exact h
  | some j => exact h
theorem pop_end {j : Option Nat} {i q : Nat} {ds : List D} {vs : List V} {x : D} {v : V} {pr : Fr × Mem} (a : At C env m F0 ρ0 H0 σ F ρ H) (hp : σ[i]? = some (some (.ref p))) (hF : F p = none) (hds : Reps C F ds vs) (r : Rep C F x v) (e : putC env m i (.lst (ds.eraseIdx q)) = some pr)
    (hD : EndOk C (.nx (popEnv j pr.1 x)) pr.2 F0 ρ0 H0 DD) : DD.nx (popSt j σ v) (upd H p (.lst (vs.eraseIdx q))) := by
  have a1 := slot_wr (ob := .lst (vs.eraseIdx q)) a e hp hF ⟨_, upd_same, hds.erase q⟩
  cases j with
  | none => exact hD _ _ _ _ a1
  | some j => exact hD _ _ _ _ ⟨a1.fr.setVal r j, a1.wo, a1.ex⟩
/-- pop with no place; the value kept in a name or dropped -/
theorem ss_pop0 {j : Option Nat} {i : Nat} {φ : Fr → Mem → R Rv} (ps : PS X st (popT j (L2.tBM0 X.K "list" L2.rPop (L2.tVar i)))) :
    ST C X st (fun env m => match getC env m i with
      | some (.lst _) => (partE true m (φ env m)).bind fun k m1 => (opt ((getC env m1 i).bind fun c => match c with
          | .lst ds => if popOk k then (ixN ds.length (k.getD (-1))).bind fun q => ds[q]?.bind fun x => (putC env m1 i (.lst (ds.eraseIdx q))).map (fun p => (x, p)) else none
          | _ => none) m1).bind fun r _ => .ok (.nx (popEnv j r.2.1 r.1)) r.2.2
      | _ => .bad) := by
  intro env m o' m' e0 σ F ρ H F0 ρ0 H0 a DD hD
  dsimp only at e0
  split at e0
  · rename_i ds0 hg
    obtain ⟨k, m1, e1, h1⟩ := R.bind_eq_ok e0
    cases e1
    obtain ⟨pr, m3, e3, h3⟩ := R.bind_eq_ok h1
    cases h3
    obtain ⟨e3a, rfl⟩ := opt_eq_ok e3
    obtain ⟨c, e4, h4⟩ := Option.bind_eq_some_iff.mp e3a
    rw [hg] at e4
    cases e4
    dsimp only at h4
    rw [if_pos (show popOk none = true from rfl)] at h4
    obtain ⟨q, e5, h5⟩ := Option.bind_eq_some_iff.mp h4
    obtain ⟨x, e6, h6⟩ := Option.bind_eq_some_iff.mp h5
    obtain ⟨pr', e7, rfl⟩ := Option.map_eq_some_iff.mp h6
    obtain ⟨p, hp, ⟨vs, g0, g1⟩, hF⟩ := slot_at a.fr a.wo hg
    have e5' : ixN ds0.length (-1) = some q := e5
    have hq : q = ds0.length - 1 := by
      unfold ixN at e5'
      rw [if_neg (by decide)] at e5'
      split at e5'
      · cases e5'; omega
      · cases e5'
    obtain ⟨v, hv, rv⟩ := g1.get e6
    have hl := g1.length
    have key := pop_end (j := j) (q := q) a hp hF g1 rv e7 hD
    rw [hq, hl, erase_last] at key
    rw [hq, hl] at hv
    exact useS ps (popT_of ⟨.ref p, hp, lst_ty g0, p, vs, v, rfl, rfl, g0, hv, key⟩)
  · cases e0
theorem ss_pop1 {j : Option Nat} {i : Nat} {kx : Expr} {φ : Fr → Mem → R Rv} (hk : SX C X kx φ) (hs : starEach [kx] X.env = (false, eval kx X.env) :: starEach [] X.env)
    (ps : ∀ t, PA X [kx] t → PS X st (popT j (L2.tBM X.K "list" L2.rPopAt (L2.tVar i) t))) :
    ST C X st (fun env m => match getC env m i with
      | some (.lst _) => (partE false m (φ env m)).bind fun k m1 => (opt ((getC env m1 i).bind fun c => match c with
          | .lst ds => if popOk k then (ixN ds.length (k.getD (-1))).bind fun q => ds[q]?.bind fun x => (putC env m1 i (.lst (ds.eraseIdx q))).map (fun p => (x, p)) else none
          | _ => none) m1).bind fun r _ => .ok (.nx (popEnv j r.2.1 r.1)) r.2.2
      | _ => .bad) := by
  intro env m o' m' e0 σ F ρ H F0 ρ0 H0 a DD hD
  dsimp only at e0
  split at e0
  · rename_i ds0 hg
    obtain ⟨k, m1, e1, h1⟩ := R.bind_eq_ok e0
    obtain ⟨kr, m2, e2, h2⟩ := R.bind_eq_ok e1
    obtain ⟨pr, m3, e3, h3⟩ := R.bind_eq_ok h1
    cases h3
    obtain ⟨e3a, rfl⟩ := opt_eq_ok e3
    obtain ⟨c, e4, h4⟩ := Option.bind_eq_some_iff.mp e3a
    obtain ⟨p, hp, ⟨vs0, g0, _⟩, _⟩ := slot_at a.fr a.wo hg
    have key : (L2.tBM X.K "list" L2.rPopAt (L2.tVar i) (L2.tCons (wpT X kx) L2.tNil)) σ H fun v H1 => DD.nx (popSt j σ v) H1 := by
      refine ⟨.ref p, hp, lst_ty g0, ?_⟩
      refine hk env m kr _ e2 σ F ρ H H0 a.fr a.wo _ fun u F1 ρ1 H1 x1 w1 r1 => ?_
      have hz : ∃ z, kr = .d (.int z) ∧ k = some z ∧ m3 = m2 := by
        cases kr with
        | d d => cases d with
          | int z => cases h2; exact ⟨z, rfl, rfl, rfl⟩
          | _ => cases h2
        | f _ => cases h2
      obtain ⟨z, rfl, rfl, rfl⟩ := hz
      have r1' : Rep C F1 (.int z) u := r1
      unfold Rep at r1'
      subst r1'
      have a1 := a.step x1 w1
      obtain ⟨p', g1, g2, g3⟩ := slot_at a1.fr w1 e4
      rw [hp] at g1; cases g1
      split at h4
      · rename_i ds
        split at h4
        · rename_i hz
          have hz := of_decide_eq_true hz
          obtain ⟨q, e5, h5⟩ := Option.bind_eq_some_iff.mp h4
          obtain ⟨x, e6, h6⟩ := Option.bind_eq_some_iff.mp h5
          obtain ⟨pr', e7, rfl⟩ := Option.map_eq_some_iff.mp h6
          obtain ⟨vs, k1, k2⟩ := g2
          obtain ⟨v, hv, rv⟩ := k2.get e6
          have e5' : L2.ixN vs.length z = some q := by rw [← k2.length]; exact e5
          exact ⟨p, vs, z, q, v, rfl, rfl, k1, hz.1, hz.2, (L2.ixN_seq e5').1, hv, pop_end (j := j) (q := q) a1 hp g3 k2 rv e7 hD⟩
        · cases h4
      · cases h4
    exact useS (ps _ (L2.pa_cons pT L2.pa_nil hs)) (popT_of key)
  · cases e0
end
end Ev

set_option linter.all false
set_option maxRecDepth 100000
/-! Ev15: control. -/
namespace Ev
open PySem PySem.Spec PyProof.Rows
open L2 (Hp HO V Cx Inv SqL SqT Same upd upd_same upd_ne TE VK PE PT PA PS PSs PG PGs PI PIE PTs PSet PIp Key kV EP SP TP Rd RelV Vis Loc Gl OpR R2 UnR CallR Dp DpAll Sp FnOk Room Binds XK BlkOk)
open L2 (tOp tUn pe_op pe_un thn thnF rI rI0 rU IxR PlainIx SlR TA TI TG TT TS TSet TIp Itl Itt Itr Itv gName gNil gCons gTup tLc tLc2 tAsg tDrop tRet tFor tWhile tSeq gSub)

section
variable {C : Cf} {X : Cx} {F F' F0 F1 F2 H H' H1 H2 H0 : Hp} {ρ ρ' ρ0 ρ1 ρ2 : List Addr} {m m' m1 m2 : Mem} {env env' : Fr} {σ : L2.St} {a b c tg it : Expr} {φa φb : Fr → Mem → R Vw} {pos p2 : Pos} {ct ct' : Ct} {p : Addr} {st : Stmt} {sts : List Stmt} {o : Out} {DD : L2.Ends}

theorem ss_if {as bs : List Stmt} {φ : Fr → Mem → R Bool} {ψ χ : Fr → Mem → R Out} (hc : SB C X c φ) (ha : STs C X as ψ) (hb : STs C X bs χ) : ST C X (.If c as bs pos) (fun env m => (φ env m).bind fun t m1 => if t then ψ env m1 else χ env m1) := by
  intro env m o m' e σ F ρ H F0 ρ0 H0 a DD hD
  obtain ⟨t, m1, e1, h1⟩ := R.bind_eq_ok e
  refine useS (L2.ps_if pB pSs pSs) (hc env m t m1 e1 σ F ρ H H0 a.fr a.wo _ fun F1 ρ1 H1 x1 w1 => ?_)
  cases t with
  | true => rw [if_pos rfl] at h1 ⊢; exact ha env m1 o m' h1 σ F1 ρ1 H1 F0 ρ0 H0 (a.step x1 w1) DD hD
  | false => rw [if_neg Bool.false_ne_true] at h1 ⊢; exact hb env m1 o m' h1 σ F1 ρ1 H1 F0 ρ0 H0 (a.step x1 w1) DD hD
theorem ss_ret {e : Expr} {φ : Fr → Mem → R D} (he : SD C X e φ) : ST C X (.Return (some e) pos) (fun env m => (φ env m).bind fun d m1 => .ok (.ret (.d d)) m1) := by
  intro env m o m' h σ F ρ H F0 ρ0 H0 a DD hD
  obtain ⟨d, m1, e1, h1⟩ := R.bind_eq_ok h
  cases h1
  refine useS (L2.ps_ret pT) (he env m d _ e1 σ F ρ H H0 a.fr a.wo _ fun v F1 ρ1 H1 x1 w1 r1 => ?_)
  have a1 := a.step x1 w1
  exact hD v F1 ρ1 H1 a1.ex w1 r1
theorem ss_retO {e : Expr} {φ : Fr → Mem → R Rv} (he : SX C X e φ) : ST C X (.Return (some e) pos) (fun env m => (asF (φ env m)).bind fun c m1 => .ok (.ret (.f c)) m1) := by
  intro env m o m' h σ F ρ H F0 ρ0 H0 a DD hD
  obtain ⟨c, m1, e1, h1⟩ := R.bind_eq_ok h
  cases h1
  obtain ⟨r, m2, e2, h2⟩ := R.bind_eq_ok e1
  obtain ⟨e3, rfl⟩ := opt_eq_ok h2
  refine useS (L2.ps_ret pT) (he env m r _ e2 σ F ρ H H0 a.fr a.wo _ fun v F1 ρ1 H1 x1 w1 r1 => ?_)
  have a1 := a.step x1 w1
  cases r with
  | d _ => cases e3
  | f c' => cases e3; exact hD v F1 ρ1 H1 a1.ex w1 (r1.back a.ex)
/-- a slot's own content handed out -/
theorem ss_retV {i : Nat} {e : Expr} {ct : Ct} (hx : PE X e (L2.tVar i)) : ST C X (.Return (some e) pos) (fun env m => match env[i]? with | some (.own c) => .ok (.ret (.f c)) m | _ => .bad) := by
  intro env m o m' h σ F ρ H F0 ρ0 H0 a DD hD
  dsimp only at h
  split at h
  · rename_i c hi
    cases h
    obtain ⟨p, h1, h2, h3, h4, h5⟩ := a.fr.own i c hi
    refine useS (L2.ps_ret hx) ⟨.ref p, h1, ?_⟩
    exact hD _ F ρ H a.ex a.wo ⟨p, rfl, h2, h3, h4, h5⟩
  · cases h
theorem ss_retN : ST C X (.Return none pos) (fun _ m => .ok (.ret (.d .non)) m) := by
  intro env m o m' h σ F ρ H F0 ρ0 H0 a DD hD
  cases h
  exact useS L2.ps_retN (hD _ F ρ H a.ex a.wo (by show Rep C F .non _; unfold Rep; rfl))
theorem ss_brk : ST C X (.Break pos) (fun env m => .ok (.brk env) m) := by
  intro env m o m' h σ F ρ H F0 ρ0 H0 a DD hD
  cases h
  exact useS L2.ps_break (hD _ _ _ _ a)
theorem ss_cont : ST C X (.Continue pos) (fun env m => .ok (.ct env) m) := by
  intro env m o m' h σ F ρ H F0 ρ0 H0 a DD hD
  cases h
  exact useS L2.ps_continue (hD _ _ _ _ a)
theorem ss_pass : ST C X (.Pass pos) (fun env m => .ok (.nx env) m) := by
  intro env m o m' h σ F ρ H F0 ρ0 H0 a DD hD
  cases h
  exact useS L2.ps_pass (hD _ _ _ _ a)
theorem ss_doc {x : Str} {j : Nat} {q : Pos} : ST C X (.Expr (.Constant (.str x) j q) pos) (fun env m => .ok (.nx env) m) := by
  intro env m o m' h σ F ρ H F0 ρ0 H0 a DD hD
  cases h
  exact useS L2.ps_doc (hD _ _ _ _ a)
theorem ss_whl {w : Nat} {body : List Stmt} {φ : Fr → Mem → R Bool} {ψ : Fr → Mem → R Out} (hp : PassesOwn (model X.prog X.w) X.A X.env X.xe) (hc : SB C X c φ) (hb : STs C X body ψ) : ST C X (.While c body [] pos) (fun env m => whlLoop φ ψ w env m) := by
  intro env m o m' h σ F ρ H F0 ρ0 H0 a DD hD
  refine useS (L2.ps_while hp pB pSs) ?_
  refine ⟨fun k σ H => ∃ env m F ρ, At C env m F0 ρ0 H0 σ F ρ H ∧ whlLoop φ ψ k env m = .ok o m', ⟨w, env, m, F, ρ, a, h⟩, ?_⟩
  rintro k σ1 H1 ⟨env1, m1, F1, ρ1, a1, h1⟩
  cases k with
  | zero => cases h1
  | succ k =>
    obtain ⟨t, m2, e2, h2⟩ := R.bind_eq_ok h1
    refine hc env1 m1 t m2 e2 σ1 F1 ρ1 H1 H0 a1.fr a1.wo _ fun F2 ρ2 H2 x2 w2 => ?_
    have a2 := a1.step x2 w2
    cases t with
    | false =>
      rw [if_neg Bool.false_ne_true] at h2 ⊢
      cases h2
      exact hD _ _ _ _ a2
    | true =>
      rw [if_pos rfl] at h2 ⊢
      obtain ⟨o3, m3, e3, h3⟩ := R.bind_eq_ok h2
      refine ⟨fun σ' H' => ∃ env m F ρ, At C env m F0 ρ0 H0 σ' F ρ H' ∧ whlLoop φ ψ k env m = .ok o m', fun σ' H' n => ⟨k, Nat.lt_succ_self k, n⟩, ?_⟩
      refine hb env1 m2 o3 m3 e3 σ1 F2 ρ2 H2 F0 ρ0 H0 a2 _ ?_
      cases o3 with
      | nx e => exact fun σ F ρ H a => ⟨e, m3, F, ρ, a, h3⟩
      | ct e => exact fun σ F ρ H a => ⟨e, m3, F, ρ, a, h3⟩
      | brk e => cases h3; exact hD
      | ret v => cases h3; exact hD
/-- what stays frozen through a loop -/
theorem Ext.into (x : Ext F0 ρ0 H0 F1 ρ1 H1) : Ext F1 ρ0 H0 F1 ρ1 H1 := ⟨Same.refl _, x.sR, x.kp, fun _ h => .inl h, x.nR, x.th⟩
theorem Ext.outof (x : Ext F0 ρ0 H0 F1 ρ1 H1) (y : Ext F1 ρ0 H0 F2 ρ2 H2) : Ext F0 ρ0 H0 F2 ρ2 H2 := ⟨x.sF.trans y.sF, y.sR, y.kp, fun a h => (y.nF a h).elim (x.nF a) .inr, y.nR, y.th⟩
theorem ss_for {tge ite : Expr} {tt : Tg} {t : TG} {body : List Stmt} {φ : Fr → Mem → R (List D)} {ψ : Fr → Mem → R Out} (hp : PassesOwn (model X.prog X.w) X.A X.env X.xe) (hc : X.calm = true) (hi : SI C X tge ite true φ) (hg : STg C X tge tt t) (hb : STs C X body ψ)
    (hs : ∀ x, foldedSetIterable ite X.env x = pure x) :
    ST C X (.For tge ite body [] pos) (fun env m => (φ env m).bind fun xs m1 => forLoop (fun x e m2 => (opt (setTg tt x e) m2).bind fun e1 m3 => ψ e1 m3) xs env m1) := by
  intro env m o m' h σ F ρ H F0 ρ0 H0 a DD hD
  obtain ⟨xs, m1, e1, h1⟩ := R.bind_eq_ok h
  refine useS (L2.ps_for hp hc pI hg.1 pSs hs) ?_
  refine hi env m xs m1 e1 σ F ρ H H0 a.fr a.wo _ fun J F1 ρ1 H1 x1 w1 j1 => ?_
  have a1 := a.step x1 w1
  generalize hf : (fun (x : D) (e : Fr) (m2 : Mem) => (opt (setTg tt x e) m2).bind fun e1 m3 => ψ e1 m3) = fn at h1
  let Pv : Nat → L2.St → Hp → Prop := fun i σ H => ∃ env m F ρ, At C env m F1 ρ0 H0 σ F ρ H ∧ forLoop fn (xs.drop i) env m = .ok o m'
  have back : ∀ {env m σ F ρ H}, At C env m F1 ρ0 H0 σ F ρ H → At C env m F0 ρ0 H0 σ F ρ H := fun b => ⟨b.fr, b.wo, a1.ex.outof b.ex⟩
  refine ⟨fun i k σ H => k = xs.length - i ∧ i ≤ xs.length ∧ Pv i σ H, ⟨xs.length, by simp, Nat.zero_le _, env, m1, F1, ρ1, ⟨a1.fr, w1, a1.ex.into⟩, by simpa using h1⟩, ?_⟩
  rintro i k σ2 H2 ⟨rfl, hi, env2, m2, F2, ρ2, a2, h2⟩
  by_cases hlt : i < xs.length
  · right
    have hd : xs[i]? = some xs[i] := by simp [hlt]
    obtain ⟨hgo, hyld⟩ := (j1 m2 F2 ρ2 H2 a2.ex.sF a2.wo i).1 _ hd
    refine ⟨hgo, Pv (i + 1), fun σ' H' p' => ⟨xs.length - (i + 1), by omega, rfl, hlt, p'⟩, fun x H3 hy => ?_⟩
    obtain ⟨F3, x3, w3, r3⟩ := hyld x H3 hy
    have a3 := a2.step x3 w3
    rw [drop_cons hlt] at h2
    obtain ⟨o4, m4, e4, h4⟩ := R.bind_eq_ok h2
    have e4' := e4
    rw [← hf] at e4'
    obtain ⟨env5, m5, e5, h5⟩ := R.bind_eq_ok e4'
    obtain ⟨e5a, rfl⟩ := opt_eq_ok e5
    refine hg.2 _ _ _ e5a x σ2 F3 H3 ρ2 H0 a3.fr w3.same r3 _ fun vs f => ?_
    refine hb env5 m5 o4 m4 h5 _ F3 ρ2 H3 F1 ρ0 H0 ⟨f, w3, a3.ex⟩ _ ?_
    cases o4 with
    | nx e => exact fun σ F ρ H b => ⟨e, m4, F, ρ, b, h4⟩
    | ct e => exact fun σ F ρ H b => ⟨e, m4, F, ρ, b, h4⟩
    | brk e => cases h4; exact fun σ F ρ H b => hD _ _ _ _ (back b)
    | ret v => cases h4; exact fun v F ρ H x w r => hD v F ρ H (a1.ex.outof x) w r
  · left
    have hi' : i = xs.length := by omega
    subst hi'
    refine ⟨(j1 m2 F2 ρ2 H2 a2.ex.sF a2.wo _).2 rfl, ?_⟩
    rw [List.drop_length] at h2
    cases h2
    exact hD _ _ _ _ (back a2)
/-- a slot's own list frozen: no statement of the program -/
theorem frz_ok {i : Nat} {e1 : Fr} (h : frzE env i m = .ok (.nx e1) m') (a : At C env m F0 ρ0 H0 σ F ρ H) : ∃ F', At C e1 m' F0 ρ0 H0 σ F' ρ H := by
  unfold frzE at h
  split at h
  · rename_i ds hi
    cases h
    obtain ⟨p, h1, ⟨vs, g1, g2⟩, h3, h4, h5⟩ := a.fr.own i _ hi
    have sF := same_upd (o := .lst vs) h3
    have hl : i < env.length := (List.getElem?_eq_some_iff.mp hi).1
    refine ⟨upd F p (.lst vs), ⟨?_, a.wo.frz g1 h3 h4, ?_⟩⟩
    · have get : ∀ {j : Nat} {s : Sl}, (List.set env i (Sl.val (.lst ds)))[j]? = some s → (j = i ∧ s = Sl.val (.lst ds)) ∨ (i ≠ j ∧ env[j]? = some s) := fun {j s} e => by
        by_cases q : i = j
        · subst q; rw [List.getElem?_set_self hl] at e; cases e; exact .inl ⟨rfl, rfl⟩
        · rw [List.getElem?_set_ne q] at e; exact .inr ⟨q, e⟩
      refine ⟨by simp [a.fr.len], fun j d e => ?_, fun j n e => ?_, fun j c e => ?_, fun j k c c' b e1 e2 e3 e4 => ?_⟩
      · rcases get e with ⟨q, q2⟩ | ⟨_, q⟩
        · cases q2
          subst q
          exact ⟨_, h1, by unfold Rep; exact ⟨p, vs, rfl, SqL.of upd_same, g2.mono sF⟩⟩
        · obtain ⟨v, z1, z2⟩ := a.fr.val j d q
          exact ⟨v, z1, z2.mono sF⟩
      · rcases get e with ⟨_, q⟩ | ⟨_, q⟩
        · cases q
        · exact a.fr.cel j n q
      · rcases get e with ⟨_, q⟩ | ⟨q0, q⟩
        · cases q
        · obtain ⟨b, z1, z2, z3, z4, z5⟩ := a.fr.own j c q
          have hb : b ≠ p := by
            rintro rfl
            exact q0 (a.fr.dis i j _ _ _ hi q h1 z1)
          exact ⟨b, z1, z2.mono sF fun _ z => z, by rw [upd_ne hb]; exact z3, z4, z5⟩
      · rcases get e1 with ⟨_, q⟩ | ⟨_, q⟩
        · cases q
        · rcases get e2 with ⟨_, q'⟩ | ⟨_, q'⟩
          · cases q'
          · exact a.fr.dis j k c c' b q q' e3 e4
    · refine ⟨a.ex.sF.trans sF, a.ex.sR, a.ex.kp, fun b hb => ?_, a.ex.nR, a.ex.th⟩
      by_cases q : b = p
      · subst q; exact .inr h5
      · rw [upd_ne q] at hb; exact a.ex.nF b hb
  · rename_i d hi
    cases h
    exact ⟨F, a⟩
  · cases h
theorem sss_frz {i : Nat} {ψ : Fr → Mem → R Out} (hr : STs C X sts ψ) : STs C X sts (fun env m => (frzE env i m).bind fun o m1 => match o with | .nx e => ψ e m1 | o => .ok o m1) := by
  intro env m o m' h σ F ρ H F0 ρ0 H0 a DD hD
  obtain ⟨o1, m1, e1, h1⟩ := R.bind_eq_ok h
  have hn : ∃ e, o1 = .nx e := by
    unfold frzE at e1
    split at e1
    · cases e1; exact ⟨_, rfl⟩
    · cases e1; exact ⟨_, rfl⟩
    · cases e1
  obtain ⟨e2, rfl⟩ := hn
  obtain ⟨F', a'⟩ := frz_ok e1 a
  exact hr e2 m1 o m' h1 σ F' ρ H F0 ρ0 H0 a' DD hD
theorem FrOk.fgt {H0 : Hp} (f : FrOk C env σ F H ρ H0) (i : Nat) : FrOk C (env.set i .un) σ F H ρ H0 := by
  have ne : ∀ {j : Nat} {s : Sl}, (List.set env i Sl.un)[j]? = some s → s ≠ .un → env[j]? = some s := fun {j s} e hs => by
    by_cases q : i = j
    · subst q
      have hl : i < env.length := by have := (List.getElem?_eq_some_iff.mp e).1; simpa using this
      rw [List.getElem?_set_self hl] at e
      cases e
      exact absurd rfl hs
    · rw [List.getElem?_set_ne q] at e
      exact e
  exact ⟨by simp [f.len], fun j d e => f.val j d (ne e (by simp)), fun j n e => f.cel j n (ne e (by simp)), fun j c e => f.own j c (ne e (by simp)), fun j k c c' b e1 e2 e3 e4 => f.dis j k c c' b (ne e1 (by simp)) (ne e2 (by simp)) e3 e4⟩
theorem sss_fgt {i : Nat} {ψ : Fr → Mem → R Out} (hr : STs C X sts ψ) : STs C X sts (fun env m => (R.ok (Out.nx (env.set i .un)) m).bind fun o m1 => match o with | .nx e => ψ e m1 | o => .ok o m1) :=
  fun env m o m' h σ F ρ H F0 ρ0 H0 a DD hD => hr _ m o m' h σ F ρ H F0 ρ0 H0 ⟨a.fr.fgt i, a.wo, a.ex⟩ DD hD
end
end Ev

set_option linter.all false
set_option maxRecDepth 100000
/-! Ev16: which syntax is which; expressions. -/
namespace Ev
open PySem PySem.Spec PyProof.Rows
open L2 (Hp HO V Cx Inv SqL SqT Same upd upd_same upd_ne TE VK PE PT PA PS PSs PG PGs PI PIE PTs PSet PIp Key kV EP SP TP Rd RelV Vis Loc Gl OpR R2 UnR CallR Dp DpAll Sp FnOk Room Binds XK BlkOk)
open L2 (tOp tUn pe_op pe_un thn thnF rI rI0 rU IxR PlainIx SlR TA TI TG TT TS TSet TIp Itl Itt Itr Itv gName gNil gCons gTup tLc tLc2 tAsg tDrop tRet tFor tWhile tSeq gSub)

/-- names of the program: defs by index, constants -/
structure Tb where
  nm : List Str
  cons : List (Str × D)
def notStar : Expr → Bool
  | .Starred .. => false
  | _ => true
def notSet : Expr → Bool
  | .Set .. => false
  | _ => true
def noSwap : Expr → Bool
  | .ListComp .. => false
  | .SetComp .. => false
  | .DictComp .. => false
  | _ => true
def plainT : Expr → Bool
  | .UnaryOp .. => false
  | .BoolOp .. => false
  | .IfExp .. => false
  | .Compare .. => false
  | _ => true
def tB : Expr → Bool
  | .IfExp .. => false
  | .UnaryOp .USub _ _ => false
  | .UnaryOp .UAdd _ _ => false
  | .UnaryOp .Invert _ _ => false
  | _ => true
def plainI : Expr → Bool
  | .Slice .. => false
  | _ => true
section
variable {env : Env} {x a : Expr} {xs : List Expr} {pos : Pos}
theorem star_ok (h : notStar a = true) : starEach (a :: xs) env = (false, eval a env) :: starEach xs env := by
  cases a <;> first | rfl | cases h
theorem star_any : ∀ {xs : List Expr}, xs.all notStar = true → (backTo pos (starEach xs env)).any (·.1) = false
  | [], _ => rfl
  | x :: xs, h => by
    simp only [List.all_cons, Bool.and_eq_true] at h
    rw [star_ok h.1]
    have := star_any (xs := xs) h.2
    unfold backTo at this ⊢
    simpa using this
theorem fold_ok (h : notSet x = true) (v : Value) : foldedSetIterable x env v = pure v := by
  cases x <;> first | rfl | cases h
theorem marks_ok {op : CmpOp} (h : notSet x = true) : behindInMarks op x = false := by
  cases x <;> first | rfl | cases h
theorem swap_ok {t : Option Expr} {l : Nat} (h : noSwap x = true) : swapsWith x t l env = pure false := by
  cases x <;> first | rfl | cases h
theorem plainT_ok (h : plainT x = true) (whole : Sem Value) : isTrue x env whole = (do let v ← whole; standAt x.pos; holding [v] (truthy v)) := by
  cases x <;> first | rfl | cases h
theorem plainI_ok (h : plainI x = true) : PlainIx x := by
  intro o i
  cases x <;> first | rfl | cases h
end
def sameC : D → D → Bool
  | .int i, .int j => i == j
  | .str x, .str y => x == y
  | .bl a, .bl b => a == b
  | .non, .non => true
  | _, _ => false
def conIn (cons : List (Str × D)) (x : Str) (d : D) : Bool := cons.any fun p => p.1 == x && sameC p.2 d
def biN : Bi → Option Str
  | .len => some "len" | .abs => some "abs" | .int => some "int" | .bool => some "bool" | .min => some "min" | .max => some "max" | .sum => some "sum" | .all => some "all" | .any => some "any"
  | .list => some "list" | .tuple => some "tuple" | .sorted => some "sorted"
  | _ => none
def bnames : List Str := ["len", "abs", "int", "bool", "min", "max", "sum", "all", "any", "list", "tuple", "sorted", "range", "reversed", "isinstance", "str", "zip", "enumerate"]
def ownOf (N : List Str) (is : List Nat) : List (Str × Nat) := is.filterMap fun i => (N[i]?).map fun x => (x, i)
def mNs (N : List Str) (sc : Scope) : List Nat → List Expr → Bool
  | [], xs => xs.isEmpty
  | i :: is, xs => match xs with
    | .Name id _ :: xs => decide (N[i]? = some id) && locB sc id && mNs N sc is xs
    | _ => false
def mT (N : List Str) (sc : Scope) (t : Tg) (x : Expr) : Bool := match t with
  | .one i => match x with | .Name id _ => decide (N[i]? = some id) && locB sc id | _ => false
  | .many is => match x with | .Tuple xs _ _ => mNs N sc is xs | _ => false
def nameOk (x : Str) : Bool := !(x == ("__debug__" : Str)) && !(x == ("__classdict__" : Str)) && !(x == ("__name__" : Str))
mutual
def mE (T : Tb) (N : List Str) : Ex → Scope → Expr → Bool
  | .int i, _, x => match x with | .Constant (.int j) _ _ => i == j | _ => false
  | .bl b, _, x => match x with | .Constant (.bool c) _ _ => b == c | _ => false
  | .non, _, x => match x with | .Constant .none _ _ => true | _ => false
  | .str z, _, x => match x with | .Constant (.str y) _ _ => decide (z = y) | _ => false
  | .var i, sc, x => match x with | .Name id _ => decide (N[i]? = some id) && visB sc id && nameOk id | _ => false
  | .con z d, sc, x => match x with | .Name id _ => decide (z = id) && gloB sc id && conIn T.cons id d && nameOk id | _ => false
  | .bin o a b, sc, x => match x with | .BinOp l op r _ => decide (op = opB o) && mE T N a sc l && mE T N b sc r | _ => false
  | .neg a, sc, x => match x with | .UnaryOp .USub l _ => mE T N a sc l | _ => false
  | .not a, sc, x => match x with | .UnaryOp .Not l _ => tB l && mE T N a sc l | _ => false
  | .and es, sc, x => match x with | .BoolOp .And xs _ => xs.all tB && mEs T N es sc xs && !isNil es | _ => false
  | .or es, sc, x => match x with | .BoolOp .Or xs _ => xs.all tB && mEs T N es sc xs && !isNil es | _ => false
  | .cmp o a b, sc, x => match x with | .Compare l ops rs _ => (match ops, rs with | [op], [r] => decide (op = opC o) && notSet r && mE T N a sc l && mE T N b sc r | _, _ => false) | _ => false
  | .cmp2 o p a b c, sc, x => match x with
      | .Compare l ops rs _ => (match ops, rs with | [op, oq], [r, q] => decide (op = opC o) && decide (oq = opC p) && notSet q && mE T N a sc l && mE T N b sc r && mE T N c sc q | _, _ => false)
      | _ => false
  | .ite c a b, sc, x => match x with | .IfExp t l r _ => tB t && mE T N c sc t && mE T N a sc l && mE T N b sc r | _ => false
  | .tup es, sc, x => match x with | .Tuple xs _ _ => decide (xs.length ≤ 1000) && mEs T N es sc xs | _ => false
  | .lst es, sc, x => match x with | .List xs _ => decide (xs.length ≤ 1000) && mEs T N es sc xs | _ => false
  | .idx a i, sc, x => match x with | .Subscript l r _ => plainI r && mE T N a sc l && mE T N i sc r | _ => false
  | .slc a lo hi, sc, x => match x with
      | .Subscript l s _ => (match s with
        | .Slice lo' hi' none _ => mE T N a sc l && (match lo' with | none => isNo lo | some y => !isNo lo && mE T N lo sc y) && (match hi' with | none => isNo hi | some y => !isNo hi && mE T N hi sc y)
        | _ => false)
      | _ => false
  | .call f es, sc, x => match x with
      | .Call fx xs kw _ => (match fx, kw with | .Name id _, [] => decide (T.nm[f]? = some id) && gloB sc id && nameOk id && mEs T N es sc xs | _, _ => false)
      | _ => false
  | .bi b es, sc, x => match x with
      | .Call fx xs kw _ => (match fx, kw with | .Name id _, [] => decide (biN b = some id) && gloB sc id && mEs T N es sc xs && !isNil es | _, _ => false)
      | _ => false
  | .isi t e, sc, x => match x with
      | .Call fx xs kw _ => (match fx, kw, xs with
        | .Name id _, [], [l, r] => (match r with | .Name ty _ => decide (id = "isinstance") && gloB sc id && decide (t.nm.map Str.ofString = some ty) && gloB sc ty && notStar l && mE T N e sc l | _ => false)
        | _, _, _ => false)
      | _ => false
  | .lc tg it cd elt, sc, x => match x with
      | .ListComp ex gs scope _ => (match gs with
        | [⟨tge, ite, ifs, as⟩] => decide (as = 0) && L2.blkC N sc scope (ownOf N tg.is) && decide ((ownOf N tg.is).map (·.2) = tg.is) && notSet ite && mT N scope tg tge && mI T N it sc ite tge &&
            (match ifs with | [] => isNo cd | [c] => !isNo cd && tB c && mE T N cd scope c | _ => false) && mE T N elt scope ex
        | _ => false)
      | _ => false
  | .lc2 tg it cd tg2 it2 cd2 elt, sc, x => match x with
      | .ListComp ex gs scope _ => (match gs with
        | [⟨tge, ite, ifs, as⟩, ⟨tge2, ite2, ifs2, as2⟩] => decide (as = 0) && decide (as2 = 0) && L2.blkC N sc scope (ownOf N (tg.is ++ tg2.is)) && decide ((ownOf N (tg.is ++ tg2.is)).map (·.2) = tg.is ++ tg2.is) && notSet ite && notSet ite2 && mT N scope tg tge && mT N scope tg2 tge2 && mI T N it sc ite tge &&
            (match ifs with | [] => isNo cd | [c] => !isNo cd && tB c && mE T N cd scope c | _ => false) && mI T N it2 scope ite2 tge2 &&
            (match ifs2 with | [] => isNo cd2 | [c] => !isNo cd2 && tB c && mE T N cd2 scope c | _ => false) && mE T N elt scope ex
        | _ => false)
      | _ => false
  | .dc y tg it cd k v, sc, x => match x with
      | .DictComp kx vx gs scope _ => (match gs with
        | [⟨tge, ite, ifs, as⟩] => decide (as = 0) && L2.blkC N sc scope (ownOf N tg.is) && decide ((ownOf N tg.is).map (·.2) = tg.is) && notSet ite && mT N scope tg tge && mI T N it sc ite tge &&
            (match ifs with | [] => isNo cd | [c] => !isNo cd && tB c && mE T N cd scope c | _ => false) && mE T N k scope kx && mE T N v scope vx
        | _ => false)
      | _ => false
  | .d0 _, _, x => match x with | .Dict ks vs _ => ks.isEmpty && vs.isEmpty | _ => false
  | .no, _, _ => true
  | .rev .., _, _ => false
  | .meth .., _, _ => false
  | .mk .., _, _ => false
  | .mt .., _, _ => false
  | .attr .., _, _ => false
  | .dct .., _, _ => false
  | .rngl .., _, _ => false
  | .rngt .., _, _ => false
def mEs (T : Tb) (N : List Str) : Exs → Scope → List Expr → Bool
  | .nil, _, xs => xs.isEmpty
  | .cons e es, sc, xs => match xs with
    | x :: xs => notStar x && mE T N e sc x && mEs T N es sc xs
    | [] => false
def mI (T : Tb) (N : List Str) : It → Scope → Expr → Expr → Bool
  | .rng es, sc, x, _ => match x with
      | .Call fx xs kw _ => (match fx, kw with | .Name id _, [] => decide (id = "range") && gloB sc id && mEs T N es sc xs && (decide (xs.length = 1) || decide (xs.length = 2)) | _, _ => false)
      | _ => false
  | .seq a, sc, x, _ => mE T N a sc x
  | .rvs a, sc, x, _ => match x with
      | .Call fx xs kw _ => (match fx, kw, xs with | .Name id _, [], [l] => decide (id = "reversed") && gloB sc id && notStar l && mE T N a sc l | _, _, _ => false)
      | _ => false
  | .zip a b, sc, x, tge => match x, tge with
      | .Call fx xs kw _, .Tuple _ _ _ => (match fx, kw, xs with | .Name id _, [], [l, r] => decide (id = "zip") && gloB sc id && notStar l && notStar r && mE T N a sc l && mE T N b sc r | _, _, _ => false)
      | _, _ => false
  | .enum .., _, _, _ => false
end
end Ev

set_option linter.all false
set_option maxRecDepth 100000
/-! Ev17: what matches does what the evaluator says. -/
namespace Ev
open PySem PySem.Spec PyProof.Rows
open L2 (Hp HO V Cx Inv SqL SqT Same upd upd_same upd_ne TE VK PE PT PA PS PSs PG PGs PI PIE PTs PSet PIp Key kV EP SP TP Rd RelV Vis Loc Gl OpR R2 UnR CallR Dp DpAll Sp FnOk Room Binds XK BlkOk)
open L2 (tOp tUn pe_op pe_un thn thnF rI rI0 rU IxR PlainIx SlR TA TI TG TT TS TSet TIp Itl Itt Itr Itv gName gNil gCons gTup tLc tLc2 tAsg tDrop tRet tFor tWhile tSeq gSub)

/-- what the program's names stand for -/
structure Gd (C : Cf) (X : Cx) (cs : Cs) (T : Tb) : Prop where
  fn : ∀ (f : Nat) (x : Str), T.nm[f]? = some x → ∃ k fa fd ps, FnOk X.prog X.w X.K X.mg X.base (L2.CX X.prog X.w) k fa fd ps (spF C cs.f f) ∧ Room k X.A ∧ X.mg x = some (.ref fa) ∧ PySem.W.keepIn X.K (.ref fa) = true ∧ Binds X.K fd ps []
  bn : ∀ x ∈ bnames, X.mg x = none
  cn : ∀ (x : Str) (d : D), conIn T.cons x d = true → ∃ v u, X.mg x = some u ∧ RelV v u ∧ ∀ F, Rep C F d v
  ty : TyF C.K
structure Good (C : Cf) (X : Cx) (cs : Cs) (e : Ex) (x : Expr) : Prop where
  sx : SX C X x (evX cs e)
  sb : tB x = true → SB C X x (fun env m => asB (evX cs e env m))
  pv : ∀ i, e = .var i → PE X x (L2.tVar i)
  as : ∀ (i : Nat) (y : Str) (py spos : Pos), X.N[i]? = some y → Loc X.env.scope y → (X.fn y = true ∨ X.env.scope.names.lookup y = some .local) → ∃ t, SXr C t (evX cs e) ∧ PS X (.Assign [.Name y py] x spos) (tAsg t (gName i))
inductive GoodL (C : Cf) (X : Cx) (cs : Cs) : Exs → List Expr → Prop where
  | nil : GoodL C X cs .nil []
  | cons {e : Ex} {es : Exs} {x : Expr} {xs : List Expr} (hs : notStar x = true) (h : Good C X cs e x) (hr : GoodL C X cs es xs) : GoodL C X cs (.cons e es) (x :: xs)

section
variable {C : Cf} {X : Cx} {cs : Cs} {T : Tb} {N : List Str} {sc : Scope} {k : Nat} {e : Ex} {es : Exs} {x : Expr} {xs : List Expr} {pos p : Pos}
theorem sx_congr {φ ψ : Fr → Mem → R Rv} (h : SX C X x φ) (e : ∀ env m, φ env m = ψ env m) : SX C X x ψ := by
  have : φ = ψ := funext fun a => funext fun b => e a b
  rw [← this]; exact h
theorem sb_congr {φ ψ : Fr → Mem → R Bool} (h : SB C X x φ) (e : ∀ env m, φ env m = ψ env m) : SB C X x ψ := by
  have : φ = ψ := funext fun a => funext fun b => e a b
  rw [← this]; exact h
theorem sw_congr {φ ψ : Fr → Mem → R Bool} (h : SW C X x φ) (e : ∀ env m, φ env m = ψ env m) : SW C X x ψ := by
  have : φ = ψ := funext fun a => funext fun b => e a b
  rw [← this]; exact h
theorem sbv_congr {φ ψ : Fr → Mem → R Bool} (h : SBv C X x φ) (e : ∀ env m, φ env m = ψ env m) : SBv C X x ψ := by
  have : φ = ψ := funext fun a => funext fun b => e a b
  rw [← this]; exact h
theorem asB_bl (r : R Bool) : asB (r.bind fun t m => .ok (.d (.bl t)) m) = r := by
  cases r <;> rfl
theorem asB_bind {α : Type} (r : R α) (f : α → Mem → R Rv) : asB (r.bind f) = r.bind fun a m => asB (f a m) := by
  cases r <;> rfl
theorem bind_pure {α : Type} (r : R α) : (r.bind fun t m => .ok t m) = r := by
  cases r <;> rfl
theorem as_plain {φ : Fr → Mem → R Rv} (c : CxOk C k N sc X) (sx : SX C X x φ) (hs : noSwap x = true) (i : Nat) (y : Str) (py spos : Pos) (hi : X.N[i]? = some y) (hl : Loc X.env.scope y) (hf : X.fn y = true ∨ X.env.scope.names.lookup y = some .local) :
    ∃ t, SXr C t φ ∧ PS X (.Assign [.Name y py] x spos) (tAsg t (gName i)) :=
  ⟨wpT X x, fun env m r m' e σ F ρ H H0 f w Q hQ => sx env m r m' e σ F ρ H H0 f w Q hQ, L2.ps_set (hN := by rw [c.hN]; exact c.nd) hi hl pT (swap_ok hs) hf⟩
theorem good_plain (c : CxOk C k N sc X) (sx : SX C X x (evX cs e)) (ht : plainT x = true) (hs : noSwap x = true) (hv : ∀ i, e ≠ .var i) : Good C X cs e x :=
  ⟨sx, fun _ => sx.tst (plainT_ok ht), fun i h => absurd h (hv i), as_plain c sx hs⟩
theorem Good.sd (h : Good C X cs e x) : SD C X x (fun env m => asD (evX cs e env m)) := h.sx.dat
theorem Good.sv (h : Good C X cs e x) : SV C X x (fun env m => bor (varOf e) env m (evX cs e env m)) := by
  by_cases q : ∃ i, e = .var i
  · obtain ⟨i, rfl⟩ := q
    exact sv_var (h.pv i rfl)
  · have hn : varOf e = none := by
      cases e <;> first | rfl | exact absurd ⟨_, rfl⟩ q
    rw [hn]
    exact h.sx.vw
theorem Good.sa (h : Good C X cs e x) : SA C X x (fun env m => match varOf e with | some i => slotAr env i m | none => (evX cs e env m).bind argOf) := by
  by_cases q : ∃ i, e = .var i
  · obtain ⟨i, rfl⟩ := q
    exact sa_var (h.pv i rfl)
  · have hn : varOf e = none := by
      cases e <;> first | rfl | exact absurd ⟨_, rfl⟩ q
    rw [hn]
    exact sa_ex h.sx
theorem Good.ss (h : Good C X cs e x) (fz : Bool) : SS C X x fz (fun env m => src fz (varOf e) env m (evX cs e env m)) := by
  cases fz with
  | false => exact ss_v h.sv
  | true =>
    have key := ss_d h.sd
    have e1 : (fun (env : Fr) (m : Mem) => (asD (evX cs e env m)).bind fun d m2 => R.ok (Vw.d d) m2) = fun env m => src true (varOf e) env m (evX cs e env m) := by
      funext env m
      unfold src asD
      rw [if_pos rfl]
      cases evX cs e env m <;> rfl
    rw [← e1]
    exact key
theorem GoodL.star (h : GoodL C X cs es xs) : xs.all notStar = true := by
  induction h with
  | nil => rfl
  | cons hs _ _ ih => simp only [List.all_cons, Bool.and_eq_true]; exact ⟨hs, ih⟩
theorem GoodL.sds (h : GoodL C X cs es xs) : SDs C X xs (evXs cs es) := by
  induction h with
  | nil => exact sds_nil
  | cons hs h _ ih => exact sds_cons h.sd ih (star_ok hs)
theorem GoodL.svs (h : GoodL C X cs es xs) : SVs C X xs (evVs cs es) := by
  induction h with
  | nil => exact svs_nil
  | cons hs h _ ih => exact svs_cons h.sv ih (star_ok hs)
theorem GoodL.sas (h : GoodL C X cs es xs) : SAs C X xs (evAs cs es) := by
  induction h with
  | nil => exact sas_nil
  | cons hs h _ ih => exact sas_cons h.sa ih (star_ok hs)
theorem GoodL.len (h : GoodL C X cs es xs) : ∀ env m ds m1, evXs cs es env m = .ok ds m1 → ds.length = xs.length := by
  induction h with
  | nil => intro env m ds m1 e; cases e; rfl
  | cons hs h _ ih =>
    intro env m ds m1 e
    obtain ⟨d, m2, e1, h1⟩ := R.bind_eq_ok e
    obtain ⟨ds', m3, e2, h2⟩ := R.bind_eq_ok h1
    cases h2
    simp [ih _ _ _ _ e2]
theorem GoodL.and_ (h : GoodL C X cs es xs) (ht : xs.all tB = true) (hn : isNil es = false) : SW C X (.BoolOp .And xs pos) (evAnd cs es) ∧ SBv C X (.BoolOp .And xs pos) (evAnd cs es) := by
  induction h with
  | nil => cases hn
  | @cons e es x xs hs h hr ih =>
    simp only [List.all_cons, Bool.and_eq_true] at ht
    cases hr with
    | nil =>
      exact ⟨sw_congr (sw_and1 (h.sb ht.1)) fun env m => (bind_pure _).symm, sbv_congr (sv_one h.sx) fun env m => (bind_pure _).symm⟩
    | cons hs' h' hr' =>
      obtain ⟨i1, i2⟩ := ih ht.2 rfl
      exact ⟨sw_and (h.sb ht.1) i1, sv_and h.sx i2⟩
theorem GoodL.or_ (h : GoodL C X cs es xs) (ht : xs.all tB = true) (hn : isNil es = false) : SW C X (.BoolOp .Or xs pos) (evOr cs es) ∧ SBv C X (.BoolOp .Or xs pos) (evOr cs es) := by
  induction h with
  | nil => cases hn
  | @cons e es x xs hs h hr ih =>
    simp only [List.all_cons, Bool.and_eq_true] at ht
    cases hr with
    | nil =>
      exact ⟨sw_congr (sw_or1 (h.sb ht.1)) fun env m => (bind_pure _).symm, sbv_congr (sv_one h.sx) fun env m => (bind_pure _).symm⟩
    | cons hs' h' hr' =>
      obtain ⟨i1, i2⟩ := ih ht.2 rfl
      exact ⟨sw_or (h.sb ht.1) i1, sv_or h.sx i2⟩
theorem Gd.blk (g : Gd C X cs T) (scope : Scope) (s : Shared) (Hb : Hp) (cc : Addr) (cl : List (Str × Addr)) (fp : List Addr) : Gd C (BX X scope s Hb cc cl fp) cs T := ⟨g.fn, g.bn, g.cn, g.ty⟩
theorem CxOk.hu (c : CxOk C k N sc X) : X.A.units + 70 < cLine := by have := c.room.un; omega
theorem mNs_ok (c : CxOk C k N sc X) : ∀ {is : List Nat} {xs : List Expr}, mNs N sc is xs = true → PGs X xs (gAll is) ∧ (assignEach xs X.env).length = is.length ∧ (assignEach xs X.env).findIdx? (·.1) = none
  | [], xs, h => by
    cases xs with
    | nil => exact ⟨L2.pgs_nil, rfl, rfl⟩
    | cons _ _ => cases h
  | i :: is, xs, h => by
    cases xs with
    | nil => cases h
    | cons x xs =>
      cases x with
      | Name id q =>
        have h : (decide (N[i]? = some id) && locB sc id && mNs N sc is xs) = true := h
        simp only [Bool.and_eq_true, decide_eq_true_eq] at h
        obtain ⟨⟨h1, h2⟩, h3⟩ := h
        obtain ⟨g1, g2, g3⟩ := mNs_ok c h3
        refine ⟨L2.pgs_cons (L2.pg_name (hN := by rw [c.hN]; exact c.nd) (by rw [c.hN]; exact h1) (c.loc h2) (c.fnl h2)) g1 rfl, ?_, ?_⟩
        · show ((false, assign (.Name id q) X.env) :: assignEach xs X.env).length = _
          simp [g2]
        · show ((false, assign (.Name id q) X.env) :: assignEach xs X.env).findIdx? (·.1) = none
          rw [List.findIdx?_cons, g3]
          rfl
      | _ => cases h
def tgG (K : PySem.W.Frag) (t : Tg) : TG := match t with
  | .one i => gName i
  | .many is => gTup K is.length (gAll is)
theorem tgG_ok (t : Tg) : TgOk C (tgG C.K t) t := by
  cases t with
  | one i =>
    intro d env env1 e v σ F H ρ H0 f sm r Q hQ
    cases e
    exact hQ [v] (f.setVal r i)
  | many is =>
    intro d env env1 e v σ F H ρ H0 f sm r Q hQ
    cases d with
    | tup ds =>
      have e : setAll env is ds = some env1 := e
      unfold Rep at r
      obtain ⟨p, vs, rfl, r1, r2⟩ := r
      exact ⟨p, vs, rfl, Same.tup sm r1, by rw [← r2.length, setAll_len e], gAll_ok is ds env env1 e vs σ F H ρ H0 f r2 Q (hQ vs)⟩
    | _ => cases e
theorem mT_ok (c : CxOk C k N sc X) {t : Tg} (h : mT N sc t x = true) : STg C X x t (tgG X.K t) := by
  cases t with
  | one i =>
    cases x with
    | Name id q =>
      have h : (decide (N[i]? = some id) && locB sc id) = true := h
      simp only [Bool.and_eq_true, decide_eq_true_eq] at h
      exact stg_one (L2.pg_name (hN := by rw [c.hN]; exact c.nd) (by rw [c.hN]; exact h.1) (c.loc h.2) (c.fnl h.2))
    | _ => cases h
  | many is =>
    cases x with
    | Tuple xs kk q =>
      obtain ⟨g1, g2, g3⟩ := mNs_ok (xs := xs) c h
      exact stg_many c.K (L2.pg_tup c.cal g1 g2 g3)
    | _ => cases h
end
end Ev

set_option linter.all false
set_option maxRecDepth 100000
/-! Ev18: every expression that matches. -/
namespace Ev
open PySem PySem.Spec PyProof.Rows
open L2 (Hp HO V Cx Inv SqL SqT Same upd upd_same upd_ne TE VK PE PT PA PS PSs PG PGs PI PIE PTs PSet PIp Key kV EP SP TP Rd RelV Vis Loc Gl OpR R2 UnR CallR Dp DpAll Sp FnOk Room Binds XK BlkOk)
open L2 (tOp tUn pe_op pe_un thn thnF rI rI0 rU IxR PlainIx SlR TA TI TG TT TS TSet TIp Itl Itt Itr Itv gName gNil gCons gTup tLc tLc2 tAsg tDrop tRet tFor tWhile tSeq gSub)

section
variable {C : Cf} {X : Cx} {cs : Cs} {T : Tb} {N : List Str} {sc : Scope} {k : Nat} {e : Ex} {es : Exs} {x : Expr} {xs : List Expr} {pos p : Pos}
theorem nameOk_ok {id : Str} (h : nameOk id = true) : (id == ("__debug__" : Str)) = false ∧ (id == ("__classdict__" : Str)) = false ∧ id ≠ ("__name__" : Str) := by
  unfold nameOk at h
  simp only [Bool.and_eq_true, Bool.not_eq_true'] at h
  exact ⟨h.1.1, h.1.2, fun q => by have := h.2; rw [q] at this; simp at this⟩
theorem vac {φ : Fr → Mem → R Rv} (h : ∀ env m r m', φ env m ≠ .ok r m') : SX C X x φ := fun env m r m' e => absurd e (h env m r m')
theorem sbc {φ : Fr → Mem → R Rv} (h : ∀ env m r m', φ env m ≠ .ok r m') : SB C X x (fun env m => asB (φ env m)) := fun env m r m' e => by
  obtain ⟨v, m1, e1, _⟩ := R.bind_eq_ok e
  exact absurd e1 (h env m v m1)
theorem blk_ok (c : CxOk C k N sc X) {scope : Scope} {own : List (Str × Nat)} (h : L2.blkC N sc scope own = true) : BlkOk X.N X.env.scope scope own := by
  obtain ⟨h1, h2, h3, h4, h5⟩ := L2.blkOk_by h
  rw [c.hN]
  refine ⟨h1, h2, h3, fun y hy e => ?_, h5⟩
  rcases h4 y hy e with q | q
  · rcases c.scp _ _ q with z | z
    · exact .inl z
    · cases z.1
  · rcases c.scp _ _ q with z | z
    · exact .inr z
    · exact .inl z.2
theorem bi_boot {b : Bi} {id : Str} (h : biN b = some id) : bootBuiltins id = some (calB b).val ∧ id ∈ bnames ∧ id ≠ ("__name__" : Str) ∧ (id == ("__debug__" : Str)) = false := by
  cases b <;> first | (cases h; exact ⟨rfl, by decide, by decide, by decide⟩) | cases h
theorem ty_boot {t : Ty} {ty : Str} {n : String} (hn : t.nm = some n) (h : t.nm.map Str.ofString = some ty) : bootBuiltins ty = some (.type n) ∧ ty ∈ bnames ∧ ty ≠ ("__name__" : Str) ∧ (ty == ("__debug__" : Str)) = false := by
  cases t <;> first | (cases hn; cases h; exact ⟨rfl, by decide, by decide, by decide⟩) | cases hn
theorem swap_lc {elt : Expr} {gs : List Comprehension} {scope : Scope} {q : Pos} {y : Str} {py : Pos} {l : Nat} : ∃ b : Bool, swapsWith (.ListComp elt gs scope q) (some (.Name y py)) l X.env = pure b ∧ (b = true → X.env.scope.names.lookup y = some .local) := by
  refine ⟨_, rfl, fun h => ?_⟩
  simp only [Bool.and_eq_true, beq_iff_eq] at h
  exact h.1.1.2
theorem swap_dc {kx vx : Expr} {gs : List Comprehension} {scope : Scope} {q : Pos} {y : Str} {py : Pos} {l : Nat} : ∃ b : Bool, swapsWith (.DictComp kx vx gs scope q) (some (.Name y py)) l X.env = pure b ∧ (b = true → X.env.scope.names.lookup y = some .local) := by
  refine ⟨_, rfl, fun h => ?_⟩
  simp only [Bool.and_eq_true, beq_iff_eq] at h
  exact h.1.1.2
theorem good_of (c : CxOk C k N sc X) (sx : SX C X x (evX cs e)) (sb : tB x = true → SB C X x (fun env m => asB (evX cs e env m))) (hs : noSwap x = true) (hv : ∀ i, e ≠ .var i) : Good C X cs e x := ⟨sx, sb, fun i h => absurd h (hv i), as_plain c sx hs⟩
end
mutual
theorem mE_ok {C : Cf} {cs : Cs} {T : Tb} {N : List Str} : ∀ (e : Ex) (sc : Scope) (x : Expr), mE T N e sc x = true → ∀ (k : Nat) (X : Cx), CxOk C k N sc X → Gd C X cs T → Good C X cs e x
  | .int i, sc, x, h, k, X, c, g => by
    unfold mE at h
    split at h
    · have := eq_of_beq h
      subst this
      exact good_plain c (sx_con L2.pe_int fun F => by unfold Rep; rfl) rfl rfl (fun _ => nofun)
    · cases h
  | .bl b, sc, x, h, k, X, c, g => by
    unfold mE at h
    split at h
    · have := eq_of_beq h
      subst this
      exact good_plain c (sx_con L2.pe_bl fun F => by unfold Rep; rfl) rfl rfl (fun _ => nofun)
    · cases h
  | .non, sc, x, h, k, X, c, g => by
    unfold mE at h
    split at h
    · exact good_plain c (sx_con L2.pe_non fun F => by unfold Rep; rfl) rfl rfl (fun _ => nofun)
    · cases h
  | .str z, sc, x, h, k, X, c, g => by
    unfold mE at h
    split at h
    · have := of_decide_eq_true h
      subst this
      exact good_plain c (sx_con L2.pe_str fun F => by unfold Rep; rfl) rfl rfl (fun _ => nofun)
    · cases h
  | .var i, sc, x, h, k, X, c, g => by
    unfold mE at h
    split at h
    · rename_i id q
      simp only [Bool.and_eq_true, decide_eq_true_eq] at h
      obtain ⟨⟨h1, h2⟩, h3⟩ := h
      obtain ⟨n1, n2, n3⟩ := nameOk_ok h3
      have pv : PE X (.Name id q) (L2.tVar i) := L2.pe_var (by rw [c.hN]; exact h1) (c.vis h2) n1 n2
      have sx : SX C X (.Name id q) (evX cs (.var i)) := sx_var pv
      exact ⟨sx, fun _ => sx.tst (plainT_ok rfl), fun j e => by cases e; exact pv, as_plain c sx rfl⟩
    · cases h
  | .con z d, sc, x, h, k, X, c, g => by
    unfold mE at h
    split at h
    · rename_i id q
      simp only [Bool.and_eq_true, decide_eq_true_eq] at h
      obtain ⟨⟨⟨h1, h2⟩, h4⟩, h3⟩ := h
      obtain ⟨n1, n2, n3⟩ := nameOk_ok h3
      obtain ⟨v, u, k1, k2, k3⟩ := g.cn id d h4
      exact good_plain c (sx_con (L2.pe_glob (c.glo h2) k1 k2 n1) k3) rfl rfl (fun _ => nofun)
    · cases h
  | .bin o a b, sc, x, h, k, X, c, g => by
    unfold mE at h
    split at h
    · simp only [Bool.and_eq_true, decide_eq_true_eq] at h
      obtain ⟨⟨h1, h2⟩, h3⟩ := h
      subst h1
      have ga := mE_ok a sc _ h2 k X c g
      have gb := mE_ok b sc _ h3 k X c g
      exact good_plain c (sx_bin c.K ga.sv gb.sv) rfl rfl (fun _ => nofun)
    · cases h
  | .neg a, sc, x, h, k, X, c, g => by
    unfold mE at h
    split at h
    · rename_i l q
      have ga := mE_ok a sc _ h k X c g
      have sx : SX C X (.UnaryOp .USub l q) (evX cs (.neg a)) := sx_neg ga.sd
      exact ⟨sx, fun z => (by cases z), fun j e => (by cases e), as_plain c sx rfl⟩
    · cases h
  | .not a, sc, x, h, k, X, c, g => by
    unfold mE at h
    split at h
    · rename_i l q
      simp only [Bool.and_eq_true] at h
      have ga := mE_ok a sc _ h.2 k X c g
      have sx : SX C X (.UnaryOp .Not l q) (evX cs (.not a)) := sx_not ga.sx
      refine ⟨sx, fun z => sb_congr (sb_not (ga.sb h.1)) fun env m => ?_, fun j e => (by cases e), as_plain c sx rfl⟩
      show _ = asB ((asB (evX cs a env m)).bind fun x m1 => R.ok (.d (.bl (!x))) m1)
      rw [asB_bind]
      rfl
    · cases h
  | .and es, sc, x, h, k, X, c, g => by
    unfold mE at h
    split at h
    · simp only [Bool.and_eq_true, Bool.not_eq_true'] at h
      obtain ⟨⟨h1, h2⟩, h3⟩ := h
      obtain ⟨g1, g2⟩ := (mEs_ok es sc _ h2 k X c g).and_ h1 h3
      exact good_of c g2 (fun _ => sb_congr g1.sb fun env m => (asB_bl _).symm) rfl (fun _ => nofun)
    · cases h
  | .or es, sc, x, h, k, X, c, g => by
    unfold mE at h
    split at h
    · simp only [Bool.and_eq_true, Bool.not_eq_true'] at h
      obtain ⟨⟨h1, h2⟩, h3⟩ := h
      obtain ⟨g1, g2⟩ := (mEs_ok es sc _ h2 k X c g).or_ h1 h3
      exact good_of c g2 (fun _ => sb_congr g1.sb fun env m => (asB_bl _).symm) rfl (fun _ => nofun)
    · cases h
  | .cmp o a b, sc, x, h, k, X, c, g => by
    unfold mE at h
    split at h
    · split at h
      · simp only [Bool.and_eq_true, decide_eq_true_eq] at h
        obtain ⟨⟨⟨h1, h2⟩, h3⟩, h4⟩ := h
        subst h1
        have ga := mE_ok a sc _ h3 k X c g
        have gb := mE_ok b sc _ h4 k X c g
        refine good_of c (sx_cmp c.K c.w c.hu ga.sv gb.sv (marks_ok h2)) (fun _ => sb_congr (sb_cmp c.K c.w c.hu ga.sv gb.sv (marks_ok h2)) fun env m => ?_) rfl (fun _ => nofun)
        show _ = asB ((bor (varOf a) env m (evX cs a env m)).bind fun x m1 => (bor (varOf b) env m1 (evX cs b env m1)).bind fun y m2 => (opt (cmpD o (x.at m2) (y.at m2)) m2).bind fun t m3 => R.ok (.d (.bl t)) m3)
        simp only [asB_bind]
        congr 1
        funext y m1
        congr 1
        funext z m2
        exact (bind_pure _).symm
      · cases h
    · cases h
  | .cmp2 o q a b d, sc, x, h, k, X, c, g => by
    unfold mE at h
    split at h
    · split at h
      · simp only [Bool.and_eq_true, decide_eq_true_eq] at h
        obtain ⟨⟨⟨⟨⟨h1, h2⟩, h3⟩, h4⟩, h5⟩, h6⟩ := h
        subst h1 h2
        have ga := mE_ok a sc _ h4 k X c g
        have gb := mE_ok b sc _ h5 k X c g
        have gd := mE_ok d sc _ h6 k X c g
        exact good_of c (sx_cmp2 c.K c.w c.hu ga.sd gb.sd gd.sd (show behindInMarks (opC q) _ = false from marks_ok h3)) (fun _ => sb_cmp2 c.K c.w c.hu ga.sd gb.sd gd.sd (show behindInMarks (opC q) _ = false from marks_ok h3)) rfl (fun _ => nofun)
      · cases h
    · cases h
  | .ite a b d, sc, x, h, k, X, c, g => by
    unfold mE at h
    split at h
    · simp only [Bool.and_eq_true] at h
      obtain ⟨⟨⟨h1, h2⟩, h3⟩, h4⟩ := h
      have ga := mE_ok a sc _ h2 k X c g
      have gb := mE_ok b sc _ h3 k X c g
      have gd := mE_ok d sc _ h4 k X c g
      exact good_of c (sx_ite (ga.sb h1) gb.sx gd.sx) (fun z => nomatch z) rfl (fun _ => nofun)
    · cases h
  | .tup es, sc, x, h, k, X, c, g => by
    unfold mE at h
    split at h
    · simp only [Bool.and_eq_true, decide_eq_true_eq] at h
      have gl := mEs_ok es sc _ h.2 k X c g
      exact good_plain c (sx_tup gl.sds fun env m ds m1 e => by rw [gl.len env m ds m1 e]; exact h.1) rfl rfl (fun _ => nofun)
    · cases h
  | .lst es, sc, x, h, k, X, c, g => by
    unfold mE at h
    split at h
    · simp only [Bool.and_eq_true, decide_eq_true_eq] at h
      have gl := mEs_ok es sc _ h.2 k X c g
      exact good_plain c (sx_lst gl.sds fun env m ds m1 e => by rw [gl.len env m ds m1 e]; exact h.1) rfl rfl (fun _ => nofun)
    · cases h
  | .idx a i, sc, x, h, k, X, c, g => by
    unfold mE at h
    split at h
    · simp only [Bool.and_eq_true] at h
      obtain ⟨⟨h1, h2⟩, h3⟩ := h
      have ga := mE_ok a sc _ h2 k X c g
      have gi := mE_ok i sc _ h3 k X c g
      exact good_plain c (sx_idx c.K c.w c.hu ga.sv gi.sd (plainI_ok h1)) rfl rfl (fun _ => nofun)
    · cases h
  | .slc a lo hi, sc, x, h, k, X, c, g => by
    unfold mE at h
    split at h
    · split at h
      · rename_i lo' hi' _
        simp only [Bool.and_eq_true] at h
        obtain ⟨⟨h1, h2⟩, h3⟩ := h
        have ga := mE_ok a sc _ h1 k X c g
        have so : ∀ (l : Ex) (o : Option Expr), (∀ (y : Expr), mE T N l sc y = true → Good C X cs l y) → (match o with | none => isNo l | some y => !isNo l && mE T N l sc y) = true → SO C X o (fun env m => partE (isNo l) m (evX cs l env m)) := fun l o ih q => by
          cases o with
          | none =>
            have q : isNo l = true := q
            rw [q]
            exact so_none
          | some y =>
            simp only [Bool.and_eq_true, Bool.not_eq_true'] at q
            rw [q.1]
            exact so_some (ih y q.2).sx
        exact good_plain c (sx_slc c.K ga.sv (so lo lo' (fun y q => mE_ok lo sc y q k X c g) h2) (so hi hi' (fun y q => mE_ok hi sc y q k X c g) h3)) rfl rfl (fun _ => nofun)
      · cases h
    · cases h
  | .call f es, sc, x, h, k, X, c, g => by
    unfold mE at h
    split at h
    · split at h
      · simp only [Bool.and_eq_true, decide_eq_true_eq] at h
        obtain ⟨⟨⟨h1, h2⟩, h3⟩, h4⟩ := h
        obtain ⟨n1, n2, n3⟩ := nameOk_ok h3
        obtain ⟨k', fa, fd, ps, G, hr, hm, hk, hb⟩ := g.fn f _ h1
        have gl := mEs_ok es sc _ h4 k X c g
        have hst := gl.star
        have sas := gl.sas
        refine good_plain c ?_ rfl rfl (fun _ => nofun)
        cases gl with
        | nil => exact sx_call0 G hr (c.glo h2) hm hk hb n1
        | cons hs hh hrest =>
          simp only [List.all_cons, Bool.and_eq_true] at hst
          exact sx_call G hr (c.glo h2) hm hk hb n1 sas (star_ok hs) (star_any hst.2)
      · cases h
    · cases h
  | .bi b es, sc, x, h, k, X, c, g => by
    unfold mE at h
    split at h
    · split at h
      · simp only [Bool.and_eq_true, decide_eq_true_eq, Bool.not_eq_true'] at h
        obtain ⟨⟨⟨h1, h2⟩, h3⟩, h4⟩ := h
        obtain ⟨b1, b2, b3, b4⟩ := bi_boot h1
        have gl := mEs_ok es sc _ h3 k X c g
        have hst := gl.star
        have svs := gl.svs
        refine good_plain c ?_ rfl rfl (fun _ => nofun)
        cases gl with
        | nil => cases h4
        | cons hs hh hrest =>
          simp only [List.all_cons, Bool.and_eq_true] at hst
          exact sx_bi c.K c.w c.cal (cl := calB b) rfl (c.glo h2) (g.bn _ b2) b1 b3 b4 svs (star_ok hs) (star_any hst.2)
      · cases h
    · cases h
  | .isi t a, sc, x, h, k, X, c, g => by
    unfold mE at h
    split at h
    · split at h
      · split at h
        · simp only [Bool.and_eq_true, decide_eq_true_eq] at h
          obtain ⟨⟨⟨⟨⟨h1, h2⟩, h3⟩, h4⟩, h5⟩, h6⟩ := h
          subst h1
          have ga := mE_ok a sc _ h6 k X c g
          cases hn : t.nm with
          | none => rw [hn] at h3; cases h3
          | some n =>
            obtain ⟨b1, b2, b3, b4⟩ := ty_boot hn h3
            exact good_plain c (sx_isi c.K g.ty hn (c.glo h2) (g.bn _ (by decide)) (c.glo h4) (g.bn _ b2) b1 b3 b4 ga.sv (star_ok h5) rfl rfl) rfl rfl (fun _ => nofun)
        · cases h
      · cases h
    · cases h
  | .lc tg it cd elt, sc, x, h, k, X, c, g => by
    unfold mE at h
    split at h
    · split at h
      · rename_i ex scope pos _ tge ite ifs as
        simp only [Bool.and_eq_true, decide_eq_true_eq] at h
        obtain ⟨⟨⟨⟨⟨⟨⟨h0, h1⟩, h2⟩, h3⟩, h4⟩, h5⟩, h6⟩, h7⟩ := h
        subst h0
        have hk := (L2.blkOk_by h1).kind
        have cb := fun s Hb cc cl fp => c.blk hk s Hb cc cl fp
        have gi := mI_ok it sc _ tge h5 k X c g false
        have gt : ∀ s Hb cc cl fp, STg C (BX X scope s Hb cc cl fp) tge tg (tgG X.K tg) := fun s Hb cc cl fp => mT_ok (cb s Hb cc cl fp) h4
        have gt0 : TgOk C (tgG X.K tg) tg := by rw [c.K]; exact tgG_ok _
        have gc : ∀ s Hb cc cl fp, SBs C (BX X scope s Hb cc cl fp) ifs (fun env m => condE (isNo cd) m (evX cs cd env m)) := fun s Hb cc cl fp => by
          split at h6
          · rw [h6]; exact sbs_nil
          · simp only [Bool.and_eq_true, Bool.not_eq_true'] at h6
            rw [h6.1.1]
            exact sbs_one ((mE_ok cd scope _ h6.2 k _ (cb s Hb cc cl fp) (g.blk _ _ _ _ _ _)).sb h6.1.2)
          · cases h6
        have ge := fun s Hb cc cl fp => (mE_ok elt scope _ h7 k _ (cb s Hb cc cl fp) (g.blk _ _ _ _ _ _)).sd
        have rd : SXr C _ (evX cs (.lc tg it cd elt)) := lc_read (vs := (ownOf N tg.is).map (·.2)) gi gt0 gc ge (by rw [h2]; exact fun _ z => z) (by rw [h2]; exact fun _ z => z)
        have sx : SX C X (.ListComp ex [⟨tge, ite, ifs, 0⟩] scope pos) (evX cs (.lc tg it cd elt)) := rd.sx (L2.pe_lc c.cal (by rw [c.hN]; exact c.nd) pI (blk_ok c h1) (fun s Hb cc cl fp => (gt s Hb cc cl fp).1) pts_all pe_all (fold_ok h3))
        refine ⟨sx, fun _ => sx.tst (plainT_ok rfl), fun j e => (by cases e), fun i y py spos hi hl hf => ?_⟩
        obtain ⟨b, hb, hb2⟩ := swap_lc (X := X) (elt := ex) (gs := [⟨tge, ite, ifs, 0⟩]) (scope := scope) (q := pos) (y := y) (py := py) (l := spos.line)
        cases b with
        | false => exact ⟨_, rd, L2.ps_set (hN := by rw [c.hN]; exact c.nd) hi hl (L2.pe_lc c.cal (by rw [c.hN]; exact c.nd) pI (blk_ok c h1) (fun s Hb cc cl fp => (gt s Hb cc cl fp).1) pts_all pe_all (fold_ok h3)) hb hf⟩
        | true => exact ⟨_, rd, L2.ps_setLc c.cal (by rw [c.hN]; exact c.nd) hi (hb2 rfl) hb pI (blk_ok c h1) (fun s Hb cc cl fp => (gt s Hb cc cl fp).1) pts_all pe_all (fold_ok h3)⟩
      · cases h
    · cases h
  | .lc2 tg it cd tg2 it2 cd2 elt, sc, x, h, k, X, c, g => by
    unfold mE at h
    split at h
    · split at h
      · rename_i ex scope pos _ tge ite ifs as tge2 ite2 ifs2 as2
        simp only [Bool.and_eq_true, decide_eq_true_eq] at h
        obtain ⟨⟨⟨⟨⟨⟨⟨⟨⟨⟨⟨⟨h0, h0'⟩, h1⟩, h2⟩, h3⟩, h3'⟩, h4⟩, h4'⟩, h5⟩, h6⟩, h5'⟩, h6'⟩, h7⟩ := h
        subst h0 h0'
        have hk := (L2.blkOk_by h1).kind
        have cb := fun s Hb cc cl fp => c.blk hk s Hb cc cl fp
        have gi := mI_ok it sc _ tge h5 k X c g false
        have gi2 := fun s Hb cc cl fp => mI_ok it2 scope _ tge2 h5' k _ (cb s Hb cc cl fp) (g.blk _ _ _ _ _ _) true
        have gt : ∀ s Hb cc cl fp, STg C (BX X scope s Hb cc cl fp) tge tg (tgG X.K tg) := fun s Hb cc cl fp => mT_ok (cb s Hb cc cl fp) h4
        have gt2 : ∀ s Hb cc cl fp, STg C (BX X scope s Hb cc cl fp) tge2 tg2 (tgG X.K tg2) := fun s Hb cc cl fp => mT_ok (cb s Hb cc cl fp) h4'
        have gt0 : TgOk C (tgG X.K tg) tg := by rw [c.K]; exact tgG_ok _
        have gt20 : TgOk C (tgG X.K tg2) tg2 := by rw [c.K]; exact tgG_ok _
        have gc : ∀ s Hb cc cl fp, SBs C (BX X scope s Hb cc cl fp) ifs (fun env m => condE (isNo cd) m (evX cs cd env m)) := fun s Hb cc cl fp => by
          split at h6
          · rw [h6]; exact sbs_nil
          · simp only [Bool.and_eq_true, Bool.not_eq_true'] at h6
            rw [h6.1.1]
            exact sbs_one ((mE_ok cd scope _ h6.2 k _ (cb s Hb cc cl fp) (g.blk _ _ _ _ _ _)).sb h6.1.2)
          · cases h6
        have gc2 : ∀ s Hb cc cl fp, SBs C (BX X scope s Hb cc cl fp) ifs2 (fun env m => condE (isNo cd2) m (evX cs cd2 env m)) := fun s Hb cc cl fp => by
          split at h6'
          · rw [h6']; exact sbs_nil
          · simp only [Bool.and_eq_true, Bool.not_eq_true'] at h6'
            rw [h6'.1.1]
            exact sbs_one ((mE_ok cd2 scope _ h6'.2 k _ (cb s Hb cc cl fp) (g.blk _ _ _ _ _ _)).sb h6'.1.2)
          · cases h6'
        have ge := fun s Hb cc cl fp => (mE_ok elt scope _ h7 k _ (cb s Hb cc cl fp) (g.blk _ _ _ _ _ _)).sd
        have hv : ∀ i ∈ tg2.is, i ∈ (ownOf N (tg.is ++ tg2.is)).map (·.2) := by rw [h2]; exact fun _ z => List.mem_append_right _ z
        have rd : SXr C _ (evX cs (.lc2 tg it cd tg2 it2 cd2 elt)) := lc2_read (vs := (ownOf N (tg.is ++ tg2.is)).map (·.2)) gi gt0 gc gi2 gt20 gc2 ge (by rw [h2]; exact fun _ z => List.mem_append.mp z) (by rw [h2]; exact fun _ z => List.mem_append_left _ z) hv
        have pe : PE X (.ListComp ex [⟨tge, ite, ifs, 0⟩, ⟨tge2, ite2, ifs2, 0⟩] scope pos) _ := L2.pe_lc2 c.cal (by rw [c.hN]; exact c.nd) pI (blk_ok c h1) hv (fun s Hb cc cl fp => (gt s Hb cc cl fp).1) pts_all pi_all (fun s Hb cc cl fp => (gt2 s Hb cc cl fp).1) pts_all pe_all (fold_ok h3) (fun env => fold_ok h3')
        have sx : SX C X (.ListComp ex [⟨tge, ite, ifs, 0⟩, ⟨tge2, ite2, ifs2, 0⟩] scope pos) (evX cs (.lc2 tg it cd tg2 it2 cd2 elt)) := rd.sx pe
        refine ⟨sx, fun _ => sx.tst (plainT_ok rfl), fun j e => (by cases e), fun i y py spos hi hl hf => ?_⟩
        obtain ⟨b, hb, hb2⟩ := swap_lc (X := X) (elt := ex) (gs := [⟨tge, ite, ifs, 0⟩, ⟨tge2, ite2, ifs2, 0⟩]) (scope := scope) (q := pos) (y := y) (py := py) (l := spos.line)
        cases b with
        | false => exact ⟨_, rd, L2.ps_set (hN := by rw [c.hN]; exact c.nd) hi hl pe hb hf⟩
        | true => exact ⟨_, rd, L2.ps_setLc2 c.cal (by rw [c.hN]; exact c.nd) hi (hb2 rfl) hb pI (blk_ok c h1) hv (fun s Hb cc cl fp => (gt s Hb cc cl fp).1) pts_all pi_all (fun s Hb cc cl fp => (gt2 s Hb cc cl fp).1) pts_all pe_all (fold_ok h3) (fun env => fold_ok h3')⟩
      · cases h
    · cases h
  | .dc d tg it cd kx vx, sc, x, h, k, X, c, g => by
    unfold mE at h
    split at h
    · split at h
      · rename_i kx' vx' scope pos _ tge ite ifs as
        simp only [Bool.and_eq_true, decide_eq_true_eq] at h
        obtain ⟨⟨⟨⟨⟨⟨⟨⟨h0, h1⟩, h2⟩, h3⟩, h4⟩, h5⟩, h6⟩, h7⟩, h8⟩ := h
        subst h0
        have hk := (L2.blkOk_by h1).kind
        have cb := fun s Hb cc cl fp => c.blk hk s Hb cc cl fp
        have gi := mI_ok it sc _ tge h5 k X c g false
        have gt : ∀ s Hb cc cl fp, STg C (BX X scope s Hb cc cl fp) tge tg (tgG X.K tg) := fun s Hb cc cl fp => mT_ok (cb s Hb cc cl fp) h4
        have gt0 : TgOk C (tgG X.K tg) tg := by rw [c.K]; exact tgG_ok _
        have gc : ∀ s Hb cc cl fp, SBs C (BX X scope s Hb cc cl fp) ifs (fun env m => condE (isNo cd) m (evX cs cd env m)) := fun s Hb cc cl fp => by
          split at h6
          · rw [h6]; exact sbs_nil
          · simp only [Bool.and_eq_true, Bool.not_eq_true'] at h6
            rw [h6.1.1]
            exact sbs_one ((mE_ok cd scope _ h6.2 k _ (cb s Hb cc cl fp) (g.blk _ _ _ _ _ _)).sb h6.1.2)
          · cases h6
        have gk := fun s Hb cc cl fp => (mE_ok kx scope _ h7 k _ (cb s Hb cc cl fp) (g.blk _ _ _ _ _ _)).sd
        have gv := fun s Hb cc cl fp => (mE_ok vx scope _ h8 k _ (cb s Hb cc cl fp) (g.blk _ _ _ _ _ _)).sd
        have hst := fun s Hb cc cl fp => stD_ok (C := C) (X := BX X scope s Hb cc cl fp) (by have := c.hu; show X.A.units + 64 < cLine; omega) c.K c.w d
        have rd : SXr C _ (evX cs (.dc d tg it cd kx vx)) := dc_read (vs := (ownOf N tg.is).map (·.2)) gi gt0 gc gk gv (by rw [h2]; exact fun _ z => z) (by rw [h2]; exact fun _ z => z)
        have pe : PE X (.DictComp kx' vx' [⟨tge, ite, ifs, 0⟩] scope pos) _ := pe_dcG c.cal (by rw [c.hN]; exact c.nd) pI (blk_ok c h1) (o0_ok c.w d) (fun s Hb cc cl fp => ⟨hst s Hb cc cl fp, (gt s Hb cc cl fp).1, pts_all s Hb cc cl fp, pe_all s Hb cc cl fp, pe_all s Hb cc cl fp⟩) (fold_ok h3)
        have sx : SX C X (.DictComp kx' vx' [⟨tge, ite, ifs, 0⟩] scope pos) (evX cs (.dc d tg it cd kx vx)) := rd.sx pe
        refine ⟨sx, fun _ => sx.tst (plainT_ok rfl), fun j e => (by cases e), fun i y py spos hi hl hf => ?_⟩
        obtain ⟨b, hb, hb2⟩ := swap_dc (X := X) (kx := kx') (vx := vx') (gs := [⟨tge, ite, ifs, 0⟩]) (scope := scope) (q := pos) (y := y) (py := py) (l := spos.line)
        cases b with
        | false => exact ⟨_, rd, L2.ps_set (hN := by rw [c.hN]; exact c.nd) hi hl pe hb hf⟩
        | true => exact ⟨_, rd, ps_setDcG c.cal (by rw [c.hN]; exact c.nd) hi (hb2 rfl) hb pI (blk_ok c h1) (o0_ok c.w d) (fun s Hb cc cl fp => ⟨hst s Hb cc cl fp, (gt s Hb cc cl fp).1, pts_all s Hb cc cl fp, pe_all s Hb cc cl fp, pe_all s Hb cc cl fp⟩) (fold_ok h3)⟩
      · cases h
    · cases h
  | .d0 d, sc, x, h, k, X, c, g => by
    unfold mE at h
    split at h
    · rename_i ks vs _
      simp only [Bool.and_eq_true, List.isEmpty_iff] at h
      obtain ⟨rfl, rfl⟩ := h
      exact good_plain c (sx_d0 c.w d) rfl rfl (fun _ => nofun)
    · cases h
  | .no, sc, x, h, k, X, c, g => by
    have v : ∀ env m r m', evX cs .no env m ≠ .ok r m' := fun _ _ _ _ => nofun
    exact ⟨vac v, fun _ => sbc v, fun j e => (by cases e), fun i y py spos hi hl hf => ⟨fun _ _ _ => False, fun env m r m' e => absurd e (v env m r m'), ⟨fun _ _ _ _ _ _ z => z.elim⟩⟩⟩
  | .rev .., sc, x, h, k, X, c, g => by unfold mE at h; cases h
  | .meth .., sc, x, h, k, X, c, g => by unfold mE at h; cases h
  | .mk .., sc, x, h, k, X, c, g => by unfold mE at h; cases h
  | .mt .., sc, x, h, k, X, c, g => by unfold mE at h; cases h
  | .attr .., sc, x, h, k, X, c, g => by unfold mE at h; cases h
  | .dct .., sc, x, h, k, X, c, g => by unfold mE at h; cases h
  | .rngl .., sc, x, h, k, X, c, g => by unfold mE at h; cases h
  | .rngt .., sc, x, h, k, X, c, g => by unfold mE at h; cases h
theorem mEs_ok {C : Cf} {cs : Cs} {T : Tb} {N : List Str} : ∀ (es : Exs) (sc : Scope) (xs : List Expr), mEs T N es sc xs = true → ∀ (k : Nat) (X : Cx), CxOk C k N sc X → Gd C X cs T → GoodL C X cs es xs
  | .nil, sc, xs, h, k, X, c, g => by
    unfold mEs at h
    rw [List.isEmpty_iff] at h
    subst h
    exact .nil
  | .cons e es, sc, xs, h, k, X, c, g => by
    unfold mEs at h
    split at h
    · simp only [Bool.and_eq_true] at h
      exact .cons h.1.1 (mE_ok e sc _ h.1.2 k X c g) (mEs_ok es sc _ h.2 k X c g)
    · cases h
theorem mI_ok {C : Cf} {cs : Cs} {T : Tb} {N : List Str} : ∀ (it : It) (sc : Scope) (x tge : Expr), mI T N it sc x tge = true → ∀ (k : Nat) (X : Cx), CxOk C k N sc X → Gd C X cs T → ∀ (fz : Bool), SI C X tge x fz (evI cs it fz)
  | .rng es, sc, x, tge, h, k, X, c, g, fz => by
    unfold mI at h
    split at h
    · split at h
      · simp only [Bool.and_eq_true, decide_eq_true_eq, Bool.or_eq_true] at h
        obtain ⟨⟨⟨h1, h2⟩, h3⟩, h4⟩ := h
        subst h1
        have gl := mEs_ok es sc _ h3 k X c g
        have hst := gl.star
        refine si_rng (c.glo h2) (g.bn _ (by decide)) gl.sds ?_ gl.len
        rename_i xs _ _ _ _
        rcases h4 with h4 | h4
        · match xs, h4 with
          | [a], _ =>
            simp only [List.all_cons, Bool.and_eq_true] at hst
            exact .inl ⟨rfl, a, rfl, star_ok hst.1⟩
        · match xs, h4 with
          | [a, b], _ =>
            simp only [List.all_cons, Bool.and_eq_true] at hst
            exact .inr ⟨a, b, rfl, by rw [star_ok hst.1, star_ok hst.2.1]; rfl, star_ok hst.2.1⟩
      · cases h
    · cases h
  | .seq a, sc, x, tge, h, k, X, c, g, fz => by
    unfold mI at h
    exact si_seq c.K ((mE_ok a sc _ h k X c g).ss fz)
  | .rvs a, sc, x, tge, h, k, X, c, g, fz => by
    unfold mI at h
    split at h
    · split at h
      · simp only [Bool.and_eq_true, decide_eq_true_eq] at h
        obtain ⟨⟨⟨h1, h2⟩, h3⟩, h4⟩ := h
        subst h1
        exact si_rvs c.K (c.glo h2) (g.bn _ (by decide)) ((mE_ok a sc _ h4 k X c g).ss fz) (star_ok h3)
      · cases h
    · cases h
  | .zip a b, sc, x, tge, h, k, X, c, g, fz => by
    unfold mI at h
    split at h
    · split at h
      · simp only [Bool.and_eq_true, decide_eq_true_eq] at h
        obtain ⟨⟨⟨⟨⟨n1, n2⟩, n3⟩, n4⟩, n5⟩, n6⟩ := h
        subst n1
        exact si_zip c.K (c.glo n2) (g.bn _ (by decide)) ((mE_ok a sc _ n5 k X c g).ss fz) ((mE_ok b sc _ n6 k X c g).ss fz) (star_ok n3) (star_ok n4) (star_any (by simp [n4]))
      · cases h
    · cases h
  | .enum .., sc, x, tge, h, k, X, c, g, fz => by unfold mI at h; cases h
end
end Ev

set_option linter.all false
set_option maxRecDepth 100000
/-! Ev19: every statement that matches. -/
namespace Ev
open PySem PySem.Spec PyProof.Rows
open L2 (Hp HO V Cx Inv SqL SqT Same upd upd_same upd_ne TE VK PE PT PA PS PSs PG PGs PI PIE PTs PSet PIp Key kV EP SP TP Rd RelV Vis Loc Gl OpR R2 UnR CallR Dp DpAll Sp FnOk Room Binds XK BlkOk)
open L2 (tOp tUn pe_op pe_un thn thnF rI rI0 rU IxR PlainIx SlR TA TI TG TT TS TSet TIp Itl Itt Itr Itv gName gNil gCons gTup tLc tLc2 tAsg tDrop tRet tFor tWhile tSeq gSub)

/-! ### a, b = x, y -/
def swLine (ts : List Expr) : Nat := (ts.head?.map (·.pos.line)).getD 0
def swNames (sc : Scope) (l : Nat) (ts : List Expr) : List Str := ts.filterMap fun
  | .Name id pos => if sc.names.lookup id == some .local && pos.line == l then some id else none
  | _ => none
def swS (sc : Scope) (ts vs : List Expr) : Option (Option (List Str)) :=
  if !(ts.length == 2 || ts.length == 3) || vs.length != ts.length then some none
  else if (swNames sc (swLine ts) ts).length != ts.length || (swNames sc (swLine ts) ts).eraseDups.length != (swNames sc (swLine ts) ts).length then some none
  else if vs.all (foldedForSure 8) then some none
  else if vs.all (constantsAlone 8) then none
  else some (some (swNames sc (swLine ts) ts))
section
variable {C : Cf} {X : Cx} {cs : Cs} {T : Tb} {N : List Str} {sc : Scope} {k : Nat} {e : Ex} {es : Exs} {x : Expr} {xs : List Expr} {pos p : Pos}
theorem kind_eq (c : CxOk C k N sc X) {id : Str} (h : locB sc id = true) : (X.env.kindOf id == some NameKind.local) = (sc.names.lookup id == some .local) := by
  unfold locB at h
  split at h
  · rename_i e
    rcases c.scp _ _ e with q | q
    · rw [e]; show (X.env.scope.names.lookup id == some NameKind.local) = _; rw [q]
    · cases q.1
  · rename_i e
    rcases c.scp _ _ e with q | q
    · rw [e]; show (X.env.scope.names.lookup id == some NameKind.local) = _; rw [q]
    · cases q.1
  · cases h
theorem names_eq (c : CxOk C k N sc X) (l : Nat) {g : Expr → Option Str} (hg : ∀ id pos, g (.Name id pos) = if (X.env.kindOf id == some NameKind.local && pos.line == l) = true then some id else none) : ∀ {is : List Nat} {ts : List Expr}, mNs N sc is ts = true → ts.filterMap g = swNames sc l ts
  | [], ts, h => by
    cases ts with
    | nil => rfl
    | cons _ _ => cases h
  | i :: is, ts, h => by
    cases ts with
    | nil => cases h
    | cons x xs =>
      cases x with
      | Name id q =>
        have h : (decide (N[i]? = some id) && locB sc id && mNs N sc is xs) = true := h
        simp only [Bool.and_eq_true] at h
        have ih := names_eq c l hg (is := is) h.2
        unfold swNames at ih ⊢
        rw [List.filterMap_cons, List.filterMap_cons, ih, hg]
        simp only [kind_eq c h.1.2]
      | _ => cases h
theorem star_none {f : Expr → Bool} (hf : ∀ x, notStar x = true → f x = false) {vs : List Expr} (h : vs.all notStar = true) : vs.any f = false := by
  cases q : vs.any f with
  | false => rfl
  | true =>
    obtain ⟨x, hx, hz⟩ := List.any_eq_true.mp q
    rw [hf x (List.all_eq_true.mp h x hx)] at hz
    cases hz
theorem block_fn (c : CxOk C k N sc X) : X.env.blockKind = .function := by
  unfold Env.blockKind
  rw [c.kind]
  rfl
theorem swS_ok (c : CxOk C k N sc X) {is : List Nat} {ts vs : List Expr} {r : Option (List Str)} {k1 k2 : Nat} {q1 q2 : Pos} (hn : mNs N sc is ts = true) (hv : vs.all notStar = true) (h : swS sc ts vs = some r) :
    swappedStores [.Tuple ts k1 q1] (.Tuple vs k2 q2) X.env = pure r := by
  unfold swappedStores
  unfold swS at h
  have hb : (X.env.blockKind != ScopeKind.function) = false := by rw [block_fn c]; rfl
  simp only [hb, Bool.or_false]
  unfold swLine at h
  split at h
  · rename_i h1
    rw [if_pos h1]
    cases h
    rfl
  · rename_i h1
    rw [if_neg h1]
    rw [star_none (fun x hx => by cases x <;> first | rfl | cases hx) hv, if_neg Bool.false_ne_true]
    rw [names_eq c _ (fun _ _ => rfl) hn]
    split at h
    · rename_i h2
      cases h
      rw [if_pos h2]
    · rename_i h2
      rw [if_neg h2]
      split at h
      · rename_i h3
        cases h
        rw [if_pos h3]
      · rename_i h3
        rw [if_neg h3]
        split at h
        · cases h
        · rename_i h4
          cases h
          rw [if_neg h4]
theorem swap_tup {v : Expr} {ts : List Expr} {k1 l : Nat} {q : Pos} : swapsWithSole [.Tuple ts k1 q] v l X.env = pure false := by
  cases v <;> rfl
theorem swap_sub {v o i : Expr} {l : Nat} {q : Pos} : swapsWithSole [.Subscript o i q] v l X.env = pure false := by
  cases v <;> rfl
theorem asgSub_ok {o i : Expr} {q : Pos} {env : Env} (h : plainI i = true) (v : Value) : assign (.Subscript o i q) env v =
    (holding [v] (eval o env) >>= fun a => holding [v, a] (eval i env) >>= fun b => standAt q >>= fun _ => holding [v, a, b] (setItem a b v) >>= fun _ => release [v, a, b] []) := by
  cases i <;> first | rfl | cases h
def notTup : Expr → Bool
  | .Tuple .. => false
  | _ => true
theorem sw_notTup {v : Expr} {ts : List Expr} {k1 : Nat} {q : Pos} (h : notTup v = true) : swappedStores [.Tuple ts k1 q] v X.env = pure none := by
  cases v <;> first | rfl | cases h
end
def popV (N : List Str) (sc : Scope) (j : Option Nat) (s : Stmt) : Option Expr := match j with
  | none => (match s with | .Expr v _ => some v | _ => none)
  | some j => (match s with | .Assign ts v _ => (match ts with | [.Name id _] => if decide (N[j]? = some id) && locB sc id then some v else none | _ => none) | _ => none)
mutual
def mS (T : Tb) (N : List Str) (sc : Scope) : St → Stmt → Bool
  | .asg i e, s => match s with | .Assign ts v _ => (match ts with | [.Name id _] => decide (N[i]? = some id) && locB sc id && mE T N e sc v | _ => false) | _ => false
  | .asgO i e, s => match s with | .Assign ts v _ => (match ts with | [.Name id _] => decide (N[i]? = some id) && locB sc id && mE T N e sc v | _ => false) | _ => false
  | .asgC i e, s => match s with | .Assign ts v _ => (match ts with | [.Name id _] => decide (N[i]? = some id) && locB sc id && mE T N e sc v | _ => false) | _ => false
  | .asgT is e, s => match s with
      | .Assign tts v _ => (match tts with
        | [.Tuple ts _ _] => mNs N sc is ts && mE T N e sc v && (match v with
          | .Tuple vs _ _ => vs.all notStar && (match e with
            | .tup es => mEs T N es sc vs && (match swS sc ts vs with
              | none => false
              | some none => true
              | some (some nms) => (match is, ts, nms with
                | [i, j], [.Name x _, .Name y _], [x', y'] => decide (i ≠ j) && decide (x = x') && decide (y = y') && decide (sc.names.lookup x = some .local) && decide (sc.names.lookup y = some .local)
                | [i, j, l], [.Name x _, .Name y _, .Name z _], [x', y', z'] => decide (i ≠ j) && decide (i ≠ l) && decide (j ≠ l) && decide (x = x') && decide (y = y') && decide (z = z') && decide (sc.names.lookup x = some .local) && decide (sc.names.lookup y = some .local) && decide (sc.names.lookup z = some .local)
                | _, _, _ => false))
            | _ => false)
          | _ => true)
        | _ => false)
      | _ => false
  | .setI i k v, s => match s with
      | .Assign ts w _ => (match ts with
        | [.Subscript o kx _] => (match o with | .Name id _ => decide (N[i]? = some id) && visB sc id && nameOk id && plainI kx && mE T N k sc kx && mE T N v sc w | _ => false)
        | _ => false)
      | _ => false
  | .aug o i e, s => match s with
      | .AugAssign t op v _ => (match t with | .Name id _ => decide (N[i]? = some id) && locB sc id && decide (op = opB o) && mE T N e sc v | _ => false)
      | _ => false
  | .ex e, s => match s with | .Expr v _ => noSwap v && mE T N e sc v | _ => false
  | .app i e, s => match s with
      | .Expr v _ => (match v with
        | .Call fx xs kw cp => (match fx, xs, kw with
          | .Attribute o nm ap, [a], [] => (match o with | .Name id _ => decide (N[i]? = some id) && visB sc id && nameOk id && decide (nm = "append") && (ap.endLine == cp.line) && notStar a && mE T N e sc a | _ => false)
          | _, _, _ => false)
        | _ => false)
      | _ => false
  | .ext i e, s => match s with
      | .Expr v _ => (match v with
        | .Call fx xs kw cp => (match fx, xs, kw with
          | .Attribute o nm ap, [a], [] => (match o with | .Name id _ => decide (N[i]? = some id) && visB sc id && nameOk id && decide (nm = "extend") && (ap.endLine == cp.line) && notStar a && mE T N e sc a | _ => false)
          | _, _, _ => false)
        | _ => false)
      | _ => false
  | .pop j i e, s => match popV N sc j s with
      | some v => (match v with
        | .Call fx xs kw cp => (match fx, kw with
          | .Attribute o nm ap, [] => (match o with | .Name id _ => decide (N[i]? = some id) && visB sc id && nameOk id && decide (nm = "pop") && (ap.endLine == cp.line) &&
              (match xs with | [] => isNo e | [a] => !isNo e && notStar a && mE T N e sc a | _ => false) | _ => false)
          | _, _ => false)
        | _ => false)
      | none => false
  | .ite c a b, s => match s with | .If t p q _ => tB t && mE T N c sc t && mSs T N sc a p && mSs T N sc b q | _ => false
  | .whl c b, s => match s with | .While t p q _ => q.isEmpty && tB t && mE T N c sc t && mSs T N sc b p | _ => false
  | .for tg it b, s => match s with | .For t i p q _ => q.isEmpty && notSet i && mT N sc tg t && mI T N it sc i t && mSs T N sc b p | _ => false
  | .ret e, s => match s with | .Return (some v) _ => mE T N e sc v | _ => false
  | .retO e, s => match s with | .Return (some v) _ => mE T N e sc v | _ => false
  | .retN, s => match s with | .Return none _ => true | _ => false
  | .brk, s => match s with | .Break _ => true | _ => false
  | .cont, s => match s with | .Continue _ => true | _ => false
  | .pass, s => match s with | .Pass _ => true | _ => false
  | .raise .., _ => true
  | .frz _, _ => false
  | .fgt _, _ => false
  | .fld .., _ => false
  | .augI .., _ => false
def mSs (T : Tb) (N : List Str) (sc : Scope) : Sts → List Stmt → Bool
  | .nil, ss => ss.isEmpty
  | .cons s ss, ts => match s with
    | .frz _ => mSs T N sc ss ts
    | .fgt _ => mSs T N sc ss ts
    | s => match ts with | t :: ts => mS T N sc s t && mSs T N sc ss ts | [] => false
end
end Ev

set_option linter.all false
set_option maxRecDepth 100000
/-! Ev20: statements that match. -/
namespace Ev
open PySem PySem.Spec PyProof.Rows
open L2 (Hp HO V Cx Inv SqL SqT Same upd upd_same upd_ne TE VK PE PT PA PS PSs PG PGs PI PIE PTs PSet PIp Key kV EP SP TP Rd RelV Vis Loc Gl OpR R2 UnR CallR Dp DpAll Sp FnOk Room Binds XK BlkOk)
open L2 (tOp tUn pe_op pe_un thn thnF rI rI0 rU IxR PlainIx SlR TA TI TG TT TS TSet TIp Itl Itt Itr Itv gName gNil gCons gTup tLc tLc2 tAsg tDrop tRet tFor tWhile tSeq gSub)

section
variable {C : Cf} {X : Cx} {cs : Cs} {T : Tb} {N : List Str} {sc : Scope} {k : Nat} {e : Ex} {es : Exs} {x : Expr} {xs : List Expr} {pos p : Pos}
theorem st_congr {st : Stmt} {φ ψ : Fr → Mem → R Out} (h : ST C X st φ) (e : ∀ env m, φ env m = ψ env m) : ST C X st ψ := by
  have : φ = ψ := funext fun a => funext fun b => e a b
  rw [← this]; exact h
theorem hfew1 {a : Expr} {cp : Pos} (h : notStar a = true) : ((backTo cp (starEach [a] X.env)).all (fun x => !x.1) && (backToKw cp (keywordEach [] X.env)).all (fun x => x.1.isSome)
      && decide (([a] : List Expr).length + ([] : List Keyword).length + (if ([] : List Keyword).isEmpty then 0 else 1) < 30)) = true := by
  rw [star_ok h]
  rfl
theorem bind_assoc {α β γ : Type} (r : R α) (f : α → Mem → R β) (g : β → Mem → R γ) : (r.bind f).bind g = r.bind fun a m => (f a m).bind g := by
  cases r <;> rfl
theorem par2 {i j : Nat} {ex : Exs} {a b : Expr} {x y : Str} {px py pt p2 pos : Pos} {kt k2 : Nat} (c : CxOk C k N sc X) (hd : SDs C X [a, b] (evXs cs ex)) (hn : mNs N sc [i, j] [.Name x px, .Name y py] = true) (hij : i ≠ j) (hx : sc.names.lookup x = some .local) (hy : sc.names.lookup y = some .local)
    (hw : swappedStores [.Tuple [.Name x px, .Name y py] kt pt] (.Tuple [a, b] k2 p2) X.env = pure (some [x, y])) :
    ST C X (.Assign [.Tuple [.Name x px, .Name y py] kt pt] (.Tuple [a, b] k2 p2) pos) (evS cs (.asgT [i, j] (.tup ex))) := by
  have loc : ∀ {z}, sc.names.lookup z = some .local → X.env.scope.names.lookup z = some .local := fun {z} h => (c.scp _ _ h).elim id fun q => by cases q.1
  have hn : (decide (N[i]? = some x) && locB sc x && (decide (N[j]? = some y) && locB sc y && ([] : List Expr).isEmpty)) = true := hn
  simp only [Bool.and_eq_true, decide_eq_true_eq] at hn
  obtain ⟨⟨h1, _⟩, ⟨h2, _⟩, _⟩ := hn
  have key := ss_par (C := C) (X := X) (is := [i, j]) (Kk := fun vs nx σ H1 => ∃ v w, vs = [v, w] ∧ nx ((σ.set i (some v)).set j (some w)) H1) hd (fun vs nx σ H1 hl h => by
      match vs, hl with
      | [v, w], _ => exact ⟨v, w, rfl, h⟩) fun t pa => L2.ps_par (pos := pos) c.cal (by rw [c.hN]; exact c.nd) (by rw [c.hN]; exact h1) (by rw [c.hN]; exact h2) hij (loc hx) (loc hy) pa hw
  refine st_congr key fun env m => ?_
  show _ = (asD ((evXs cs ex env m).bind fun ds m1 => R.ok (.d (.tup ds)) m1)).bind _
  unfold asD
  rw [bind_assoc, bind_assoc]
  rfl
theorem par3 {i j l : Nat} {ex : Exs} {a b d : Expr} {x y z : Str} {px py pz pt p2 pos : Pos} {kt k2 : Nat} (c : CxOk C k N sc X) (hd : SDs C X [a, b, d] (evXs cs ex)) (hn : mNs N sc [i, j, l] [.Name x px, .Name y py, .Name z pz] = true) (hij : i ≠ j) (hil : i ≠ l) (hjl : j ≠ l)
    (hx : sc.names.lookup x = some .local) (hy : sc.names.lookup y = some .local) (hz : sc.names.lookup z = some .local)
    (hw : swappedStores [.Tuple [.Name x px, .Name y py, .Name z pz] kt pt] (.Tuple [a, b, d] k2 p2) X.env = pure (some [x, y, z])) :
    ST C X (.Assign [.Tuple [.Name x px, .Name y py, .Name z pz] kt pt] (.Tuple [a, b, d] k2 p2) pos) (evS cs (.asgT [i, j, l] (.tup ex))) := by
  have loc : ∀ {z}, sc.names.lookup z = some .local → X.env.scope.names.lookup z = some .local := fun {z} h => (c.scp _ _ h).elim id fun q => by cases q.1
  have hn : (decide (N[i]? = some x) && locB sc x && (decide (N[j]? = some y) && locB sc y && (decide (N[l]? = some z) && locB sc z && ([] : List Expr).isEmpty))) = true := hn
  simp only [Bool.and_eq_true, decide_eq_true_eq] at hn
  obtain ⟨⟨h1, _⟩, ⟨h2, _⟩, ⟨h3, _⟩, _⟩ := hn
  have key := ss_par (C := C) (X := X) (is := [i, j, l]) (Kk := fun vs nx σ H1 => ∃ u v w, vs = [u, v, w] ∧ nx (((σ.set i (some u)).set j (some v)).set l (some w)) H1) hd (fun vs nx σ H1 hl h => by
      match vs, hl with
      | [u, v, w], _ => exact ⟨u, v, w, rfl, h⟩) fun t pa => L2.ps_par3 (pos := pos) c.cal (by rw [c.hN]; exact c.nd) (by rw [c.hN]; exact h1) (by rw [c.hN]; exact h2) (by rw [c.hN]; exact h3) hij hil hjl (loc hx) (loc hy) (loc hz) pa hw
  refine st_congr key fun env m => ?_
  show _ = (asD ((evXs cs ex env m).bind fun ds m1 => R.ok (.d (.tup ds)) m1)).bind _
  unfold asD
  rw [bind_assoc, bind_assoc]
  rfl
theorem nameS (c : CxOk C k N sc X) {i : Nat} {id : Str} {q : Pos} (h1 : N[i]? = some id) (h2 : visB sc id = true) (h3 : nameOk id = true) : PE X (.Name id q) (L2.tVar i) := by
  obtain ⟨n1, n2, n3⟩ := nameOk_ok h3
  exact L2.pe_var (by rw [c.hN]; exact h1) (c.vis h2) n1 n2
theorem asg_ok (c : CxOk C k N sc X) {i : Nat} {id : Str} {py pos : Pos} {v : Expr} (h1 : N[i]? = some id) (h2 : locB sc id = true) (g : Good C X cs e v) : ∃ t, SXr C t (evX cs e) ∧ PS X (.Assign [.Name id py] v pos) (tAsg t (gName i)) :=
  g.as i id py pos (by rw [c.hN]; exact h1) (c.loc h2) (c.fnl h2)
theorem pop_ok (c : CxOk C k N sc X) {j : Option Nat} {s : Stmt} {v : Expr} (h : popV N sc j s = some v) (hs : noSwap v = true) {te : TE} (pe : PE X v te) : PS X s (popT j te) := by
  unfold popV at h
  cases j with
  | none =>
    simp only at h
    split at h
    · cases h
      exact L2.ps_expr pe (swap_ok hs)
    · cases h
  | some j =>
    simp only at h
    split at h
    · split at h
      · split at h
        · rename_i hq
          cases h
          simp only [Bool.and_eq_true, decide_eq_true_eq] at hq
          exact L2.ps_set (hN := by rw [c.hN]; exact c.nd) (by rw [c.hN]; exact hq.1) (c.loc hq.2) pe (swap_ok hs) (c.fnl hq.2)
        · cases h
      · cases h
    · cases h
end
mutual
theorem mS_ok {C : Cf} {cs : Cs} {T : Tb} {N : List Str} {sc : Scope} {k : Nat} {X : Cx} (c : CxOk C k N sc X) (g : Gd C X cs T) (po : PassesOwn (model X.prog X.w) X.A X.env X.xe) : ∀ (s : St) (t : Stmt), mS T N sc s t = true → ST C X t (evS cs s)
  | .asg i e, t, h => by
    unfold mS at h
    split at h
    · split at h
      · simp only [Bool.and_eq_true, decide_eq_true_eq] at h
        obtain ⟨te, rd, ps⟩ := asg_ok c h.1.1 h.1.2 (mE_ok e sc _ h.2 k X c g)
        exact ss_asg ps rd
      · cases h
    · cases h
  | .asgO i e, t, h => by
    unfold mS at h
    split at h
    · split at h
      · simp only [Bool.and_eq_true, decide_eq_true_eq] at h
        obtain ⟨te, rd, ps⟩ := asg_ok c h.1.1 h.1.2 (mE_ok e sc _ h.2 k X c g)
        exact ss_asgO ps rd
      · cases h
    · cases h
  | .asgC i e, t, h => by
    unfold mS at h
    split at h
    · split at h
      · simp only [Bool.and_eq_true, decide_eq_true_eq] at h
        obtain ⟨te, rd, ps⟩ := asg_ok c h.1.1 h.1.2 (mE_ok e sc _ h.2 k X c g)
        exact ss_asgC ps rd
      · cases h
    · cases h
  | .asgT is e, t, h => by
    unfold mS at h
    split at h
    · split at h
      · rename_i v q tts ts kt pt
        simp only [Bool.and_eq_true] at h
        obtain ⟨⟨h1, h2⟩, h3⟩ := h
        have stg : STg C X (.Tuple ts kt pt) (.many is) _ := mT_ok (x := .Tuple ts kt pt) c (t := .many is) h1
        have ge := mE_ok e sc _ h2 k X c g
        split at h3
        · rename_i vs k2 p2
          simp only [Bool.and_eq_true] at h3
          obtain ⟨h4, h5⟩ := h3
          split at h5
          · rename_i ex
            simp only [Bool.and_eq_true] at h5
            obtain ⟨h6, h7⟩ := h5
            split at h7
            · cases h7
            · rename_i hs
              exact ss_tgt ge.sd stg fun te pe => L2.ps_asg pe stg.1 swap_tup (swS_ok c h1 h4 hs) rfl
            · rename_i nms hs
              have hw := swS_ok (k1 := kt) (q1 := pt) (k2 := k2) (q2 := p2) c h1 h4 hs
              have gl := mEs_ok ex sc _ h6 k X c g
              split at h7
              · rename_i i j x px y py x' y'
                simp only [Bool.and_eq_true, decide_eq_true_eq] at h7
                obtain ⟨⟨⟨⟨a1, a2⟩, a3⟩, a4⟩, a5⟩ := h7
                subst a2 a3
                have hl : vs.length = 2 := by
                  cases gl' : vs.length == 2 with
                  | true => simpa using gl'
                  | false =>
                    unfold swS at hs
                    have : vs.length ≠ 2 := by simpa using gl'
                    rw [if_pos (by simp [this])] at hs
                    cases hs
                match vs, hl, gl, hw with
                | [a, b], _, gl, hw => exact par2 c gl.sds h1 a1 a4 a5 hw
              · rename_i i j l x px y py z pz x' y' z'
                simp only [Bool.and_eq_true, decide_eq_true_eq] at h7
                obtain ⟨⟨⟨⟨⟨⟨⟨⟨a1, a2⟩, a3⟩, a4⟩, a5⟩, a6⟩, a7⟩, a8⟩, a9⟩ := h7
                subst a4 a5 a6
                have hl : vs.length = 3 := by
                  cases gl' : vs.length == 3 with
                  | true => simpa using gl'
                  | false =>
                    unfold swS at hs
                    have : vs.length ≠ 3 := by simpa using gl'
                    rw [if_pos (by simp [this])] at hs
                    cases hs
                match vs, hl, gl, hw with
                | [a, b, d], _, gl, hw => exact par3 c gl.sds h1 a1 a2 a3 a7 a8 a9 hw
              · cases h7
          · cases h5
        · rename_i hnt
          exact ss_tgt ge.sd stg fun te pe => L2.ps_asg pe stg.1 swap_tup (sw_notTup (by cases v <;> first | rfl | exact absurd rfl (hnt _ _ _))) rfl
      · cases h
    · cases h
  | .setI i kx v, t, h => by
    unfold mS at h
    split at h
    · split at h
      · split at h
        · rename_i id q
          simp only [Bool.and_eq_true, decide_eq_true_eq] at h
          obtain ⟨⟨⟨⟨⟨h1, h2⟩, h3⟩, hpi⟩, h4⟩, h5⟩ := h
          have gk := mE_ok kx sc _ h4 k X c g
          have gv := mE_ok v sc _ h5 k X c g
          refine ss_setI (nameS (q := q) c h1 h2 h3) gk.sd gv.sd fun te to ti p1 p2 p3 => ?_
          exact L2.ps_asg p1 (L2.pg_sub p2 p3 (set_ct (by have := c.hu; omega) c.K c.w) (asgSub_ok hpi)) swap_sub rfl rfl
        · cases h
      · cases h
    · cases h
  | .aug o i e, t, h => by
    unfold mS at h
    split at h
    · split at h
      · simp only [Bool.and_eq_true, decide_eq_true_eq] at h
        obtain ⟨⟨⟨h1, h2⟩, h3⟩, h4⟩ := h
        subst h3
        exact ss_aug (mE_ok e sc _ h4 k X c g).sd fun te ti pe hp => L2.ps_aug (hN := by rw [c.hN]; exact c.nd) (by rw [c.hN]; exact h1) (c.loc h2) pe hp (c.fnl h2)
      · cases h
    · cases h
  | .ex e, t, h => by
    unfold mS at h
    split at h
    · simp only [Bool.and_eq_true] at h
      exact ss_ex (mE_ok e sc _ h.2 k X c g).sx fun te pe => L2.ps_expr pe (swap_ok h.1)
    · cases h
  | .app i e, t, h => by
    unfold mS at h
    split at h
    · split at h
      · split at h
        · split at h
          · rename_i id q
            simp only [Bool.and_eq_true, decide_eq_true_eq] at h
            obtain ⟨⟨⟨⟨⟨⟨h1, h2⟩, h3⟩, h4⟩, h5⟩, h6⟩, h7⟩ := h
            subst h4
            have nm := nameS (q := q) c h1 h2 h3
            refine ss_app nm (mE_ok e sc _ h7 k X c g).sd (star_ok h6) fun t pa => L2.ps_expr (L2.pe_bm PySem.F.plainAttrs_list PySem.F.slot_list_append PySem.F.type_list_append L2.mt_append nm pa rfl (hfew1 h6) h5 (star_ok h6) rfl) rfl
          · cases h
        · cases h
      · cases h
    · cases h
  | .ext i e, t, h => by
    unfold mS at h
    split at h
    · split at h
      · split at h
        · split at h
          · rename_i id q
            simp only [Bool.and_eq_true, decide_eq_true_eq] at h
            obtain ⟨⟨⟨⟨⟨⟨h1, h2⟩, h3⟩, h4⟩, h5⟩, h6⟩, h7⟩ := h
            subst h4
            have nm := nameS (q := q) c h1 h2 h3
            refine ss_ext nm (mE_ok e sc _ h7 k X c g).sx (star_ok h6) fun t pa => L2.ps_expr (L2.pe_bm PySem.F.plainAttrs_list PySem.F.slot_list_extend PySem.F.type_list_extend L2.mt_extend nm pa rfl (hfew1 h6) h5 (star_ok h6) rfl) rfl
          · cases h
        · cases h
      · cases h
    · cases h
  | .pop j i e, t, h => by
    unfold mS at h
    split at h
    · rename_i v hv
      split at h
      · split at h
        · split at h
          · rename_i hxs id q
            simp only [Bool.and_eq_true, decide_eq_true_eq] at h
            obtain ⟨⟨⟨⟨⟨h1, h2⟩, h3⟩, h4⟩, h5⟩, h6⟩ := h
            subst h4
            have nm := nameS (q := q) c h1 h2 h3
            split at h6
            · have key : ST C X t _ := ss_pop0 (φ := evX cs e) (pop_ok c hv rfl (L2.pe_bm0 PySem.F.plainAttrs_list PySem.F.slot_list_pop PySem.F.type_list_pop L2.mt_pop nm rfl h5))
              refine st_congr key fun env m => ?_
              simp only [evS, h6]
              all_goals rfl
            · simp only [Bool.and_eq_true, Bool.not_eq_true'] at h6
              have key : ST C X t _ := ss_pop1 (mE_ok e sc _ h6.2 k X c g).sx (star_ok h6.1.2) fun t pa => pop_ok c hv rfl (L2.pe_bm PySem.F.plainAttrs_list PySem.F.slot_list_pop PySem.F.type_list_pop L2.mt_popAt nm pa rfl (hfew1 h6.1.2) h5 (star_ok h6.1.2) rfl)
              refine st_congr key fun env m => ?_
              simp only [evS, h6.1.1]
              all_goals rfl
            · cases h6
          · cases h
        · cases h
      · cases h
    · cases h
  | .ite e a b, t, h => by
    unfold mS at h
    split at h
    · simp only [Bool.and_eq_true] at h
      obtain ⟨⟨⟨h1, h2⟩, h3⟩, h4⟩ := h
      exact ss_if ((mE_ok e sc _ h2 k X c g).sb h1) (mSs_ok c g po a _ h3) (mSs_ok c g po b _ h4)
    · cases h
  | .whl e b, t, h => by
    unfold mS at h
    split at h
    · simp only [Bool.and_eq_true, List.isEmpty_iff] at h
      obtain ⟨⟨⟨h1, h2⟩, h3⟩, h4⟩ := h
      subst h1
      exact ss_whl po ((mE_ok e sc _ h3 k X c g).sb h2) (mSs_ok c g po b _ h4)
    · cases h
  | .for tg it b, t, h => by
    unfold mS at h
    split at h
    · simp only [Bool.and_eq_true, List.isEmpty_iff] at h
      obtain ⟨⟨⟨⟨h1, h2⟩, h3⟩, h4⟩, h5⟩ := h
      subst h1
      exact ss_for po c.cal (mI_ok it sc _ _ h4 k X c g true) (mT_ok c h3) (mSs_ok c g po b _ h5) (fold_ok h2)
    · cases h
  | .ret e, t, h => by
    unfold mS at h
    split at h
    · exact ss_ret (mE_ok e sc _ h k X c g).sd
    · cases h
  | .retO e, t, h => by
    unfold mS at h
    split at h
    · exact ss_retO (mE_ok e sc _ h k X c g).sx
    · cases h
  | .retN, t, h => by
    unfold mS at h
    split at h
    · exact ss_retN
    · cases h
  | .brk, t, h => by
    unfold mS at h
    split at h
    · exact ss_brk
    · cases h
  | .cont, t, h => by
    unfold mS at h
    split at h
    · exact ss_cont
    · cases h
  | .pass, t, h => by
    unfold mS at h
    split at h
    · exact ss_pass
    · cases h
  | .raise z e, t, h => fun env m o m' q => by
    obtain ⟨d, m1, e1, h1⟩ := R.bind_eq_ok (show (asD (evX cs e env m)).bind (fun d m1 => R.exc ⟨z, d⟩ m1) = R.ok o m' from q)
    cases h1
  | .frz _, t, h => by unfold mS at h; cases h
  | .fgt _, t, h => by unfold mS at h; cases h
  | .fld .., t, h => by unfold mS at h; cases h
  | .augI .., t, h => by unfold mS at h; cases h
theorem mSs_ok {C : Cf} {cs : Cs} {T : Tb} {N : List Str} {sc : Scope} {k : Nat} {X : Cx} (c : CxOk C k N sc X) (g : Gd C X cs T) (po : PassesOwn (model X.prog X.w) X.A X.env X.xe) : ∀ (ss : Sts) (ts : List Stmt), mSs T N sc ss ts = true → STs C X ts (evSs cs ss)
  | .nil, ts, h => by
    unfold mSs at h
    rw [List.isEmpty_iff] at h
    subst h
    exact sss_nil
  | .cons s ss, ts, h => by
    unfold mSs at h
    split at h
    · exact sss_frz (mSs_ok c g po ss _ h)
    · exact sss_fgt (mSs_ok c g po ss _ h)
    · split at h
      · simp only [Bool.and_eq_true] at h
        exact sss_cons (mS_ok c g po s _ h.1) (mSs_ok c g po ss _ h.2)
      · cases h
end
end Ev

set_option linter.all false
set_option maxRecDepth 100000
/-! Ev21: defs, and the law's head. -/
namespace Ev
open PySem PySem.Spec PyProof.Rows
open L2 (Hp HO V Cx Inv SqL SqT Same upd upd_same upd_ne TE VK PE PT PA PS PSs PG PGs PI PIE PTs PSet PIp Key kV EP SP TP Rd RelV Vis Loc Gl OpR R2 UnR CallR Dp DpAll Sp FnOk FnScope Room Binds XK BlkOk)
open L2 (tOp tUn pe_op pe_un thn thnF TA TI TG TT TS)

/-- a def of the program: its name, its statement, its slots, itself -/
structure Df where
  name : Str
  st : Stmt
  N : List Str
  fn : Fn
def dropDoc : List Stmt → List Stmt
  | s :: r => match s with
    | .Expr v _ => (match v with | .Constant c _ _ => (match c with | .str _ => r | _ => s :: r) | _ => s :: r)
    | _ => s :: r
  | [] => []
def parsOf (st : Stmt) : List Str := (L2.defArgs st).args.map (·.arg)
def scopeB (N P : List Str) (sc : Scope) : Bool :=
  (match sc.kind with | .function => true | _ => false) && !sc.isCoroutine && !sc.isGenerator && decide N.Nodup && decide (N.take P.length = P) && P.all (locB sc) && sc.names.all (fun y => !(y.2 == .free))
def mF (T : Tb) (d : Df) : Bool :=
  !d.fn.ini && mSs T d.N (L2.defScope d.st) d.fn.body (dropDoc (L2.defBody d.st)) && decide (d.fn.ns = d.N.length) && decide (d.fn.np = (parsOf d.st).length) && scopeB d.N (parsOf d.st) (L2.defScope d.st)
theorem scope_ok {N P : List Str} {sc : Scope} (h : scopeB N P sc = true) : FnScope N P sc := by
  unfold scopeB at h
  simp only [Bool.and_eq_true, Bool.not_eq_true', decide_eq_true_eq] at h
  obtain ⟨⟨⟨⟨⟨⟨h1, h2⟩, h3⟩, h4⟩, h5⟩, h6⟩, h7⟩ := h
  refine ⟨?_, h2, h3, h4, h5, fun x hx => ?_, fun y hy e => ?_⟩
  · split at h1
    · assumption
    · cases h1
  · have q := List.all_eq_true.mp h6 x hx
    unfold locB at q
    split at q
    · exact .inl (by assumption)
    · exact .inr (by assumption)
    · cases q
  · have q := List.all_eq_true.mp h7 y hy
    rw [e] at q
    cases q
theorem doc_ok {C : Cf} {X : Cx} {φ : Fr → Mem → R Out} {body : List Stmt} (h : STs C X (dropDoc body) φ) : STs C X body φ := by
  cases body with
  | nil => exact h
  | cons s r =>
    cases s with
    | Expr v q =>
      cases v with
      | Constant c k p =>
        cases c with
        | str x => exact sss_cons ss_doc h
        | _ => exact h
      | _ => exact h
    | _ => exact h
section
variable {C : Cf} {P : Program} {mg : Str → Option Value} {base : Heap} {fu : Nat} {T : Tb} {ds : List Df}
/-- the frame at a call -/
theorem fr_entry {F H : Hp} {ρ : List Addr} {N : List Str} {fn : Fn} (hi : fn.ini = false) (hns : fn.ns = N.length) {as : List Ar} {vs : List V} (hl : as.length = fn.np) (ag : Ags C F ρ as vs) : FrOk C (entry fn as) (L2.start N vs) F H ρ H := by
  have hlen := Paired.length ag
  have he : entry fn as = as.map slotOf ++ List.replicate (fn.ns - fn.np) .un := by unfold entry; rw [hi]; rfl
  rw [he]
  have get : ∀ {i : Nat} {s : Sl}, (as.map slotOf ++ List.replicate (fn.ns - fn.np) Sl.un)[i]? = some s → s ≠ .un → ∃ a v, s = slotOf a ∧ AgOk C F ρ a v ∧ (L2.start N vs)[i]? = some (some v) := fun {i s} e hs => by
    by_cases h : i < as.length
    · rw [List.getElem?_append_left (by simpa using h), List.getElem?_map] at e
      obtain ⟨a, e1, rfl⟩ := Option.map_eq_some_iff.mp e
      have key : ∀ {as : List Ar} {vs : List V}, Ags C F ρ as vs → ∀ {i : Nat} {a : Ar}, as[i]? = some a → ∃ v, vs[i]? = some v ∧ AgOk C F ρ a v := by
        intro as vs ag
        induction ag with
        | nil => intro i a e; simp at e
        | cons h t ih =>
          intro i a e
          cases i with
          | zero => simp at e; subst e; exact ⟨_, rfl, h⟩
          | succ i => obtain ⟨v, h1, h2⟩ := ih (i := i) (a := a) (by simpa using e); exact ⟨v, by simpa using h1, h2⟩
      obtain ⟨v, h1, h2⟩ := key ag e1
      refine ⟨a, v, rfl, h2, ?_⟩
      unfold L2.start
      rw [List.getElem?_append_left (by rw [List.length_map, ← hlen]; exact h), List.getElem?_map, h1]
      rfl
    · rw [List.getElem?_append_right (by simpa using h), List.getElem?_replicate] at e
      split at e
      · cases e; exact absurd rfl hs
      · cases e
  refine ⟨?_, fun i d e => ?_, fun i n e => ?_, fun i c e => ?_, fun i j c c' b e1 => ?_⟩
  · unfold L2.start
    simp only [List.length_append, List.length_map, List.length_replicate]
    omega
  · obtain ⟨a, v, e1, h1, h2⟩ := get e (by simp)
    cases a with
    | d d' => cases e1; exact ⟨v, h2, h1⟩
    | c n => cases e1
  · obtain ⟨a, v, e1, h1, h2⟩ := get e (by simp)
    cases a with
    | d d' => cases e1
    | c n' => cases e1; obtain ⟨p, rfl, h3⟩ := h1; exact ⟨p, h2, h3⟩
  · obtain ⟨a, v, e1, h1, h2⟩ := get e (by simp)
    cases a <;> cases e1
  · obtain ⟨a, v, e2, h1, h2⟩ := get e1 (by simp)
    cases a <;> cases e2
theorem ags_len {F : Hp} {ρ : List Addr} {as : List Ar} {vs : List V} (h : Ags C F ρ as vs) : as.length = vs.length := Paired.length h
theorem run_len {cs : Cs} {fn : Fn} {as : List Ar} {m m' : Mem} {r : Rv} (hi : fn.ini = false) (h : runF cs fn as m = .ok r m') : as.length = fn.np := by
  unfold runF at h
  by_cases q : as.length + (if fn.ini = true then 1 else 0) = fn.np
  · rw [hi] at q
    simpa using q
  · rw [if_neg q] at h
    cases h
theorem tyF_all {K : PySem.W.Frag} : TyF K := by
  intro t ht u hu
  have key : ∀ t ∈ tyNs, ∀ u ∈ tyQ, L2.kitB t u = some (t == u || (t == "bool" && u == "int")) := by decide +kernel
  exact L2.kit_ty (key t ht u hu)
/-- what stands behind the top, of all defs -/
def DfOk (C : Cf) (mg : Str → Option Value) (ds : List Df) : Prop := ∀ (f : Nat) (d : Df), ds[f]? = some d → ∃ fa fd, L2.Fun C.K d.name d.name d.st fa fd ∧ Binds C.K fd (parsOf d.st) [] ∧ mg d.name = some (.ref fa)
structure PgOk (C : Cf) (mg : Str → Option Value) (T : Tb) (ds : List Df) : Prop where
  nm : T.nm = ds.map (·.name)
  mF : ∀ d ∈ ds, Ev.mF T d = true
  df : DfOk C mg ds
  bn : ∀ x ∈ bnames, mg x = none
  cn : ∀ (x : Str) (d : D), conIn T.cons x d = true → ∃ v u, mg x = some u ∧ RelV v u ∧ ∀ F, Rep C F d v
  ty : TyF C.K
theorem fn_ok (G : PgOk C mg T ds) : ∀ (k f : Nat) (d : Df), ds[f]? = some d → ∀ fa fd, L2.Fun C.K d.name d.name d.st fa fd → FnOk P C.w C.K mg base (L2.CX P C.w) k fa fd (parsOf d.st) (spF C (callN (ds.map (·.fn)) fu k) f)
  | 0, f, d, hd, fa, fd, F => ⟨fun vs H Q E ⟨as, m, r, m', F, ρ, e, _⟩ => (absurd e (by simp [callN])), fun A outer s H args us vs Q E hr he hb hv ⟨as, m, r, m', F, ρ, e, _⟩ => (absurd e (by simp [callN]))⟩
  | k + 1, f, d, hd, fa, fd, F => by
    have hmF := G.mF d (List.mem_of_getElem? hd)
    unfold Ev.mF at hmF
    simp only [Bool.and_eq_true, Bool.not_eq_true', decide_eq_true_eq] at hmF
    obtain ⟨⟨⟨⟨h1, h2⟩, h3⟩, h4⟩, h5⟩ := hmF
    have S := scope_ok h5
    have hfn : (ds.map (·.fn))[f]? = some d.fn := by rw [List.getElem?_map, hd]; rfl
    obtain ⟨oc, od, kV, doc, pm, an, cdv, ct, osl, rfl, lk, hcd⟩ := F.ex
    have hcall : ∀ as m, callN (ds.map (·.fn)) fu (k + 1) f as m = runF ⟨callN (ds.map (·.fn)) fu k, callN (ds.map (·.fn)) fu (k - 1), fu⟩ d.fn as m := fun as m => by
      simp only [callN, hfn]
    refine L2.fn_of (N := d.N) lk hcd S (fun vs H Q E ⟨as, m, r, m', F, ρ, e, w, ag, q⟩ => ?_) fun A outer s H vs Q E hr ⟨as, m, r, m', F, ρ, e, w, ag, q⟩ => ?_
    · rw [hcall] at e
      rw [← ags_len ag, run_len h1 e, h4]
    · rw [hcall] at e
      generalize hX : L2.cxOf (L2.CX P C.w) P C.w C.K mg base d.N d.name (L2.defScope d.st) fa cdv A outer s H E = X
      have c : CxOk C k d.N (L2.defScope d.st) X := by
        subst hX
        exact ⟨rfl, S.nd, rfl, rfl, fun x kd h => .inl h, rfl, hr, fun x h => .inl rfl, S.kind⟩
      have g : Gd C X ⟨callN (ds.map (·.fn)) fu k, callN (ds.map (·.fn)) fu (k - 1), fu⟩ T := by
        subst hX
        refine ⟨fun f' x hx => ?_, G.bn, G.cn, G.ty⟩
        rw [G.nm, List.getElem?_map] at hx
        obtain ⟨d', hd', rfl⟩ := Option.map_eq_some_iff.mp hx
        obtain ⟨fa', fd', F', b', m'⟩ := G.df f' d' hd'
        exact ⟨k, fa', fd', parsOf d'.st, fn_ok G k f' d' hd' fa' fd' F', hr, m', F'.kp, b'⟩
      have po : PassesOwn (model X.prog X.w) X.A X.env X.xe := by
        subst hX
        exact L2.passes_of rfl
      have body := doc_ok (mSs_ok c g po d.fn.body _ h2)
      refine ⟨_, pSs, ?_⟩
      have hnp := run_len h1 e
      unfold runF at e
      rw [if_pos (by rw [h1]; simpa using hnp)] at e
      obtain ⟨o, m1, e1, h6⟩ := R.bind_eq_ok e
      have a0 : At C (entry d.fn as) m F ρ H (L2.start d.N vs) F ρ H := ⟨fr_entry h1 h3 hnp ag, w, Ext.refl⟩
      refine body (entry d.fn as) m o m1 e1 _ F ρ H F ρ H a0 _ ?_
      rw [h1] at h6
      cases o with
      | nx env1 =>
        cases h6
        intro σ F' ρ' H' a
        obtain ⟨x3, w3⟩ := w.cut a.ex a.wo
        exact q _ F' ρ H' x3 w3 (by show Rep C F' .non _; unfold Rep; rfl)
      | ret v =>
        cases h6
        intro v F' ρ' H' x w' r'
        obtain ⟨x3, w3⟩ := w.cut x w'
        exact q v F' ρ H' x3 w3 (r'.cut x)
      | brk e => cases h6
      | ct e => cases h6
/-- the law's promise -/
def spScript (K : PySem.W.Frag) : Sp := fun vs H Q _ => ∃ (a : Addr) (ns : List Int), vs = [.ref a] ∧ SqL K H a (ns.map V.int) ∧ ns.length ≤ 63 ∧ ∀ H', Q (.bl true) H'
theorem law_sp {cf : CF} {f : Nat} (hlaw : ∀ ns : List Int, ns.length ≤ 63 → ∃ m', cf f [.d (.lst (ns.map .int))] [] = .ok (.d (.bl true)) m') {vs : List V} {H : Hp} {Q : VK} {E : XK} (h : spScript C.K vs H Q E) : spF C cf f vs H Q E := by
  obtain ⟨a, ns, rfl, hS, hl, q⟩ := h
  obtain ⟨m', e⟩ := hlaw ns hl
  let F : Hp := fun b => if b = a then H a else none
  have sm : Same F H := fun b o e => by
    by_cases z : b = a
    · subst z; simpa [F] using e
    · simp [F, z] at e
  have hSF : SqL C.K F a (ns.map V.int) := by
    rcases hS with (h | ⟨o, h⟩) | h
    · exact .inl (.inl (by simpa [F] using h))
    · exact .inl (.inr ⟨o, by simpa [F] using h⟩)
    · exact .inr h
  refine ⟨[.d (.lst (ns.map .int))], [], _, m', F, [], e, ⟨sm, rfl, List.nodup_nil, fun _ h => (nomatch h), fun n c e => (nomatch e)⟩, .cons ?_ .nil, fun v F' ρ' H' x w r => ?_⟩
  · show Rep C F (.lst _) _
    unfold Rep
    exact ⟨a, _, rfl, hSF, Reps.ints⟩
  · have r : Rep C F' (.bl true) v := r
    unfold Rep at r
    subst r
    exact q H'
theorem law_ok (G : PgOk C mg T ds) {k f : Nat} {d : Df} (hd : ds[f]? = some d) {fa : Addr} {fd : FuncData} (F : L2.Fun C.K d.name d.name d.st fa fd) (hlaw : ∀ ns : List Int, ns.length ≤ 63 → ∃ m', callN (ds.map (·.fn)) fu k f [.d (.lst (ns.map .int))] [] = .ok (.d (.bl true)) m') :
    FnOk P C.w C.K mg base (L2.CX P C.w) k fa fd (parsOf d.st) (spScript C.K) := (fn_ok (fu := fu) G k f d hd fa fd F).imp fun vs H Q E h => law_sp hlaw h
end
end Ev

set_option linter.all false
set_option maxRecDepth 100000
/-! Ev22: more calls known, more of the memory known: the same answer. -/
namespace Ev
/-- c' is known at least as well as c -/
def CLe (C0 c c' : Ct) : Prop := (c = .obj [] ∧ c' = C0) ∨ (c ≠ .obj [] ∧ c = c')
structure MLe (C0 : Ct) (m m' : Mem) : Prop where
  len : m.length = m'.length
  at_ : ∀ (n : Nat) (c : Ct), m[n]? = some c → ∃ c', m'[n]? = some c' ∧ CLe C0 c c'
def RLe (C0 : Ct) {α : Type} (r r' : R α) : Prop := ∀ a m1, r = .ok a m1 → ∃ m1', r' = .ok a m1' ∧ MLe C0 m1 m1'
def CFLe (C0 : Ct) (f f' : CF) : Prop := ∀ i as m m', MLe C0 m m' → RLe C0 (f i as m) (f' i as m')
structure CsLe (C0 : Ct) (cs cs' : Cs) : Prop where
  f : CFLe C0 cs.f cs'.f
  i : CFLe C0 cs.i cs'.i
  w : cs.w ≤ cs'.w
section
variable {C0 : Ct} {m m' m1 m1' : Mem} {env : Fr} {cs cs' : Cs}
theorem MLe.refl (h : Ct.obj [] ∉ m) : MLe C0 m m := ⟨rfl, fun n c e => ⟨c, e, .inr ⟨fun z => h (z ▸ List.mem_of_getElem? e), rfl⟩⟩⟩
theorem MLe.refl0 : MLe (.obj []) m m := ⟨rfl, fun n c e => ⟨c, e, by
  by_cases z : c = .obj []
  · exact .inl ⟨z, z⟩
  · exact .inr ⟨z, rfl⟩⟩⟩
theorem MLe.app (h : MLe C0 m m') {c : Ct} (hc : c ≠ .obj []) : MLe C0 (m ++ [c]) (m' ++ [c]) := ⟨by simp [h.len], fun n d e => by
  by_cases hn : n < m.length
  · rw [List.getElem?_append_left hn] at e
    obtain ⟨c', e1, q⟩ := h.at_ n d e
    exact ⟨c', by rw [List.getElem?_append_left (by rw [← h.len]; exact hn)]; exact e1, q⟩
  · rw [List.getElem?_append_right (by omega)] at e
    have hd : d = c := by
      cases q : n - m.length with
      | zero => rw [q] at e; simpa using e.symm
      | succ k => rw [q] at e; simp at e
    exact ⟨d, by rw [List.getElem?_append_right (by rw [← h.len]; omega), ← h.len]; exact e, .inr ⟨hd ▸ hc, rfl⟩⟩⟩
theorem MLe.take (h : MLe C0 m m') (k : Nat) : MLe C0 (m.take k) (m'.take k) := ⟨by simp [h.len], fun n d e => by
  have hn : n < (m.take k).length := (List.getElem?_eq_some_iff.mp e).1
  rw [List.length_take] at hn
  rw [List.getElem?_take_of_lt (by omega)] at e ⊢
  exact h.at_ n d e⟩
theorem MLe.set (h : MLe C0 m m') (n : Nat) {c : Ct} (hc : c ≠ .obj []) : MLe C0 (m.set n c) (m'.set n c) := ⟨by simp [h.len], fun k d e => by
  by_cases q : n = k
  · subst q
    have hl : n < m.length := by have := (List.getElem?_eq_some_iff.mp e).1; simpa using this
    rw [List.getElem?_set_self hl] at e
    cases e
    exact ⟨c, List.getElem?_set_self (by rw [← h.len]; exact hl), .inr ⟨hc, rfl⟩⟩
  · rw [List.getElem?_set_ne q] at e ⊢
    exact h.at_ k d e⟩
theorem RLe.ok {α : Type} {a : α} (h : MLe C0 m m') : RLe C0 (.ok a m) (.ok a m') := fun b m1 e => by cases e; exact ⟨m', rfl, h⟩
theorem RLe.bad {α : Type} {r : R α} : RLe C0 .bad r := fun b m1 e => nomatch e
theorem RLe.exc {α : Type} {r : R α} {e : Er} : RLe C0 (.exc e m) r := fun b m1 e => nomatch e
theorem RLe.bind {α β : Type} {r r' : R α} {f f' : α → Mem → R β} (h : RLe C0 r r') (k : ∀ a m m', MLe C0 m m' → RLe C0 (f a m) (f' a m')) : RLe C0 (r.bind f) (r'.bind f') := fun b m2 e => by
  obtain ⟨a, m1, e1, h1⟩ := R.bind_eq_ok e
  obtain ⟨m1', e2, q⟩ := h a m1 e1
  rw [e2]
  exact k a m1 m1' q b m2 h1
theorem RLe.opt {α : Type} {o o' : Option α} (h : ∀ a, o = some a → o' = some a) (hm : MLe C0 m m') : RLe C0 (Ev.opt o m) (Ev.opt o' m') := fun a m1 e => by
  obtain ⟨e1, rfl⟩ := opt_eq_ok e
  exact ⟨m', by rw [h a e1]; rfl, hm⟩
theorem RLe.opt' {α : Type} {o : Option α} (hm : MLe C0 m m') : RLe C0 (Ev.opt o m) (Ev.opt o m') := .opt (fun _ h => h) hm
theorem RLe.ite {α : Type} {b : Bool} {r r' s s' : R α} (h : RLe C0 r r') (k : RLe C0 s s') : RLe C0 (if b = true then r else s) (if b = true then r' else s') := by
  cases b
  · exact k
  · exact h
theorem RLe.asD {r r' : R Rv} (h : RLe C0 r r') : RLe C0 (Ev.asD r) (Ev.asD r') := h.bind fun _ _ _ hm => .opt' hm
theorem RLe.asF {r r' : R Rv} (h : RLe C0 r r') : RLe C0 (Ev.asF r) (Ev.asF r') := h.bind fun _ _ _ hm => .opt' hm
theorem RLe.asB {r r' : R Rv} (h : RLe C0 r r') : RLe C0 (Ev.asB r) (Ev.asB r') := h.bind fun v _ _ hm => by
  split
  · exact .ok hm
  · exact .bad
theorem RLe.bor {r r' : R Rv} (o : Option Nat) (hm : MLe C0 m m') (h : RLe C0 r r') : RLe C0 (Ev.bor o env m r) (Ev.bor o env m' r') := by
  cases o with
  | none => exact h.bind fun _ _ _ hm => .ok hm
  | some i =>
    show RLe C0 (Ev.opt (look env m i) m) (Ev.opt (look env m' i) m')
    exact .opt (fun a e => e) hm
theorem RLe.part {r r' : R Rv} (b : Bool) (hm : MLe C0 m m') (h : RLe C0 r r') : RLe C0 (partE b m r) (partE b m' r') := by
  cases b with
  | true => exact .ok hm
  | false =>
    refine h.bind fun v _ _ hm => ?_
    split
    · exact .ok hm
    · exact .bad
theorem RLe.cond {r r' : R Rv} (b : Bool) (hm : MLe C0 m m') (h : RLe C0 r r') : RLe C0 (condE b m r) (condE b m' r') := by
  cases b with
  | true => exact .ok hm
  | false => exact h.asB
theorem RLe.src {r r' : R Rv} (fz : Bool) (o : Option Nat) (hm : MLe C0 m m') (h : RLe C0 r r') : RLe C0 (Ev.src fz o env m r) (Ev.src fz o env m' r') := by
  cases fz with
  | true => exact h.bind fun _ _ _ hm => (RLe.opt' hm).bind fun _ _ _ hm => .ok hm
  | false => exact .bor o hm h
/-- a look at a better known memory -/
theorem at_le (hm : MLe C0 m m') (x : Vw) : x.at m = .c (.obj []) ∨ x.at m = x.at m' := by
  cases x with
  | d _ => exact .inr rfl
  | c _ => exact .inr rfl
  | r n =>
    cases q : m[n]? with
    | none =>
      have q' : m'[n]? = none := by
        rw [List.getElem?_eq_none_iff] at q ⊢
        rw [← hm.len]; exact q
      exact .inr (by simp only [Vw.at, q, q'])
    | some c =>
      obtain ⟨c', e, k⟩ := hm.at_ n c q
      rcases k with ⟨k, _⟩ | ⟨_, k⟩
      · subst k; exact .inl (by simp only [Vw.at, q])
      · subst k; exact .inr (by simp only [Vw.at, q, e])
theorem un_le {β : Type} {g : Vw → Option β} (h0 : g (.c (.obj [])) = none) (hm : MLe C0 m m') (x : Vw) : ∀ a, g (x.at m) = some a → g (x.at m') = some a := fun a e => by
  rcases at_le hm x with q | q
  · rw [q, h0] at e; cases e
  · rw [← q]; exact e
theorem two_le {β : Type} {g : Vw → Vw → Option β} (h0 : ∀ y, g (.c (.obj [])) y = none) (h1 : ∀ x, g x (.c (.obj [])) = none) (hm : MLe C0 m m') (x y : Vw) : ∀ a, g (x.at m) (y.at m) = some a → g (x.at m') (y.at m') = some a := fun a e => by
  rcases at_le hm x with q | q
  · rw [q, h0] at e; cases e
  · rcases at_le hm y with q2 | q2
    · rw [q2, h1] at e; cases e
    · rw [← q, ← q2]; exact e
theorem bin_o1 (o : Bop) (y : Vw) : binV o (.c (.obj [])) y = none := by
  unfold binV
  split <;> first | rfl | (split <;> first | rfl | simp_all [Vw.seq]) | simp_all [Vw.seq]
theorem bin_o2 (o : Bop) (x : Vw) : binV o x (.c (.obj [])) = none := by
  unfold binV
  split <;> first | rfl | (split <;> first | rfl | simp_all [Vw.seq]) | simp_all [Vw.seq]
theorem cmp_o1 (o : Cop) (y : Vw) : cmpD o (.c (.obj [])) y = none := by
  cases o <;> cases y <;> simp [cmpD, cmpD.inD, Vw.dat] <;> (rename_i d; cases d <;> rfl)
theorem cmp_o2 (o : Cop) (x : Vw) : cmpD o x (.c (.obj [])) = none := by
  cases o <;> cases x <;> (try rfl) <;> simp [cmpD, cmpD.inD, Vw.dat, Vw.seq, Ct.dic] <;> (rename_i d; cases d <;> rfl)
end
end Ev

set_option linter.all false
set_option maxRecDepth 100000
/-! Ev23: the evaluator is monotone. -/
namespace Ev
section
variable {C0 : Ct} {m m' m1 m1' : Mem} {env : Fr} {cs cs' : Cs}
theorem idx_o (k : D) : idxV (.c (.obj [])) k = none := rfl
theorem slc_o (lo hi : Option Int) : slcV (.c (.obj [])) lo hi = none := rfl
theorem isi_o (t : Ty) : isiO t (.c (.obj [])) = none := by cases t <;> rfl
theorem map_le {β : Type} {g : List Vw → Option β} (h0 : ∀ as, Vw.c (.obj []) ∈ as → g as = none) (hm : MLe C0 m m') (xs : List Vw) : ∀ a, g (xs.map (Vw.at m)) = some a → g (xs.map (Vw.at m')) = some a := fun a e => by
  have key : Vw.c (.obj []) ∈ xs.map (Vw.at m) ∨ xs.map (Vw.at m) = xs.map (Vw.at m') := by
    clear e
    induction xs with
    | nil => exact .inr rfl
    | cons x xs ih =>
      rcases at_le hm x with q | q
      · exact .inl (by rw [List.map_cons, q]; exact List.mem_cons_self)
      · rcases ih with i | i
        · exact .inl (by rw [List.map_cons]; exact List.mem_cons_of_mem _ i)
        · exact .inr (by rw [List.map_cons, List.map_cons, q, i])
  rcases key with k | k
  · rw [h0 _ k] at e; cases e
  · rw [← k]; exact e
theorem bi_o (b : Bi) (as : List Vw) (h : Vw.c (.obj []) ∈ as) : biV b as = none := by
  unfold biV
  split <;> first | rfl | (simp at h; done) | (simp at h; subst h; rfl)
theorem mt_o (t : Mt) (as : List Vw) (h : Vw.c (.obj []) ∈ as) : mtV t as = none := by
  unfold mtV
  split <;> first | rfl | (simp at h; done) | (simp at h; subst h; rfl)
theorem arg_le (v : Rv) (hm : MLe C0 m m') : RLe C0 (argOf v m) (argOf v m') := by
  unfold argOf
  split
  · exact .ok hm
  · exact .ok hm
  · rw [hm.len]; exact .ok (hm.app (by simp))
  · rw [hm.len]; exact .ok (hm.app (by simp))
  · exact .bad
theorem lcLoop_le {f f' : D → Mem → R (List D)} (h : ∀ x m m', MLe C0 m m' → RLe C0 (f x m) (f' x m')) : ∀ (xs : List D) (m m' : Mem), MLe C0 m m' → RLe C0 (lcLoop f xs m) (lcLoop f' xs m')
  | [], _, _, hm => .ok hm
  | x :: xs, m, m', hm => (h x m m' hm).bind fun _ _ _ hm => (lcLoop_le h xs _ _ hm).bind fun _ _ _ hm => .ok hm
theorem dcLoop_le {f f' : D → Mem → R (List (D × D))} (h : ∀ x m m', MLe C0 m m' → RLe C0 (f x m) (f' x m')) : ∀ (xs : List D) (acc : List (D × D)) (m m' : Mem), MLe C0 m m' → RLe C0 (dcLoop f xs acc m) (dcLoop f' xs acc m')
  | [], _, _, _, hm => .ok hm
  | x :: xs, acc, m, m', hm => (h x m m' hm).bind fun _ _ _ hm => .ite (dcLoop_le h xs _ _ _ hm) .bad
mutual
theorem evX_le (h : CsLe C0 cs cs') : ∀ (e : Ex) (env : Fr) (m m' : Mem), MLe C0 m m' → RLe C0 (evX cs e env m) (evX cs' e env m')
  | .int i, env, m, m', hm => .ok hm
  | .bl b, env, m, m', hm => .ok hm
  | .non, env, m, m', hm => .ok hm
  | .str x, env, m, m', hm => .ok hm
  | .con _ d, env, m, m', hm => .ok hm
  | .var i, env, m, m', hm => by
    simp only [evX]
    split
    · exact .ok hm
    · exact .bad
  | .bin o a b, env, m, m', hm => (RLe.bor _ hm (evX_le h a env m m' hm)).bind fun x _ _ hm => (RLe.bor _ hm (evX_le h b env _ _ hm)).bind fun y _ _ hm => .opt (two_le (bin_o1 o) (bin_o2 o) hm x y) hm
  | .neg a, env, m, m', hm => (evX_le h a env m m' hm).asD.bind fun x _ _ hm => by
    split
    · exact .ok hm
    · exact .bad
  | .not a, env, m, m', hm => (evX_le h a env m m' hm).asB.bind fun x _ _ hm => .ok hm
  | .and es, env, m, m', hm => (evAnd_le h es env m m' hm).bind fun x _ _ hm => .ok hm
  | .or es, env, m, m', hm => (evOr_le h es env m m' hm).bind fun x _ _ hm => .ok hm
  | .cmp o a b, env, m, m', hm => (RLe.bor _ hm (evX_le h a env m m' hm)).bind fun x _ _ hm => (RLe.bor _ hm (evX_le h b env _ _ hm)).bind fun y _ _ hm => (RLe.opt (two_le (cmp_o1 o) (cmp_o2 o) hm x y) hm).bind fun _ _ _ hm => .ok hm
  | .cmp2 o p a b c, env, m, m', hm => (evX_le h a env m m' hm).asD.bind fun x _ _ hm => (evX_le h b env _ _ hm).asD.bind fun y _ _ hm => (RLe.opt' hm).bind fun t _ _ hm =>
      .ite ((evX_le h c env _ _ hm).asD.bind fun z _ _ hm => (RLe.opt' hm).bind fun _ _ _ hm => .ok hm) (.ok hm)
  | .ite c a b, env, m, m', hm => (evX_le h c env m m' hm).asB.bind fun t _ _ hm => .ite (evX_le h a env _ _ hm) (evX_le h b env _ _ hm)
  | .tup es, env, m, m', hm => (evXs_le h es env m m' hm).bind fun _ _ _ hm => .ok hm
  | .lst es, env, m, m', hm => (evXs_le h es env m m' hm).bind fun _ _ _ hm => .ok hm
  | .idx a i, env, m, m', hm => (RLe.bor _ hm (evX_le h a env m m' hm)).bind fun x _ _ hm => (evX_le h i env _ _ hm).asD.bind fun k _ _ hm => (RLe.opt (un_le (g := fun v => idxV v k) (idx_o k) hm x) hm).bind fun _ _ _ hm => .ok hm
  | .slc a lo hi, env, m, m', hm => (RLe.bor _ hm (evX_le h a env m m' hm)).bind fun x _ _ hm => (RLe.part _ hm (evX_le h lo env _ _ hm)).bind fun l _ _ hm => (RLe.part _ hm (evX_le h hi env _ _ hm)).bind fun u _ _ hm => .opt (un_le (g := fun v => slcV v l u) (slc_o l u) hm x) hm
  | .rev a, env, m, m', hm => (RLe.bor _ hm (evX_le h a env m m' hm)).bind fun x _ _ hm => by
    split
    · exact .ok hm
    · exact .ok hm
    · exact .bad
  | .call f es, env, m, m', hm0 => (evAs_le h es env m m' hm0).bind fun as _ _ hm => (h.f f as _ _ hm).bind fun v _ _ hm => by rw [hm0.len]; exact .ok (hm.take _)
  | .meth f es, env, m, m', hm0 => (evAs_le h es env m m' hm0).bind fun as _ _ hm => (h.f f as _ _ hm).bind fun v _ _ hm => by rw [hm0.len]; exact .ok (hm.take _)
  | .mk c f es, env, m, m', hm0 => (evAs_le h es env m m' hm0).bind fun as _ _ hm => (h.i f as _ _ hm).bind fun v _ _ hm => by
    split
    · rw [hm0.len]; exact .ok (hm.take _)
    · exact .bad
  | .bi b es, env, m, m', hm => (evVs_le h es env m m' hm).bind fun as _ _ hm => .opt (map_le (bi_o b) hm as) hm
  | .mt t es, env, m, m', hm => (evVs_le h es env m m' hm).bind fun as _ _ hm => (RLe.opt (map_le (mt_o t) hm as) hm).bind fun _ _ _ hm => .ok hm
  | .attr o c f, env, m, m', hm => (evX_le h o env m m' hm).asD.bind fun x _ _ hm => by
    split
    · split
      · exact (RLe.opt' hm).bind fun _ _ _ hm => .ok hm
      · exact .bad
    · exact .bad
  | .isi t e, env, m, m', hm => (RLe.bor _ hm (evX_le h e env m m' hm)).bind fun x _ _ hm => (RLe.opt (un_le (isi_o t) hm x) hm).bind fun _ _ _ hm => .ok hm
  | .lc tg it cd elt, env, m, m', hm => by
    refine (evI_le h it false env m m' hm).bind fun xs _ _ hm => (lcLoop_le (fun x m m' hm => ?_) xs _ _ hm).bind fun ys _ _ hm => ?_
    · refine (RLe.opt' hm).bind fun env1 _ _ hm => (RLe.cond _ hm (evX_le h cd env1 _ _ hm)).bind fun t _ _ hm => ?_
      exact .ite ((evX_le h elt env1 _ _ hm).asD.bind fun _ _ _ hm => .ok hm) (.ok hm)
    · exact .ite (.ok hm) .bad
  | .lc2 tg it cd tg2 it2 cd2 elt, env, m, m', hm => by
    refine (evI_le h it false env m m' hm).bind fun xs _ _ hm => (lcLoop_le (fun x m m' hm => ?_) xs _ _ hm).bind fun ys _ _ hm => ?_
    · refine (RLe.opt' hm).bind fun env1 _ _ hm => (RLe.cond _ hm (evX_le h cd env1 _ _ hm)).bind fun t _ _ hm => ?_
      refine .ite ((evI_le h it2 true env1 _ _ hm).bind fun xs2 _ _ hm => lcLoop_le (fun x2 m m' hm => ?_) xs2 _ _ hm) (.ok hm)
      refine (RLe.opt' hm).bind fun env2 _ _ hm => (RLe.cond _ hm (evX_le h cd2 env2 _ _ hm)).bind fun t2 _ _ hm => ?_
      exact .ite ((evX_le h elt env2 _ _ hm).asD.bind fun _ _ _ hm => .ok hm) (.ok hm)
    · exact .ite (.ok hm) .bad
  | .d0 x, env, m, m', hm => .ok hm
  | .dct _ _ _, env, m, m', hm => .bad
  | .dc x tg it cd k v, env, m, m', hm => by
    refine (evI_le h it false env m m' hm).bind fun xs _ _ hm => (dcLoop_le (fun y m m' hm => ?_) xs [] _ _ hm).bind fun _ _ _ hm => .ok hm
    refine (RLe.opt' hm).bind fun env1 _ _ hm => (RLe.cond _ hm (evX_le h cd env1 _ _ hm)).bind fun t _ _ hm => ?_
    refine .ite ((evX_le h k env1 _ _ hm).asD.bind fun a _ _ hm => (evX_le h v env1 _ _ hm).asD.bind fun b _ _ hm => ?_) (.ok hm)
    exact .ite (.ok hm) .bad
  | .rngl as, env, m, m', hm => (evXs_le h as env m m' hm).bind fun ds _ _ hm => (RLe.opt' hm).bind fun _ _ _ hm => .ok hm
  | .rngt as, env, m, m', hm => (evXs_le h as env m m' hm).bind fun ds _ _ hm => (RLe.opt' hm).bind fun _ _ _ hm => .ok hm
  | .no, env, m, m', hm => .bad
theorem evXs_le (h : CsLe C0 cs cs') : ∀ (es : Exs) (env : Fr) (m m' : Mem), MLe C0 m m' → RLe C0 (evXs cs es env m) (evXs cs' es env m')
  | .nil, env, m, m', hm => .ok hm
  | .cons e es, env, m, m', hm => (evX_le h e env m m' hm).asD.bind fun _ _ _ hm => (evXs_le h es env _ _ hm).bind fun _ _ _ hm => .ok hm
theorem evVs_le (h : CsLe C0 cs cs') : ∀ (es : Exs) (env : Fr) (m m' : Mem), MLe C0 m m' → RLe C0 (evVs cs es env m) (evVs cs' es env m')
  | .nil, env, m, m', hm => .ok hm
  | .cons e es, env, m, m', hm => (RLe.bor _ hm (evX_le h e env m m' hm)).bind fun _ _ _ hm => (evVs_le h es env _ _ hm).bind fun _ _ _ hm => .ok hm
theorem evAs_le (h : CsLe C0 cs cs') : ∀ (es : Exs) (env : Fr) (m m' : Mem), MLe C0 m m' → RLe C0 (evAs cs es env m) (evAs cs' es env m')
  | .nil, env, m, m', hm => .ok hm
  | .cons e es, env, m, m', hm => by
    refine RLe.bind ?_ fun _ _ _ hm => (evAs_le h es env _ _ hm).bind fun _ _ _ hm => .ok hm
    split
    · unfold slotAr
      split
      · exact .ok hm
      · exact .ok hm
      · exact .bad
    · exact (evX_le h e env m m' hm).bind fun v _ _ hm => arg_le v hm
theorem evAnd_le (h : CsLe C0 cs cs') : ∀ (es : Exs) (env : Fr) (m m' : Mem), MLe C0 m m' → RLe C0 (evAnd cs es env m) (evAnd cs' es env m')
  | .nil, env, m, m', hm => .bad
  | .cons e es, env, m, m', hm => (evX_le h e env m m' hm).asB.bind fun t _ _ hm => .ite (.ok hm) (.ite (evAnd_le h es env _ _ hm) (.ok hm))
theorem evOr_le (h : CsLe C0 cs cs') : ∀ (es : Exs) (env : Fr) (m m' : Mem), MLe C0 m m' → RLe C0 (evOr cs es env m) (evOr cs' es env m')
  | .nil, env, m, m', hm => .bad
  | .cons e es, env, m, m', hm => (evX_le h e env m m' hm).asB.bind fun t _ _ hm => .ite (.ok hm) (.ite (.ok hm) (evOr_le h es env _ _ hm))
theorem evI_le (h : CsLe C0 cs cs') : ∀ (it : It) (fz : Bool) (env : Fr) (m m' : Mem), MLe C0 m m' → RLe C0 (evI cs it fz env m) (evI cs' it fz env m')
  | .rng as, fz, env, m, m', hm => (evXs_le h as env m m' hm).bind fun _ _ _ hm => .opt' hm
  | .seq a, fz, env, m, m', hm => (RLe.src fz _ hm (evX_le h a env m m' hm)).bind fun _ _ _ hm => .opt' hm
  | .zip a b, fz, env, m, m', hm => (RLe.src fz _ hm (evX_le h a env m m' hm)).bind fun x _ _ hm => (RLe.src fz _ hm (evX_le h b env _ _ hm)).bind fun y _ _ hm => by
    split
    · exact .ite (.ok hm) .bad
    · exact .bad
  | .enum a, fz, env, m, m', hm => (RLe.src fz _ hm (evX_le h a env m m' hm)).bind fun x _ _ hm => by
    split
    · exact .ok hm
    · exact .bad
  | .rvs a, fz, env, m, m', hm => (RLe.src fz _ hm (evX_le h a env m m' hm)).bind fun x _ _ hm => .opt' hm
end
theorem forLoop_le {f f' : D → Fr → Mem → R Out} (h : ∀ x e m m', MLe C0 m m' → RLe C0 (f x e m) (f' x e m')) : ∀ (xs : List D) (e : Fr) (m m' : Mem), MLe C0 m m' → RLe C0 (forLoop f xs e m) (forLoop f' xs e m')
  | [], _, _, _, hm => .ok hm
  | x :: xs, e, m, m', hm => (h x e m m' hm).bind fun o _ _ hm => by
    cases o with
    | nx e => exact forLoop_le h xs e _ _ hm
    | ct e => exact forLoop_le h xs e _ _ hm
    | brk e => exact .ok hm
    | ret v => exact .ok hm
theorem whlLoop_le {c c' : Fr → Mem → R Bool} {b b' : Fr → Mem → R Out} (hc : ∀ e m m', MLe C0 m m' → RLe C0 (c e m) (c' e m')) (hb : ∀ e m m', MLe C0 m m' → RLe C0 (b e m) (b' e m')) : ∀ (w w' : Nat) (e : Fr) (m m' : Mem), w ≤ w' → MLe C0 m m' → RLe C0 (whlLoop c b w e m) (whlLoop c' b' w' e m')
  | 0, _, _, _, _, _, _ => .bad
  | w + 1, 0, _, _, _, h, _ => absurd h (by omega)
  | w + 1, w' + 1, e, m, m', h, hm => (hc e m m' hm).bind fun t _ _ hm => .ite ((hb e _ _ hm).bind fun o _ _ hm => by
    cases o with
    | nx e => exact whlLoop_le hc hb w w' e _ _ (by omega) hm
    | ct e => exact whlLoop_le hc hb w w' e _ _ (by omega) hm
    | brk e => exact .ok hm
    | ret v => exact .ok hm) (.ok hm)
theorem getC_le (hm : MLe C0 m m') (env : Fr) (i : Nat) {c : Ct} (hc : c ≠ .obj []) (e : getC env m i = some c) : getC env m' i = some c := by
  unfold getC at e ⊢
  split at e
  · exact e
  · obtain ⟨c', e1, q⟩ := hm.at_ _ _ e
    rcases q with ⟨q, _⟩ | ⟨_, q⟩
    · exact absurd q hc
    · rw [q]; exact e1
  · exact e
theorem putC_le (hm : MLe C0 m m') {env : Fr} {i : Nat} {c : Ct} {p : Fr × Mem} (hc : c ≠ .obj []) (e : putC env m i c = some p) : ∃ p', putC env m' i c = some p' ∧ p'.1 = p.1 ∧ MLe C0 p.2 p'.2 := by
  unfold putC at e ⊢
  split at e
  · cases e; exact ⟨_, rfl, rfl, hm⟩
  · cases e; exact ⟨_, rfl, rfl, hm.set _ hc⟩
  · cases e
theorem setC_ne {c c' : Ct} {k d : D} (e : setC c k d = some c') : c' ≠ .obj [] := by
  rintro rfl
  unfold setC at e
  split at e
  · split at e
    · obtain ⟨j, _, q⟩ := Option.map_eq_some_iff.mp e; cases q
    · cases e
  · split at e
    · cases e
    · cases e
  · split at e
    · cases e
    · cases e
  · cases e
/-- a place written -/
theorem put_le {o o' : Option (Fr × Mem)} (hm : MLe C0 m m') (h : ∀ p, o = some p → ∃ p', o' = some p' ∧ p'.1 = p.1 ∧ MLe C0 p.2 p'.2) : RLe C0 ((Ev.opt o m).bind fun p _ => R.ok (Out.nx p.1) p.2) ((Ev.opt o' m').bind fun p _ => R.ok (Out.nx p.1) p.2) := fun a m1 e => by
  obtain ⟨p, m2, e1, h1⟩ := R.bind_eq_ok e
  cases h1
  obtain ⟨e2, rfl⟩ := opt_eq_ok e1
  obtain ⟨p', e3, e4, e5⟩ := h p e2
  exact ⟨p'.2, by rw [e3, ← e4]; rfl, e5⟩
mutual
theorem evS_le (h : CsLe C0 cs cs') : ∀ (s : St) (env : Fr) (m m' : Mem), MLe C0 m m' → RLe C0 (evS cs s env m) (evS cs' s env m')
  | .asg i e, env, m, m', hm => (evX_le h e env m m' hm).asD.bind fun _ _ _ hm => .ok hm
  | .asgO i e, env, m, m', hm => (evX_le h e env m m' hm).asF.bind fun _ _ _ hm => .ok hm
  | .asgC i e, env, m, m', hm => (evX_le h e env m m' hm).asF.bind fun c _ _ hm => by
    cases ho : isObj c with
    | true => exact .bad
    | false => rw [hm.len]; exact .ok (hm.app fun z => by rw [z] at ho; cases ho)
  | .asgT is e, env, m, m', hm => (evX_le h e env m m' hm).asD.bind fun _ _ _ hm => (RLe.opt' hm).bind fun _ _ _ hm => .ok hm
  | .setI i k v, env, m, m', hm => (evX_le h v env m m' hm).asD.bind fun x _ _ hm => (evX_le h k env _ _ hm).asD.bind fun y _ _ hm => put_le hm fun p e => by
    obtain ⟨c, e1, h1⟩ := Option.bind_eq_some_iff.mp e
    obtain ⟨c', e2, e3⟩ := Option.bind_eq_some_iff.mp h1
    have hc : c ≠ .obj [] := fun z => by rw [z] at e2; cases e2
    obtain ⟨p', e4, q⟩ := putC_le hm (setC_ne e2) e3
    exact ⟨p', by rw [getC_le hm env i hc e1]; show (setC c y x).bind _ = _; rw [e2]; exact e4, q⟩
  | .aug o i e, env, m, m', hm => by
    simp only [evS]
    split
    · exact (evX_le h e env m m' hm).asD.bind fun _ _ _ hm => (RLe.opt' hm).bind fun _ _ _ hm => .ok hm
    · exact .bad
  | .augI o i k e, env, m, m', hm => (evX_le h k env m m' hm).asD.bind fun y _ _ hm => (RLe.opt (fun a e => by
      obtain ⟨c, e1, e2⟩ := Option.bind_eq_some_iff.mp e
      have hc : c ≠ .obj [] := fun z => by rw [z] at e2; cases e2
      rw [getC_le hm env i hc e1]; exact e2) hm).bind fun old _ _ hm => (evX_le h e env _ _ hm).asD.bind fun x _ _ hm => (RLe.opt' hm).bind fun z _ _ hm => put_le hm fun p e => by
    obtain ⟨c, e1, h1⟩ := Option.bind_eq_some_iff.mp e
    obtain ⟨c', e2, e3⟩ := Option.bind_eq_some_iff.mp h1
    have hc : c ≠ .obj [] := fun z => by rw [z] at e2; cases e2
    obtain ⟨p', e4, q⟩ := putC_le hm (setC_ne e2) e3
    exact ⟨p', by rw [getC_le hm env i hc e1]; show (setC c y z).bind _ = _; rw [e2]; exact e4, q⟩
  | .ex e, env, m, m', hm => (evX_le h e env m m' hm).bind fun _ _ _ hm => .ok hm
  | .app i e, env, m, m', hm => fun o m1 q => by
    simp only [evS] at q ⊢
    split at q
    · rename_i ds hg
      rw [getC_le hm env i (by simp) hg]
      refine RLe.bind (evX_le h e env m m' hm).asD (fun x _ _ hm => put_le hm fun p e => ?_) o m1 q
      obtain ⟨c, e1, h1⟩ := Option.bind_eq_some_iff.mp e
      split at h1
      · split at h1
        · rename_i hl
          obtain ⟨p', e4, q⟩ := putC_le hm (by simp) h1
          refine ⟨p', ?_, q⟩
          rw [getC_le hm env i (by simp) e1]
          show (if _ then _ else _) = _
          rw [if_pos hl]
          exact e4
        · cases h1
      · cases h1
    · cases q
  | .ext i e, env, m, m', hm => fun o m1 q => by
    simp only [evS] at q ⊢
    split at q
    · rename_i ds hg
      rw [getC_le hm env i (by simp) hg]
      refine RLe.bind (evX_le h e env m m' hm).asF (fun x _ _ hm => put_le hm fun p e => ?_) o m1 q
      obtain ⟨c, e1, h1⟩ := Option.bind_eq_some_iff.mp e
      split at h1
      · split at h1
        · rename_i hl
          obtain ⟨p', e4, q⟩ := putC_le hm (by simp) h1
          refine ⟨p', ?_, q⟩
          rw [getC_le hm env i (by simp) e1]
          show (if _ then _ else _) = _
          rw [if_pos hl]
          exact e4
        · cases h1
      · cases h1
    · cases q
  | .pop j i k, env, m, m', hm => fun o m1 q => by
    simp only [evS] at q ⊢
    split at q
    · rename_i ds hg
      rw [getC_le hm env i (by simp) hg]
      refine RLe.bind (RLe.part _ hm (evX_le h k env m m' hm)) (fun x _ _ hm => ?_) o m1 q
      intro a m2 q2
      obtain ⟨r, m3, e1, h1⟩ := R.bind_eq_ok q2
      cases h1
      obtain ⟨e2, rfl⟩ := opt_eq_ok e1
      obtain ⟨c, e3, h3⟩ := Option.bind_eq_some_iff.mp e2
      split at h3
      · split at h3
        · rename_i hl
          obtain ⟨w, e5, h5⟩ := Option.bind_eq_some_iff.mp h3
          obtain ⟨z, e6, h6⟩ := Option.bind_eq_some_iff.mp h5
          obtain ⟨p, e7, rfl⟩ := Option.map_eq_some_iff.mp h6
          obtain ⟨p', e8, e9, e10⟩ := putC_le hm (by simp) e7
          refine ⟨p'.2, ?_, e10⟩
          rw [getC_le hm env i (by simp) e3]
          show (Ev.opt (if _ then _ else _) _).bind _ = _
          rw [if_pos hl, e5]
          simp only [Option.bind_some, e6, e8, Option.map_some, opt_some, R.bind_ok, e9]
        · cases h3
      · cases h3
    · cases q
  | .ite c a b, env, m, m', hm => (evX_le h c env m m' hm).asB.bind fun t _ _ hm => .ite (evSs_le h a env _ _ hm) (evSs_le h b env _ _ hm)
  | .whl c b, env, m, m', hm => whlLoop_le (fun e m m' hm => (evX_le h c e m m' hm).asB) (fun e m m' hm => evSs_le h b e m m' hm) _ _ env m m' h.w hm
  | .for tg it b, env, m, m', hm => by
    refine (evI_le h it true env m m' hm).bind fun xs _ _ hm => forLoop_le (fun x e m m' hm => ?_) xs env _ _ hm
    exact (RLe.opt' hm).bind fun e1 _ _ hm => evSs_le h b e1 _ _ hm
  | .ret e, env, m, m', hm => (evX_le h e env m m' hm).asD.bind fun _ _ _ hm => .ok hm
  | .retO e, env, m, m', hm => (evX_le h e env m m' hm).asF.bind fun _ _ _ hm => .ok hm
  | .retN, env, m, m', hm => .ok hm
  | .brk, env, m, m', hm => .ok hm
  | .cont, env, m, m', hm => .ok hm
  | .pass, env, m, m', hm => .ok hm
  | .frz i, env, m, m', hm => by
    show RLe C0 (frzE env i m) (frzE env i m')
    unfold frzE
    split
    · exact .ok hm
    · exact .ok hm
    · exact .bad
  | .fgt i, env, m, m', hm => .ok hm
  | .fld f e, env, m, m', hm => (evX_le h e env m m' hm).asD.bind fun _ _ _ hm => (RLe.opt' hm).bind fun _ _ _ hm => .ok hm
  | .raise c e, env, m, m', hm => (evX_le h e env m m' hm).asD.bind fun _ _ _ hm => .exc
theorem evSs_le (h : CsLe C0 cs cs') : ∀ (ss : Sts) (env : Fr) (m m' : Mem), MLe C0 m m' → RLe C0 (evSs cs ss env m) (evSs cs' ss env m')
  | .nil, env, m, m', hm => .ok hm
  | .cons s ss, env, m, m', hm => (evS_le h s env m m' hm).bind fun o _ _ hm => by
    cases o with
    | nx e => exact evSs_le h ss e _ _ hm
    | ct e => exact .ok hm
    | brk e => exact .ok hm
    | ret v => exact .ok hm
end
theorem runF_le (h : CsLe C0 cs cs') (fn : Fn) (as : List Ar) (hm : MLe C0 m m') : RLe C0 (runF cs fn as m) (runF cs' fn as m') := by
  unfold runF
  by_cases q : as.length + (if fn.ini = true then 1 else 0) = fn.np
  · rw [if_pos q, if_pos q]
    refine (evSs_le h _ _ m m' hm).bind fun o _ _ hm2 => ?_
    rw [hm.len]
    split
    · exact .ok (hm2.take _)
    · exact .ok (hm2.take _)
    · exact (RLe.opt' hm2).bind fun _ _ _ hm3 => .ok (hm3.take _)
    · exact .bad
  · rw [if_neg q]
    exact .bad
theorem callN_le (fns : List Fn) {w w' : Nat} (hw : w ≤ w') : ∀ {k k' : Nat}, k ≤ k' → CFLe C0 (callN fns w k) (callN fns w' k')
  | 0, k', _ => fun i as m m' hm => by simp only [callN]; exact .bad
  | k + 1, 0, h => absurd h (by omega)
  | k + 1, k' + 1, h => fun i as m m' hm => by
    simp only [callN]
    split
    · exact runF_le ⟨callN_le fns hw (by omega), callN_le fns hw (by omega), hw⟩ _ as hm
    · exact .bad
end
end Ev

set_option linter.all false
set_option maxRecDepth 100000
/-! Sg0: what an expression of the tiny language gives, told by typed Lean values. -/
namespace Ev
open PySem
open L2 (ixN)
open HT (sIx lexLt)
abbrev eI (i : Int) : D := .int i
abbrev eB (b : Bool) : D := .bl b
abbrev eS (x : Str) : D := .str x
abbrev eD (d : D) : D := d
abbrev eL {α : Type} (e : α → D) (xs : List α) : D := .lst (xs.map e)
abbrev eT {α : Type} (e : α → D) (xs : List α) : D := .tup (xs.map e)
def eO {α : Type} (e : α → D) : Option α → D
  | none => .non
  | some x => e x
abbrev eP {α β : Type} (e : α → D) (f : β → D) (p : α × β) : D := .tup [e p.1, f p.2]
abbrev eP3 {α β γ : Type} (e : α → D) (f : β → D) (g : γ → D) (p : α × β × γ) : D := .tup [e p.1, f p.2.1, g p.2.2]
abbrev eU (_ : Unit) : D := .non
/-- an expression gives d -/
def X (cs : Cs) (a : Ex) (env : Fr) (o : Option D) : Prop := ∀ m d, o = some d → ∃ rv, evX cs a env m = .ok rv m ∧ rv.dat = some d
/-- it gives a list of its own -/
def XF (cs : Cs) (a : Ex) (env : Fr) (o : Option (List D)) : Prop := ∀ m ds, o = some ds → evX cs a env m = .ok (.f (.lst ds)) m
/-- as looked at -/
def vOk (v : Vw) (d : D) : Prop := v = .d d ∨ ∃ ds, v = .c (.lst ds) ∧ d = .lst ds
def XB (cs : Cs) (a : Ex) (env : Fr) (o : Option D) : Prop := ∀ m d, o = some d → ∃ v, bor (varOf a) env m (evX cs a env m) = .ok v m ∧ vOk v d
def gd {α : Type} (b : Bool) (x : α) : Option α := if b then some x else none
theorem gd_true {α : Type} {b : Bool} (x : α) (h : b = true) : gd b x = some x := by rw [h]; rfl
section
variable {cs : Cs} {a b c : Ex} {env : Fr} {α β γ : Type} {e : α → D} {f : β → D} {o : Option D}
theorem X.bind {u : Option α} {k : α → Option D} (h : ∀ x, u = some x → X cs a env (k x)) : X cs a env (u.bind k) := fun m d hd => by
  cases u with
  | none => cases hd
  | some x => exact h x rfl m d hd
theorem XF.bind {u : Option α} {k : α → Option (List D)} (h : ∀ x, u = some x → XF cs a env (k x)) : XF cs a env (u.bind k) := fun m d hd => by
  cases u with
  | none => cases hd
  | some x => exact h x rfl m d hd
theorem X.at {u : Option α} {x : α} (h : X cs a env (u.map e)) (hx : u = some x) : X cs a env (some (e x)) := by rw [hx] at h; exact h
theorem XF.at {u : Option (List α)} {x : List α} (h : XF cs a env (u.map (List.map e))) (hx : u = some x) : XF cs a env (some (x.map e)) := by rw [hx] at h; exact h
theorem XF.x {o : Option (List α)} (h : XF cs a env (o.map (List.map e))) : X cs a env (o.map (eL e)) := fun m d hd => by
  cases o with
  | none => cases hd
  | some ds => cases hd; exact ⟨_, h m _ rfl, rfl⟩
theorem XF.x1 {xs : List α} (h : XF cs a env (some (xs.map e))) : X cs a env (some (eL e xs)) := fun m d hd => by
  cases hd; exact ⟨_, h m _ rfl, rfl⟩
theorem X.asD {d : D} (h : X cs a env (some d)) (m : Mem) : asD (evX cs a env m) = .ok d m := by
  obtain ⟨rv, h1, h2⟩ := h m d rfl
  show (evX cs a env m).bind _ = _
  rw [h1]
  show Ev.opt rv.dat m = _
  rw [h2]
  rfl
theorem X.asB {t : Bool} (h : X cs a env (some (eB t))) (m : Mem) : asB (evX cs a env m) = .ok t m := by
  obtain ⟨rv, h1, h2⟩ := h m _ rfl
  show (evX cs a env m).bind _ = _
  rw [h1]
  cases rv with
  | d d => cases h2; rfl
  | f c => cases c <;> cases h2
theorem XF.asF {ds : List D} (h : XF cs a env (some ds)) (m : Mem) : asF (evX cs a env m) = .ok (.lst ds) m := by
  show (evX cs a env m).bind _ = _
  rw [h m _ rfl]
  rfl
theorem varOf_some {i : Nat} (h : varOf a = some i) : a = .var i := by
  cases a <;> first | (cases h; rfl) | cases h
theorem X.bo {d : D} (h : X cs a env (some d)) : XB cs a env (some d) := fun m d' hd => by
  cases hd
  obtain ⟨rv, h1, h2⟩ := h m d rfl
  cases q : varOf a with
  | none =>
    refine ⟨rv.vw, ?_, ?_⟩
    · show (evX cs a env m).bind _ = _
      rw [h1]
      rfl
    · cases rv with
      | d x => cases h2; exact .inl rfl
      | f c => cases c with
        | lst ds => cases h2; exact .inr ⟨ds, rfl, rfl⟩
        | _ => cases h2
  | some i =>
    have ha := varOf_some q
    subst ha
    have e1 : evX cs (.var i) env m = match env[i]? with | some (.val d) => .ok (.d d) m | _ => .bad := rfl
    rw [e1] at h1
    refine ⟨.d d, ?_, .inl rfl⟩
    show Ev.opt (look env m i) m = _
    unfold look
    split at h1
    · rename_i d' hd
      cases h1
      cases h2
      rw [hd]
      rfl
    · cases h1
theorem XB.own {i : Nat} {ds : List D} (h : env[i]? = some (.own (.lst ds))) : XB cs (.var i) env (some (.lst ds)) := fun m d hd => by
  cases hd
  refine ⟨.c (.lst ds), ?_, .inr ⟨ds, rfl, rfl⟩⟩
  show Ev.opt (look env m i) m = _
  unfold look
  rw [h]
  rfl
theorem vOk.at {v : Vw} {d : D} (h : vOk v d) (m : Mem) : v.at m = v := by
  rcases h with rfl | ⟨ds, rfl, _⟩ <;> rfl
theorem vOk.dat {v : Vw} {d : D} (h : vOk v d) : v.dat = some d := by
  rcases h with rfl | ⟨ds, rfl, rfl⟩ <;> rfl
theorem vOk.i {v : Vw} {i : Int} (h : vOk v (.int i)) : v = .d (.int i) := by
  rcases h with rfl | ⟨ds, rfl, e⟩
  · rfl
  · cases e
theorem vOk.bl {v : Vw} {i : Bool} (h : vOk v (.bl i)) : v = .d (.bl i) := by
  rcases h with rfl | ⟨ds, rfl, e⟩
  · rfl
  · cases e
theorem vOk.tup {v : Vw} {ds : List D} (h : vOk v (.tup ds)) : v = .d (.tup ds) := by
  rcases h with rfl | ⟨ds, rfl, e⟩
  · rfl
  · cases e
theorem vOk.seqL {v : Vw} {ds : List D} (h : vOk v (.lst ds)) : v.seq = some (false, ds) := by
  rcases h with rfl | ⟨ds, rfl, e⟩
  · rfl
  · cases e; rfl
/-! constants, names -/
theorem X.int (i : Int) : X cs (.int i) env (some (eI i)) := fun m d h => by cases h; exact ⟨_, rfl, rfl⟩
theorem X.bl (i : Bool) : X cs (.bl i) env (some (eB i)) := fun m d h => by cases h; exact ⟨_, rfl, rfl⟩
theorem X.non : X cs .non env (some D.non) := fun m d h => by cases h; exact ⟨_, rfl, rfl⟩
theorem X.str (x : Str) : X cs (.str x) env (some (eS x)) := fun m d h => by cases h; exact ⟨_, rfl, rfl⟩
theorem X.var {i : Nat} {d : D} (h : env[i]? = some (.val d)) : X cs (.var i) env (some d) := fun m d' hd => by
  cases hd
  refine ⟨.d d, ?_, rfl⟩
  show (match env[i]? with | some (.val d) => R.ok (Rv.d d) m | _ => .bad) = _
  rw [h]
/-! numbers -/
theorem X.bin {op : Bop} {x y r : D} {rv : Rv} (ha : XB cs a env (some x)) (hb : XB cs b env (some y)) (h : ∀ v w, vOk v x → vOk w y → binV op v w = some rv) (hr : rv.dat = some r) : X cs (.bin op a b) env (some r) := fun m d hd => by
  cases hd
  obtain ⟨v, e1, k1⟩ := ha m _ rfl
  obtain ⟨w, e2, k2⟩ := hb m _ rfl
  refine ⟨rv, ?_, hr⟩
  show (bor _ _ _ _).bind _ = _
  rw [e1, R.bind_ok, e2, R.bind_ok, k1.at, k2.at, h v w k1 k2]
  rfl
theorem X.binI {op : Bop} {i j k : Int} (ha : XB cs a env (some (eI i))) (hb : XB cs b env (some (eI j))) (h : intOp op i j = some k) : X cs (.bin op a b) env (some (eI k)) :=
  .bin ha hb (rv := Rv.d (.int k)) (fun v w k1 k2 => by rw [k1.i, k2.i]; show (intOp op i j).map _ = _; rw [h]; rfl) rfl
theorem X.add {i j : Int} (ha : XB cs a env (some (eI i))) (hb : XB cs b env (some (eI j))) : X cs (.bin .add a b) env (some (eI (i + j))) := .binI ha hb rfl
theorem X.sub {i j : Int} (ha : XB cs a env (some (eI i))) (hb : XB cs b env (some (eI j))) : X cs (.bin .sub a b) env (some (eI (i - j))) := .binI ha hb rfl
def opZ (op : Bop) (i j : Int) : Option Int := intOp op i j
theorem X.opZ {op : Bop} {i j : Int} (ha : XB cs a env (some (eI i))) (hb : XB cs b env (some (eI j))) : X cs (.bin op a b) env ((opZ op i j).map eI) := fun m d hd => by
  cases q : Ev.opZ op i j with
  | none => rw [q] at hd; cases hd
  | some k => rw [q] at hd; exact X.binI ha hb q m d hd
theorem X.mod {i j : Int} (hj : 0 < j) (ha : XB cs a env (some (eI i))) (hb : XB cs b env (some (eI j))) : X cs (.bin .mod a b) env (some (eI (i % j))) := .binI ha hb (if_pos hj)
theorem X.fdiv {i j : Int} (hj : divOk j = true) (ha : XB cs a env (some (eI i))) (hb : XB cs b env (some (eI j))) : X cs (.bin .fdiv a b) env (some (eI (i / j))) := .binI ha hb (if_pos hj)
theorem X.neg {i : Int} (ha : X cs a env (some (eI i))) : X cs (.neg a) env (some (eI (-i))) := fun m d hd => by
  cases hd
  refine ⟨.d (.int (-i)), ?_, rfl⟩
  show (Ev.asD _).bind _ = _
  rw [ha.asD]
  rfl
/-! truth -/
theorem X.not {t : Bool} (ha : X cs a env (some (eB t))) : X cs (.not a) env (some (eB (!t))) := fun m d hd => by
  cases hd
  refine ⟨.d (.bl (!t)), ?_, rfl⟩
  show (Ev.asB _).bind _ = _
  rw [ha.asB]
  rfl
/-- a chain of conditions -/
def XA (cs : Cs) (es : Exs) (env : Fr) (o : Option Bool) : Prop := ∀ m t, o = some t → evAnd cs es env m = .ok t m
def XO (cs : Cs) (es : Exs) (env : Fr) (o : Option Bool) : Prop := ∀ m t, o = some t → evOr cs es env m = .ok t m
theorem XA.one {u : Option Bool} (h : X cs a env (u.map eB)) : XA cs (.cons a .nil) env u := fun m t e => by
  subst e
  show (Ev.asB _).bind _ = _
  rw [X.asB h]
  rfl
theorem XO.one {u : Option Bool} (h : X cs a env (u.map eB)) : XO cs (.cons a .nil) env u := fun m t e => by
  subst e
  show (Ev.asB _).bind _ = _
  rw [X.asB h]
  rfl
def andO (u v : Option Bool) : Option Bool := match u with | some true => v | some false => some false | none => none
def orO (u v : Option Bool) : Option Bool := match u with | some false => v | some true => some true | none => none
theorem XA.cons {es : Exs} {u v : Option Bool} (hn : isNil es = false) (h : X cs a env (u.map eB)) (k : XA cs es env v) : XA cs (.cons a es) env (andO u v) := fun m t e => by
  cases u with
  | none => cases e
  | some b =>
    show (Ev.asB _).bind _ = _
    rw [X.asB h, R.bind_ok, hn]
    cases b with
    | true => exact k m t e
    | false => cases e; rfl
theorem XO.cons {es : Exs} {u v : Option Bool} (hn : isNil es = false) (h : X cs a env (u.map eB)) (k : XO cs es env v) : XO cs (.cons a es) env (orO u v) := fun m t e => by
  cases u with
  | none => cases e
  | some b =>
    show (Ev.asB _).bind _ = _
    rw [X.asB h, R.bind_ok, hn]
    cases b with
    | false => exact k m t e
    | true => cases e; rfl
theorem X.and {es : Exs} {u : Option Bool} (h : XA cs es env u) : X cs (.and es) env (u.map eB) := fun m d hd => by
  cases u with
  | none => cases hd
  | some t =>
    cases hd
    refine ⟨.d (.bl t), ?_, rfl⟩
    show (evAnd cs es env m).bind _ = _
    rw [h m t rfl]
    rfl
theorem X.or {es : Exs} {u : Option Bool} (h : XO cs es env u) : X cs (.or es) env (u.map eB) := fun m d hd => by
  cases u with
  | none => cases hd
  | some t =>
    cases hd
    refine ⟨.d (.bl t), ?_, rfl⟩
    show (evOr cs es env m).bind _ = _
    rw [h m t rfl]
    rfl
theorem X.ite {t : Bool} {u v : Option D} (hc : X cs c env (some (eB t))) (ha : t = true → X cs a env u) (hb : t = false → X cs b env v) : X cs (.ite c a b) env (if t = true then u else v) := fun m d hd => by
  have e1 : evX cs (.ite c a b) env m = (Ev.asB (evX cs c env m)).bind fun t m1 => if t then evX cs a env m1 else evX cs b env m1 := rfl
  rw [e1, hc.asB, R.bind_ok]
  cases t with
  | true => exact ha rfl m d hd
  | false => exact hb rfl m d hd
/-! comparisons -/
theorem X.cmp {op : Cop} {x y : D} {t : Bool} (ha : XB cs a env (some x)) (hb : XB cs b env (some y)) (h : ∀ v w, vOk v x → vOk w y → cmpD op v w = some t) : X cs (.cmp op a b) env (some (eB t)) := fun m d hd => by
  cases hd
  obtain ⟨v, e1, k1⟩ := ha m _ rfl
  obtain ⟨w, e2, k2⟩ := hb m _ rfl
  refine ⟨.d (.bl t), ?_, rfl⟩
  show (bor _ _ _ _).bind _ = _
  rw [e1, R.bind_ok, e2, R.bind_ok, k1.at, k2.at, h v w k1 k2]
  rfl
theorem X.lt {i j : Int} (ha : XB cs a env (some (eI i))) (hb : XB cs b env (some (eI j))) : X cs (.cmp .lt a b) env (some (eB (decide (i < j)))) := .cmp ha hb fun v w k1 k2 => by rw [k1.i, k2.i]; rfl
theorem X.le {i j : Int} (ha : XB cs a env (some (eI i))) (hb : XB cs b env (some (eI j))) : X cs (.cmp .le a b) env (some (eB (decide (i ≤ j)))) := .cmp ha hb fun v w k1 k2 => by rw [k1.i, k2.i]; rfl
theorem X.gt {i j : Int} (ha : XB cs a env (some (eI i))) (hb : XB cs b env (some (eI j))) : X cs (.cmp .gt a b) env (some (eB (decide (j < i)))) := .cmp ha hb fun v w k1 k2 => by rw [k1.i, k2.i]; rfl
theorem X.ge {i j : Int} (ha : XB cs a env (some (eI i))) (hb : XB cs b env (some (eI j))) : X cs (.cmp .ge a b) env (some (eB (decide (j ≤ i)))) := .cmp ha hb fun v w k1 k2 => by rw [k1.i, k2.i]; rfl
/-- values that == tells apart just as Lean does -/
structure Eqv (e : α → D) (n : Nat) : Prop where
  ok : ∀ x k, n ≤ k → D.ok (e x) k = true
  eq : ∀ x y [DecidableEq α], D.beq (e x) (e y) = decide (x = y)
theorem eqv_int : Eqv eI 0 := ⟨fun x k _ => rfl, fun x y _ => by
  by_cases h : x = y <;> simp [D.beq, h]⟩
theorem eqv_bool : Eqv eB 0 := ⟨fun x k _ => rfl, fun x y _ => by cases x <;> cases y <;> simp [D.beq]⟩
theorem oks_map {n k : Nat} (h : Eqv e n) (hk : n ≤ k) : ∀ xs : List α, D.oks (xs.map e) k = true
  | [] => rfl
  | x :: xs => by
    show (D.ok (e x) k && D.oks (xs.map e) k) = true
    rw [h.ok x k hk, oks_map h hk xs]
    rfl
theorem beqs_map {n : Nat} (h : Eqv e n) [DecidableEq α] : ∀ xs ys : List α, D.beqs (xs.map e) (ys.map e) = decide (xs = ys)
  | [], [] => rfl
  | [], _ :: _ => rfl
  | _ :: _, [] => rfl
  | x :: xs, y :: ys => by
    show (D.beq (e x) (e y) && D.beqs (xs.map e) (ys.map e)) = _
    rw [h.eq, beqs_map h xs ys]
    by_cases h1 : x = y <;> by_cases h2 : xs = ys <;> simp [h1, h2]
theorem eqv_lst [DecidableEq α] {n : Nat} (h : Eqv e n) : Eqv (eL e) (n + 1) := ⟨fun x k hk => by
  cases k with
  | zero => omega
  | succ k => exact oks_map h (by omega) x, fun x y i => by
  show D.beqs (x.map e) (y.map e) = _
  rw [beqs_map h]
  congr⟩
theorem eqv_tup [DecidableEq α] {n : Nat} (h : Eqv e n) : Eqv (eT e) (n + 1) := ⟨fun x k hk => by
  cases k with
  | zero => omega
  | succ k => exact oks_map h (by omega) x, fun x y i => by
  show D.beqs (x.map e) (y.map e) = _
  rw [beqs_map h]
  congr⟩
theorem eqv_pair [DecidableEq α] [DecidableEq β] {n k : Nat} (h : Eqv e n) (g : Eqv f k) : Eqv (eP e f) (max n k + 1) := ⟨fun x j hj => by
  cases j with
  | zero => omega
  | succ j =>
    show (D.ok (e x.1) j && (D.ok (f x.2) j && true)) = true
    rw [h.ok _ _ (by omega), g.ok _ _ (by omega)]
    rfl, fun x y _ => by
  show (D.beq (e x.1) (e y.1) && (D.beq (f x.2) (f y.2) && true)) = _
  rw [h.eq, g.eq]
  obtain ⟨x1, x2⟩ := x
  obtain ⟨y1, y2⟩ := y
  by_cases h1 : x1 = y1 <;> by_cases h2 : x2 = y2 <;> simp [h1, h2]⟩
theorem X.eq [DecidableEq α] {n : Nat} (he : Eqv e n) (hn : n ≤ 16 := by decide) {x y : α} [dd : Decidable (x = y)] (ha : XB cs a env (some (e x))) (hb : XB cs b env (some (e y))) : X cs (.cmp .eq a b) env (some (eB (decide (x = y)))) := .cmp ha hb fun v w k1 k2 => by
  show (match v.dat, w.dat with | some x, some y => eqD x y | _, _ => none) = _
  rw [k1.dat, k2.dat]
  show (if (D.ok (e x) 16 && D.ok (e y) 16) = true then _ else _) = _
  rw [he.ok x 16 hn, he.ok y 16 hn, he.eq]
  by_cases h : x = y <;> simp [h]
theorem X.ne [DecidableEq α] {n : Nat} (he : Eqv e n) (hn : n ≤ 16 := by decide) {x y : α} [dd : Decidable (x ≠ y)] (ha : XB cs a env (some (e x))) (hb : XB cs b env (some (e y))) : X cs (.cmp .ne a b) env (some (eB (decide (x ≠ y)))) := .cmp ha hb fun v w k1 k2 => by
  show (match v.dat, w.dat with | some x, some y => (eqD x y).map (fun t => !t) | _, _ => none) = _
  rw [k1.dat, k2.dat]
  show ((if (D.ok (e x) 16 && D.ok (e y) 16) = true then some (D.beq (e x) (e y)) else none : Option Bool).map fun t => !t) = _
  rw [he.ok x 16 hn, he.ok y 16 hn, he.eq]
  by_cases h : x = y <;> simp [h]
end
end Ev

set_option linter.all false
set_option maxRecDepth 100000
/-! Sg1: indexing, slices, built-ins, displays, calls, what is walked, comprehensions. -/
namespace Ev
open PySem
open L2 (ixN)
open HT (sIx lexLt)
section
variable {cs : Cs} {a b c : Ex} {env : Fr} {α β γ : Type} {e : α → D} {f : β → D} {o : Option D}
/-- a list or a tuple of these -/
def Sq (d : D) (ds : List D) : Prop := d = .lst ds ∨ d = .tup ds
theorem sqL {xs : List α} : Sq (eL e xs) (xs.map e) := .inl rfl
theorem sqT {xs : List α} : Sq (eT e xs) (xs.map e) := .inr rfl
theorem vOk.sq {v : Vw} {d : D} {ds : List D} (h : vOk v d) (hs : Sq d ds) : ∃ t, v.seq = some (t, ds) := by
  rcases hs with rfl | rfl
  · exact ⟨_, h.seqL⟩
  · rw [h.tup]; exact ⟨_, rfl⟩
def idxZ (xs : List α) (k : Int) : Option α := (ixN xs.length k).bind fun j => xs[j]?
theorem idxZ_map (xs : List α) (k : Int) : (ixN (xs.map e).length k).bind (fun j => (xs.map e)[j]?) = (idxZ xs k).map e := by
  unfold idxZ
  rw [List.length_map]
  cases ixN xs.length k with
  | none => rfl
  | some j => show (xs.map e)[j]? = (xs[j]?).map e; rw [List.getElem?_map]
theorem X.idx {d : D} {xs : List α} {k : Int} (hs : Sq d (xs.map e)) (ha : XB cs a env (some d)) (hi : X cs b env (some (eI k))) : X cs (.idx a b) env ((idxZ xs k).map e) := fun m r hr => by
  obtain ⟨v, e1, k1⟩ := ha m _ rfl
  obtain ⟨t, hq⟩ := k1.sq hs
  refine ⟨.d r, ?_, rfl⟩
  show (bor _ _ _ _).bind _ = _
  rw [e1, R.bind_ok, hi.asD, R.bind_ok, k1.at]
  have : idxV v (.int k) = some r := by
    unfold idxV
    rw [hq]
    exact (idxZ_map xs k).trans hr
  rw [show eI k = D.int k from rfl, this]
  rfl
/-- a place of a display or of a tuple of known places -/
theorem X.idxN {d y : D} {ds : List D} {k : Int} (hs : Sq d ds) (ha : XB cs a env (some d)) (hi : X cs b env (some (eI k))) (h : (ixN ds.length k).bind (fun j => ds[j]?) = some y) : X cs (.idx a b) env (some y) := fun m r hr => by
  cases hr
  obtain ⟨v, e1, k1⟩ := ha m _ rfl
  obtain ⟨t, hq⟩ := k1.sq hs
  refine ⟨.d y, ?_, rfl⟩
  show (bor _ _ _ _).bind _ = _
  rw [e1, R.bind_ok, hi.asD, R.bind_ok, k1.at]
  have : idxV v (.int k) = some y := by
    unfold idxV
    rw [hq]
    exact h
  rw [show eI k = D.int k from rfl, this]
  rfl
theorem X.fst {x : α} {y : β} (ha : XB cs a env (some (eP e f (x, y)))) : X cs (.idx a (.int 0)) env (some (e x)) := .idxN (.inr rfl) ha (X.int 0) rfl
theorem X.snd {x : α} {y : β} (ha : XB cs a env (some (eP e f (x, y)))) : X cs (.idx a (.int 1)) env (some (f y)) := .idxN (.inr rfl) ha (X.int 1) rfl
/-- [x, y][int(t)] -/
theorem X.pick2 {x y : α} {t : Bool} (ha : XB cs a env (some (.lst [e x, e y]))) (hi : X cs b env (some (eI (if t = true then 1 else 0)))) : X cs (.idx a b) env (some (e (if t = true then y else x))) :=
  .idxN (.inl rfl) ha hi (by cases t <;> rfl)
/-! slices -/
def XP (cs : Cs) (a : Ex) (env : Fr) (u : Option Int) : Prop := ∀ m, partE (isNo a) m (evX cs a env m) = .ok u m
theorem XP.no : XP cs .no env none := fun _ => rfl
theorem isNo_x {d : D} (h : X cs a env (some d)) : isNo a = false := by
  cases a <;> first | rfl | (obtain ⟨rv, e, _⟩ := h [] d rfl; cases e)
theorem XP.x {i : Int} (h : X cs a env (some (eI i))) : XP cs a env (some i) := fun m => by
  rw [isNo_x h]
  obtain ⟨rv, h1, h2⟩ := h m _ rfl
  show (evX cs a env m).bind _ = _
  rw [h1]
  cases rv with
  | d d => cases h2; rfl
  | f c => cases c <;> cases h2
theorem cutL_map (xs : List α) (lo hi : Option Int) : cutL (xs.map e) lo hi = (cutL xs lo hi).map e := by
  unfold cutL
  rw [List.length_map, List.map_take, List.map_drop]
theorem X.slcT {xs : List α} {l h : Ex} {u v : Option Int} (ha : XB cs a env (some (eT e xs))) (hl : XP cs l env u) (hh : XP cs h env v) : X cs (.slc a l h) env (some (eT e (cutL xs u v))) := fun m r hr => by
  cases hr
  obtain ⟨w, e1, k1⟩ := ha m _ rfl
  refine ⟨.d (.tup (cutL (xs.map e) u v)), ?_, by rw [cutL_map]; rfl⟩
  show (bor _ _ _ _).bind _ = _
  rw [e1, R.bind_ok, hl, R.bind_ok, hh, R.bind_ok, k1.at, k1.tup]
  rfl
theorem XF.slcL {xs : List α} {l h : Ex} {u v : Option Int} (ha : XB cs a env (some (eL e xs))) (hl : XP cs l env u) (hh : XP cs h env v) : XF cs (.slc a l h) env (some ((cutL xs u v).map e)) := fun m r hr => by
  cases hr
  obtain ⟨w, e1, k1⟩ := ha m _ rfl
  show (bor _ _ _ _).bind _ = _
  rw [e1, R.bind_ok, hl, R.bind_ok, hh, R.bind_ok, k1.at, ← cutL_map]
  show Ev.opt (slcV w u v) m = _
  unfold slcV
  rw [k1.seqL]
  rfl
/-! built-ins -/
theorem X.bi1 {t : Bi} {x r : D} {rv : Rv} (ha : XB cs a env (some x)) (h : ∀ v, vOk v x → biV t [v] = some rv) (hr : rv.dat = some r) : X cs (.bi t (.cons a .nil)) env (some r) := fun m d hd => by
  cases hd
  obtain ⟨v, e1, k1⟩ := ha m _ rfl
  refine ⟨rv, ?_, hr⟩
  show (R.bind (R.bind (bor _ _ _ _) _) _) = _
  rw [e1, R.bind_ok]
  show Ev.opt (biV t [v.at m]) m = _
  rw [k1.at, h v k1]
  rfl
theorem XF.bi1 {t : Bi} {x : D} {ds : List D} (ha : XB cs a env (some x)) (h : ∀ v, vOk v x → biV t [v] = some (.f (.lst ds))) : XF cs (.bi t (.cons a .nil)) env (some ds) := fun m d hd => by
  cases hd
  obtain ⟨v, e1, k1⟩ := ha m _ rfl
  show (R.bind (R.bind (bor _ _ _ _) _) _) = _
  rw [e1, R.bind_ok]
  show Ev.opt (biV t [v.at m]) m = _
  rw [k1.at, h v k1]
  rfl
theorem X.bi2 {t : Bi} {x y r : D} {rv : Rv} (ha : XB cs a env (some x)) (hb : XB cs b env (some y)) (h : ∀ v w, vOk v x → vOk w y → biV t [v, w] = some rv) (hr : rv.dat = some r) : X cs (.bi t (.cons a (.cons b .nil))) env (some r) := fun m d hd => by
  cases hd
  obtain ⟨v, e1, k1⟩ := ha m _ rfl
  obtain ⟨w, e2, k2⟩ := hb m _ rfl
  refine ⟨rv, ?_, hr⟩
  show (R.bind (R.bind (bor _ _ _ _) _) _) = _
  rw [e1, R.bind_ok]
  show (R.bind (R.bind (R.bind (bor _ _ _ _) _) _) _) = _
  rw [e2, R.bind_ok]
  show Ev.opt (biV t [v.at m, w.at m]) m = _
  rw [k1.at, k2.at, h v w k1 k2]
  rfl
theorem X.len {d : D} {xs : List α} (hs : Sq d (xs.map e)) (ha : XB cs a env (some d)) : X cs (.bi .len (.cons a .nil)) env (some (eI xs.length)) :=
  .bi1 (rv := .d (.int xs.length)) ha (fun v k => by
    obtain ⟨t, hq⟩ := k.sq hs
    show (lenV v).map (fun n => Rv.d (.int n)) = _
    have : lenV v = some xs.length := by
      unfold lenV
      split
      · rename_i x
        simp [Vw.seq] at hq
      · rw [hq]; simp
    rw [this]; rfl) rfl
theorem X.abs {i : Int} (ha : XB cs a env (some (eI i))) : X cs (.bi .abs (.cons a .nil)) env (some (eI (if i < 0 then -i else i))) := .bi1 (rv := .d _) ha (fun v k => by rw [k.i]; rfl) rfl
theorem X.intI {i : Int} (ha : XB cs a env (some (eI i))) : X cs (.bi .int (.cons a .nil)) env (some (eI i)) := .bi1 (rv := .d _) ha (fun v k => by rw [k.i]; rfl) rfl
theorem X.intB {t : Bool} (ha : XB cs a env (some (eB t))) : X cs (.bi .int (.cons a .nil)) env (some (eI (if t = true then 1 else 0))) := .bi1 (rv := .d _) ha (fun v k => by rw [k.bl]; cases t <;> rfl) rfl
theorem X.min2 {i j : Int} (ha : XB cs a env (some (eI i))) (hb : XB cs b env (some (eI j))) : X cs (.bi .min (.cons a (.cons b .nil))) env (some (eI (min i j))) :=
  .bi2 (rv := .d (.int (min i j))) ha hb (fun v w k l => by
    rw [k.i, l.i]
    show some (Rv.d (.int (if j < i then j else i))) = _
    rw [show (if j < i then j else i) = min i j by rw [Int.min_def]; split <;> split <;> omega]) rfl
theorem X.max2 {i j : Int} (ha : XB cs a env (some (eI i))) (hb : XB cs b env (some (eI j))) : X cs (.bi .max (.cons a (.cons b .nil))) env (some (eI (max i j))) :=
  .bi2 (rv := .d (.int (max i j))) ha hb (fun v w k l => by
    rw [k.i, l.i]
    show some (Rv.d (.int (if j > i then j else i))) = _
    rw [show (if j > i then j else i) = max i j by rw [Int.max_def]; split <;> split <;> omega]) rfl
theorem ints_of : ∀ xs : List Int, intsOf (xs.map eI) = some xs
  | [] => rfl
  | x :: xs => by show (intsOf (xs.map eI)).map (x :: ·) = _; rw [ints_of xs]; rfl
theorem bls_of : ∀ xs : List Bool, blsOf (xs.map eB) = some xs
  | [] => rfl
  | x :: xs => by show (blsOf (xs.map eB)).map (x :: ·) = _; rw [bls_of xs]; rfl
def minZ : List Int → Option Int
  | [] => none
  | x :: xs => some (minI x xs)
def maxZ : List Int → Option Int
  | [] => none
  | x :: xs => some (maxI x xs)
theorem bi_minL {v : Vw} {ds : List D} (h : vOk v (.lst ds)) : biV .min [v] = match intsOf ds with | some (x :: xs) => some (.d (.int (minI x xs))) | _ => none := by
  rcases h with rfl | ⟨ds, rfl, e⟩
  · rfl
  · cases e; rfl
theorem bi_maxL {v : Vw} {ds : List D} (h : vOk v (.lst ds)) : biV .max [v] = match intsOf ds with | some (x :: xs) => some (.d (.int (maxI x xs))) | _ => none := by
  rcases h with rfl | ⟨ds, rfl, e⟩
  · rfl
  · cases e; rfl
theorem X.minL {xs : List Int} (ha : XB cs a env (some (eL eI xs))) : X cs (.bi .min (.cons a .nil)) env ((minZ xs).map eI) := by
  intro m r hr
  cases xs with
  | nil => cases hr
  | cons x xs =>
    have key : X cs (.bi .min (.cons a .nil)) env (some (eI (minI x xs))) := X.bi1 (rv := Rv.d (.int (minI x xs))) ha (fun v k => by rw [bi_minL k, ints_of]) rfl
    exact key m r hr
theorem X.maxL {xs : List Int} (ha : XB cs a env (some (eL eI xs))) : X cs (.bi .max (.cons a .nil)) env ((maxZ xs).map eI) := by
  intro m r hr
  cases xs with
  | nil => cases hr
  | cons x xs =>
    have key : X cs (.bi .max (.cons a .nil)) env (some (eI (maxI x xs))) := X.bi1 (rv := Rv.d (.int (maxI x xs))) ha (fun v k => by rw [bi_maxL k, ints_of]) rfl
    exact key m r hr
theorem X.sum {xs : List Int} (ha : XB cs a env (some (eL eI xs))) : X cs (.bi .sum (.cons a .nil)) env (some (eI xs.sum)) := .bi1 (rv := .d (.int xs.sum)) ha (fun v k => by
  have hq := k.seqL
  show (match v.seq with | some (_, ds) => (intsOf ds).map fun (xs : List Int) => Rv.d (.int xs.sum) | _ => none) = _
  rw [hq]
  show (intsOf (xs.map eI)).map _ = _
  rw [ints_of]
  rfl) rfl
theorem X.all {xs : List Bool} (ha : XB cs a env (some (eL eB xs))) : X cs (.bi .all (.cons a .nil)) env (some (eB (xs.all id))) := .bi1 (rv := .d (.bl (xs.all id))) ha (fun v k => by
  have hq := k.seqL
  show (match v.seq with | some (false, ds) => (blsOf ds).map fun (xs : List Bool) => Rv.d (.bl (xs.all id)) | _ => none) = _
  rw [hq]
  show (blsOf (xs.map eB)).map _ = _
  rw [bls_of]
  rfl) rfl
theorem X.any {xs : List Bool} (ha : XB cs a env (some (eL eB xs))) : X cs (.bi .any (.cons a .nil)) env (some (eB (xs.any id))) := .bi1 (rv := .d (.bl (xs.any id))) ha (fun v k => by
  have hq := k.seqL
  show (match v.seq with | some (false, ds) => (blsOf ds).map fun (xs : List Bool) => Rv.d (.bl (xs.any id)) | _ => none) = _
  rw [hq]
  show (blsOf (xs.map eB)).map _ = _
  rw [bls_of]
  rfl) rfl
theorem XF.list {d : D} {xs : List α} (hs : Sq d (xs.map e)) (ha : XB cs a env (some d)) : XF cs (.bi .list (.cons a .nil)) env (some (xs.map e)) := .bi1 ha fun v k => by
  obtain ⟨t, hq⟩ := k.sq hs
  show v.keys.map _ = _
  unfold Vw.keys
  rw [hq]
  rfl
theorem X.tuple {d : D} {xs : List α} (hs : Sq d (xs.map e)) (ha : XB cs a env (some d)) : X cs (.bi .tuple (.cons a .nil)) env (some (eT e xs)) := .bi1 (rv := .d (.tup (xs.map e))) ha (fun v k => by
  obtain ⟨t, hq⟩ := k.sq hs
  show (match v.seq with | some (_, ds) => some (Rv.d (.tup ds)) | none => none) = _
  rw [hq]) rfl
/-! displays, arguments -/
def Xs (cs : Cs) (es : Exs) (env : Fr) (ds : List D) : Prop := ∀ m, evXs cs es env m = .ok ds m
theorem Xs.nil : Xs cs .nil env [] := fun _ => rfl
theorem Xs.cons {es : Exs} {d : D} {ds : List D} (h : X cs a env (some d)) (k : Xs cs es env ds) : Xs cs (.cons a es) env (d :: ds) := fun m => by
  show (Ev.asD _).bind _ = _
  rw [h.asD, R.bind_ok, k]
  rfl
theorem X.tup {es : Exs} {ds : List D} (h : Xs cs es env ds) : X cs (.tup es) env (some (.tup ds)) := fun m d hd => by
  cases hd
  refine ⟨.d (.tup ds), ?_, rfl⟩
  show (evXs cs es env m).bind _ = _
  rw [h]
  rfl
theorem XF.lst {es : Exs} {ds : List D} (h : Xs cs es env ds) : XF cs (.lst es) env (some ds) := fun m d hd => by
  cases hd
  show (evXs cs es env m).bind _ = _
  rw [h]
  rfl
def As (cs : Cs) (es : Exs) (env : Fr) (as : List Ar) : Prop := ∀ m, evAs cs es env m = .ok as m
theorem As.nil : As cs .nil env [] := fun _ => rfl
theorem As.cons {es : Exs} {d : D} {as : List Ar} (h : X cs a env (some d)) (k : As cs es env as) : As cs (.cons a es) env (.d d :: as) := fun m => by
  have e1 : (match varOf a with | some i => slotAr env i m | none => (evX cs a env m).bind argOf) = .ok (.d d) m := by
    obtain ⟨rv, h1, h2⟩ := h m d rfl
    cases q : varOf a with
    | none =>
      show (evX cs a env m).bind _ = _
      rw [h1, R.bind_ok]
      cases rv with
      | d x => cases h2; rfl
      | f c => cases c with
        | lst ds => cases h2; rfl
        | _ => cases h2
    | some i =>
      have ha := varOf_some q
      subst ha
      have e1 : evX cs (.var i) env m = match env[i]? with | some (.val d) => R.ok (Rv.d d) m | _ => .bad := rfl
      rw [e1] at h1
      show slotAr env i m = _
      unfold slotAr
      split at h1
      · rename_i d' hd
        cases h1
        cases h2
        rw [hd]
      · cases h1
  have e2 : ∀ r : R Ar, r = .ok (.d d) m → (r.bind fun a m1 => (evAs cs es env m1).bind fun as m2 => R.ok (a :: as) m2) = .ok (.d d :: as) m := fun r hr => by
    rw [hr, R.bind_ok, k]
    rfl
  exact e2 _ e1
/-- a call gives d -/
def Fk (cf : CF) (f : Nat) (as : List Ar) (o : Option D) : Prop := ∀ m d, o = some d → ∃ rv, cf f as m = .ok rv m ∧ rv.dat = some d
def FkF (cf : CF) (f : Nat) (as : List Ar) (o : Option (List D)) : Prop := ∀ m d, o = some d → cf f as m = .ok (.f (.lst d)) m
theorem X.call {es : Exs} {as : List Ar} {g : Nat} (h : As cs es env as) (k : Fk cs.f g as o) : X cs (.call g es) env o := fun m d hd => by
  obtain ⟨rv, e1, e2⟩ := k m d hd
  refine ⟨rv, ?_, e2⟩
  show (evAs cs es env m).bind _ = _
  rw [h, R.bind_ok, e1, R.bind_ok, List.take_length]
theorem XF.call {es : Exs} {as : List Ar} {g : Nat} {o : Option (List D)} (h : As cs es env as) (k : FkF cs.f g as o) : XF cs (.call g es) env o := fun m d hd => by
  show (evAs cs es env m).bind _ = _
  rw [h, R.bind_ok, k m d hd, R.bind_ok, List.take_length]
theorem FkF.fk {cf : CF} {as : List Ar} {g : Nat} {o : Option (List α)} (h : FkF cf g as (o.map (List.map e))) : Fk cf g as (o.map (eL e)) := fun m d hd => by
  cases o with
  | none => cases hd
  | some ds => cases hd; exact ⟨_, h m _ rfl, rfl⟩
/-! what is walked -/
def XI (cs : Cs) (it : It) (fz : Bool) (env : Fr) (ds : List D) : Prop := ∀ m, evI cs it fz env m = .ok ds m
/-- the numbers from i to j -/
def rangeZ (i j : Int) : List Int := (List.range (j - i).toNat).map fun (k : Nat) => i + (k : Int)
@[irreducible] def rngOk (i j : Int) : Bool := decide (-(2 ^ 62) ≤ i ∧ i < 2 ^ 62 ∧ -(2 ^ 62) ≤ j ∧ j < 2 ^ 62) && lenOk (j - i).toNat
theorem rangeZ_map (i j : Int) : (rangeZ i j).map eI = rangeL i (j - i).toNat := by
  unfold rangeZ rangeL
  rw [List.map_map]
  rfl
theorem rng_one {j : Int} (h : rngOk 0 j = true) : rngV [.int j] = some ((rangeZ 0 j).map eI) := by
  have h' := h
  unfold rngOk at h'
  simp only [Bool.and_eq_true, decide_eq_true_eq] at h'
  rw [rangeZ_map]
  rw [Int.sub_zero] at h' ⊢
  have q : (decide (-(2 ^ 62) ≤ j ∧ j < 2 ^ 62) && lenOk j.toNat) = true := by
    simp only [Bool.and_eq_true, decide_eq_true_eq]
    exact ⟨⟨h'.1.2.2.1, h'.1.2.2.2⟩, h'.2⟩
  exact if_pos q
theorem rng_two {i j : Int} (h : rngOk i j = true) : rngV [.int i, .int j] = some ((rangeZ i j).map eI) := by
  unfold rngOk at h
  rw [rangeZ_map]
  unfold rngV
  exact if_pos h
theorem XI.rng1 {fz : Bool} {j : Int} (h : rngOk 0 j = true) (ha : X cs a env (some (eI j))) : XI cs (.rng (.cons a .nil)) fz env ((rangeZ 0 j).map eI) := fun m => by
  show (evXs cs (.cons a .nil) env m).bind _ = _
  rw [Xs.cons ha Xs.nil m, R.bind_ok, rng_one h]
  rfl
theorem XI.rng2 {fz : Bool} {i j : Int} (h : rngOk i j = true) (ha : X cs a env (some (eI i))) (hb : X cs b env (some (eI j))) : XI cs (.rng (.cons a (.cons b .nil))) fz env ((rangeZ i j).map eI) := fun m => by
  show (evXs cs (.cons a (.cons b .nil)) env m).bind _ = _
  rw [Xs.cons ha (Xs.cons hb Xs.nil) m, R.bind_ok, rng_two h]
  rfl
theorem XI.seq {d : D} {ds : List D} (hs : Sq d ds) (ha : XB cs a env (some d)) : XI cs (.seq a) false env ds := fun m => by
  obtain ⟨v, e1, k1⟩ := ha m _ rfl
  obtain ⟨t, hq⟩ := k1.sq hs
  show (bor _ _ _ _).bind _ = _
  rw [e1, R.bind_ok, hq]
  rfl
theorem XI.seqZ {d : D} {ds : List D} (hs : Sq d ds) (ha : X cs a env (some d)) : XI cs (.seq a) true env ds := fun m => by
  obtain ⟨rv, e1, e2⟩ := ha m _ rfl
  show ((evX cs a env m).bind fun v m1 => (Ev.opt v.dat m1).bind fun d m2 => R.ok (Vw.d d) m2).bind _ = _
  rw [e1, R.bind_ok, e2, opt_some, R.bind_ok, R.bind_ok]
  rcases hs with rfl | rfl <;> rfl
theorem XI.rvs {d : D} {xs : List α} (hs : Sq d (xs.map e)) (ha : XB cs a env (some d)) : XI cs (.rvs a) false env (xs.reverse.map e) := fun m => by
  obtain ⟨v, e1, k1⟩ := ha m _ rfl
  obtain ⟨t, hq⟩ := k1.sq hs
  show (bor _ _ _ _).bind _ = _
  rw [e1, R.bind_ok, hq, List.map_reverse]
  rfl
theorem XI.rvsZ {d : D} {xs : List α} (hs : Sq d (xs.map e)) (ha : X cs a env (some d)) : XI cs (.rvs a) true env (xs.reverse.map e) := fun m => by
  obtain ⟨rv, e1, e2⟩ := ha m _ rfl
  show ((evX cs a env m).bind fun v m1 => (Ev.opt v.dat m1).bind fun d m2 => R.ok (Vw.d d) m2).bind _ = _
  rw [e1, R.bind_ok, e2, opt_some, R.bind_ok, R.bind_ok, List.map_reverse]
  rcases hs with rfl | rfl <;> rfl
/-! comprehensions -/
def mapZ (g : α → β) (xs : List α) : Option (List β) := gd (lenOk xs.length) (xs.map g)
def filtZ (c : α → Bool) (g : α → β) (xs : List α) : Option (List β) := gd (lenOk (xs.filter c).length) ((xs.filter c).map g)
/-- the loop of a comprehension whose parts may fail -/
def lcM (h : α → Option (List β)) : List α → Option (List β)
  | [] => some []
  | x :: xs => (h x).bind fun ys => (lcM h xs).bind fun zs => some (ys ++ zs)
def lenZ (o : Option (List β)) : Option (List β) := o.bind fun ys => gd (lenOk ys.length) ys
def oneO (c : Option Bool) (g : Option β) : Option (List β) := c.bind fun t => if t = true then g.map fun y => [y] else some []
theorem lcLoop_O {fn : D → Mem → R (List D)} {h : α → Option (List β)} {m : Mem} (k : ∀ x ys, h x = some ys → fn (e x) m = .ok (ys.map f) m) : ∀ (xs : List α) (ys : List β), lcM h xs = some ys → lcLoop fn (xs.map e) m = .ok (ys.map f) m
  | [], ys, q => by cases q; rfl
  | x :: xs, ys, q => by
    unfold lcM at q
    obtain ⟨u, q1, q2⟩ := Option.bind_eq_some_iff.mp q
    obtain ⟨v, q3, q4⟩ := Option.bind_eq_some_iff.mp q2
    cases q4
    show (fn (e x) m).bind _ = _
    rw [k x u q1, R.bind_ok]
    show (lcLoop fn (xs.map e) m).bind _ = _
    rw [lcLoop_O k xs v q3, R.bind_ok, List.map_append]
/-- a condition of a clause -/
def XC (cs : Cs) (a : Ex) (env : Fr) (o : Option Bool) : Prop := ∀ m t, o = some t → condE (isNo a) m (evX cs a env m) = .ok t m
theorem XC.no : XC cs .no env (some true) := fun _ _ h => by cases h; rfl
theorem XC.x {u : Option Bool} (h : X cs a env (u.map eB)) : XC cs a env u := fun m t hu => by
  subst hu
  rw [isNo_x h]
  exact X.asB h m
/-- one turn of a comprehension -/
theorem turn_O {tg : Tg} {cd elt : Ex} {env1 : Fr} {x : D} {u : Option Bool} {g : Option β} {m : Mem} (ht : setTg tg x env = some env1) (hc : XC cs cd env1 u) (hg : u = some true → X cs elt env1 (g.map f)) {ys : List β} (q : oneO u g = some ys) :
    ((Ev.opt (setTg tg x env) m).bind fun env1 m3 => (condE (isNo cd) m3 (evX cs cd env1 m3)).bind fun t m4 => if t then (asD (evX cs elt env1 m4)).bind fun y m5 => R.ok [y] m5 else R.ok [] m4) = .ok (ys.map f) m := by
  rw [ht, opt_some, R.bind_ok]
  cases u with
  | none => cases q
  | some t =>
    rw [hc m t rfl, R.bind_ok]
    cases t with
    | false => cases q; rfl
    | true =>
      cases g with
      | none => cases q
      | some y =>
        cases q
        have := X.asD (hg rfl) m
        show (Ev.asD _).bind _ = _
        rw [this]
        rfl
theorem XF.lcO {tg : Tg} {it : It} {cd elt : Ex} {xs : List α} {u : α → Option Bool} {g : α → Option β} {env1 : α → Fr} (hi : XI cs it false env (xs.map e)) (ht : ∀ x, setTg tg (e x) env = some (env1 x)) (hc : ∀ x, XC cs cd (env1 x) (u x)) (hg : ∀ x, u x = some true → X cs elt (env1 x) ((g x).map f)) :
    XF cs (.lc tg it cd elt) env ((lenZ (lcM (fun x => oneO (u x) (g x)) xs)).map (List.map f)) := fun m d hd => by
  obtain ⟨ys, q1, rfl⟩ := Option.map_eq_some_iff.mp hd
  unfold lenZ at q1
  obtain ⟨zs, q2, q3⟩ := Option.bind_eq_some_iff.mp q1
  unfold gd at q3
  split at q3
  · rename_i hl
    cases q3
    show (evI cs it false env m).bind _ = _
    rw [hi, R.bind_ok, lcLoop_O (f := f) (fun x zs q => turn_O (ht x) (hc x) (hg x) q) xs _ q2, R.bind_ok, List.length_map, if_pos hl]
  · cases q3
theorem lcO_total (c : α → Bool) (g : α → β) : ∀ xs : List α, lcM (fun x => oneO (some (c x)) (some (g x))) xs = some ((xs.filter c).map g)
  | [] => rfl
  | x :: xs => by
    unfold lcM
    rw [lcO_total c g xs]
    cases h : c x <;> simp [oneO, List.filter_cons, h]
theorem XF.map {tg : Tg} {it : It} {elt : Ex} {xs : List α} {g : α → β} {env1 : α → Fr} (hi : XI cs it false env (xs.map e)) (ht : ∀ x, setTg tg (e x) env = some (env1 x)) (hg : ∀ x, X cs elt (env1 x) (some (f (g x)))) :
    XF cs (.lc tg it .no elt) env ((mapZ g xs).map (List.map f)) := by
  have := XF.lcO (f := f) (g := fun x => some (g x)) hi ht (fun x => XC.no) (fun x _ => hg x)
  rw [lcO_total (fun _ => true) g xs] at this
  have hf : xs.filter (fun _ => true) = xs := List.filter_eq_self.mpr fun _ _ => rfl
  have hz : lenZ (some (xs.map g)) = mapZ g xs := by show gd (lenOk (xs.map g).length) _ = _; rw [List.length_map]; rfl
  rw [hf, hz] at this
  exact this
theorem XF.filt {tg : Tg} {it : It} {cd elt : Ex} {xs : List α} {c : α → Bool} {g : α → β} {env1 : α → Fr} (hi : XI cs it false env (xs.map e)) (ht : ∀ x, setTg tg (e x) env = some (env1 x)) (hc : ∀ x, X cs cd (env1 x) (some (eB (c x)))) (hg : ∀ x, X cs elt (env1 x) (some (f (g x)))) :
    XF cs (.lc tg it cd elt) env ((filtZ c g xs).map (List.map f)) := by
  have := XF.lcO (f := f) (u := fun x => some (c x)) (g := fun x => some (g x)) hi ht (fun x => XC.x (hc x)) (fun x _ => hg x)
  have hz : lenZ (some ((xs.filter c).map g)) = filtZ c g xs := by show gd (lenOk ((xs.filter c).map g).length) _ = _; rw [List.length_map]; rfl
  rw [lcO_total c g xs, hz] at this
  exact this
/-- two clauses -/
theorem XF.lc2O {tg tg2 : Tg} {it it2 : It} {cd cd2 elt : Ex} {γ : Type} {e2 : γ → D} {xs : List α} {u : α → Option Bool} {ys : α → Option (List γ)} {u2 : α → γ → Option Bool} {g : α → γ → Option β} {env1 : α → Fr} {env2 : α → γ → Fr}
    (hi : XI cs it false env (xs.map e)) (ht : ∀ x, setTg tg (e x) (wipe env tg2.is) = some (env1 x)) (hc : ∀ x, XC cs cd (env1 x) (u x)) (hi2 : ∀ x zs, u x = some true → ys x = some zs → XI cs it2 true (env1 x) (zs.map e2)) (ht2 : ∀ x y, setTg tg2 (e2 y) (env1 x) = some (env2 x y))
    (hc2 : ∀ x y, XC cs cd2 (env2 x y) (u2 x y)) (hg : ∀ x y, u2 x y = some true → X cs elt (env2 x y) ((g x y).map f)) :
    XF cs (.lc2 tg it cd tg2 it2 cd2 elt) env ((lenZ (lcM (fun x => (u x).bind fun t => if t = true then (ys x).bind fun zs => lcM (fun y => oneO (u2 x y) (g x y)) zs else some []) xs)).map (List.map f)) := fun m d hd => by
  obtain ⟨ws, q1, rfl⟩ := Option.map_eq_some_iff.mp hd
  unfold lenZ at q1
  obtain ⟨zs, q2, q3⟩ := Option.bind_eq_some_iff.mp q1
  unfold gd at q3
  split at q3
  · rename_i hl
    cases q3
    show (evI cs it false env m).bind _ = _
    rw [hi, R.bind_ok, lcLoop_O (f := f) (fun x zs q => ?_) xs _ q2, R.bind_ok, List.length_map, if_pos hl]
    rw [ht x, opt_some, R.bind_ok]
    obtain ⟨t, q4, q5⟩ := Option.bind_eq_some_iff.mp q
    rw [hc x m t q4, R.bind_ok]
    cases t with
    | false => cases q5; rfl
    | true =>
      rw [if_pos rfl] at q5 ⊢
      obtain ⟨vs, q6, q7⟩ := Option.bind_eq_some_iff.mp q5
      rw [hi2 x vs q4 q6, R.bind_ok]
      exact lcLoop_O (f := f) (fun y ws q => turn_O (ht2 x y) (hc2 x y) (hg x y) q) vs _ q7
  · cases q3
/-! + of lists and tuples, * -/
def catZ (xs ys : List α) : Option (List α) := gd (lenOk (xs.length + ys.length)) (xs ++ ys)
theorem X.catT {xs ys : List α} (ha : XB cs a env (some (eT e xs))) (hb : XB cs b env (some (eT e ys))) : X cs (.bin .add a b) env ((catZ xs ys).map (eT e)) := fun m d hd => by
  unfold catZ gd at hd
  split at hd
  · rename_i hl
    exact X.bin (rv := .d (eT e (xs ++ ys))) ha hb (fun v w k l => by
      rw [k.tup, l.tup]
      show (if lenOk ((xs.map e).length + (ys.map e).length) = true then some (Rv.d (.tup (xs.map e ++ ys.map e))) else none) = _
      rw [List.length_map, List.length_map, if_pos hl, ← List.map_append]) rfl m d hd
  · cases hd
theorem XF.cat {xs ys : List α} (ha : XB cs a env (some (eL e xs))) (hb : XB cs b env (some (eL e ys))) : XF cs (.bin .add a b) env ((catZ xs ys).map (List.map e)) := fun m d hd => by
  unfold catZ gd at hd
  split at hd
  · rename_i hl
    cases hd
    obtain ⟨v, e1, k1⟩ := ha m _ rfl
    obtain ⟨w, e2, k2⟩ := hb m _ rfl
    show (bor _ _ _ _).bind _ = _
    rw [e1, R.bind_ok, e2, R.bind_ok, k1.at, k2.at]
    have : binV .add v w = some (.f (.lst ((xs ++ ys).map e))) := by
      rw [List.map_append]
      have hl' : lenOk ((xs.map e).length + (ys.map e).length) = true := by rw [List.length_map, List.length_map]; exact hl
      rcases k1 with rfl | ⟨d1, rfl, h1⟩ <;> rcases k2 with rfl | ⟨d2, rfl, h2⟩
      · show (if lenOk ((xs.map e).length + (ys.map e).length) = true then some (Rv.f (.lst (xs.map e ++ ys.map e))) else none) = _
        rw [if_pos hl']
      · cases h2
        show (if lenOk ((xs.map e).length + (ys.map e).length) = true then some (Rv.f (.lst (xs.map e ++ ys.map e))) else none) = _
        rw [if_pos hl']
      · cases h1
        show (if lenOk ((xs.map e).length + (ys.map e).length) = true then some (Rv.f (.lst (xs.map e ++ ys.map e))) else none) = _
        rw [if_pos hl']
      · cases h1
        cases h2
        show (if lenOk ((xs.map e).length + (ys.map e).length) = true then some (Rv.f (.lst (xs.map e ++ ys.map e))) else none) = _
        rw [if_pos hl']
    rw [this]
    rfl
  · cases hd
/-! in -/
theorem any_map [DecidableEq α] {n : Nat} (h : Eqv e n) (x : α) : ∀ xs : List α, ((xs.map e).any fun y => D.beq y (e x)) = decide (x ∈ xs)
  | [] => rfl
  | y :: ys => by
    show (D.beq (e y) (e x) || (ys.map e).any fun y => D.beq y (e x)) = _
    rw [any_map h x ys, h.eq]
    by_cases h1 : x = y
    · subst h1; simp
    · have h2 : ¬ y = x := fun z => h1 z.symm
      simp [h1, h2]
theorem inD_sq [DecidableEq α] {n : Nat} (h : Eqv e n) (hn : n ≤ 16) {d : D} {x : α} {xs : List α} (hs : Sq d (xs.map e)) {v w : Vw} (k1 : v = .d (e x)) (k2 : vOk w d) : cmpD.inD v w = some (decide (x ∈ xs)) := by
  obtain ⟨t, hq⟩ := k2.sq hs
  subst k1
  unfold cmpD.inD
  simp only [hq]
  have h1 : okD (e x) = true := h.ok x 16 hn
  rw [h1, oks_map h hn xs, any_map h x xs]
  rfl
theorem X.isin [DecidableEq α] {n : Nat} (h : Eqv e n) (hn : n ≤ 16 := by decide) {d : D} {x : α} {xs : List α} (hs : Sq d (xs.map e)) (hx : ∀ v, vOk v (e x) → v = .d (e x)) [dd : Decidable (x ∈ xs)] (ha : XB cs a env (some (e x))) (hb : XB cs b env (some d)) : X cs (.cmp .isin a b) env (some (eB (decide (x ∈ xs)))) :=
  .cmp ha hb fun v w k1 k2 => by
    show cmpD.inD v w = _
    rw [inD_sq h hn hs (hx v k1) k2]
    by_cases q : x ∈ xs <;> simp [q]
theorem X.notin [DecidableEq α] {n : Nat} (h : Eqv e n) (hn : n ≤ 16 := by decide) {d : D} {x : α} {xs : List α} (hs : Sq d (xs.map e)) (hx : ∀ v, vOk v (e x) → v = .d (e x)) [dd : Decidable (x ∉ xs)] (ha : XB cs a env (some (e x))) (hb : XB cs b env (some d)) : X cs (.cmp .notin a b) env (some (eB (decide (x ∉ xs)))) :=
  .cmp ha hb fun v w k1 k2 => by
    show (cmpD.inD v w).map (!·) = _
    rw [inD_sq h hn hs (hx v k1) k2]
    by_cases q : x ∈ xs <;> simp [q]
/-! None -/
theorem X.isN {u : Option α} (hx : ∀ x, (e x).isNon = false) (hv : ∀ x v, vOk v (e x) → v = .d (e x)) (ha : XB cs a env (some (eO e u))) : X cs (.cmp .isN a .non) env (some (eB u.isNone)) := .cmp ha (X.bo X.non) fun v w k1 k2 => by
  have hw : w = .d .non := by rcases k2 with rfl | ⟨_, _, q⟩; rfl; cases q
  subst hw
  cases u with
  | none =>
    have hv : v = .d .non := by rcases k1 with rfl | ⟨_, _, q⟩; rfl; cases q
    subst hv
    rfl
  | some x =>
    have := hv x v k1
    subst this
    show some (e x).isNon = _
    rw [hx x]
    rfl
theorem X.notN {u : Option α} (hx : ∀ x, (e x).isNon = false) (hv : ∀ x v, vOk v (e x) → v = .d (e x)) (ha : XB cs a env (some (eO e u))) : X cs (.cmp .notN a .non) env (some (eB u.isSome)) := .cmp ha (X.bo X.non) fun v w k1 k2 => by
  have hw : w = .d .non := by rcases k2 with rfl | ⟨_, _, q⟩; rfl; cases q
  subst hw
  cases u with
  | none =>
    have hv : v = .d .non := by rcases k1 with rfl | ⟨_, _, q⟩; rfl; cases q
    subst hv
    rfl
  | some x =>
    have := hv x v k1
    subst this
    show some (!(e x).isNon) = _
    rw [hx x]
    rfl
end
end Ev

set_option linter.all false
set_option maxRecDepth 100000
/-! Sg2: statements. -/
namespace Ev
open PySem
open L2 (ixN)
open HT (sIx lexLt)
/-- statements end as q says -/
def W (cs : Cs) (ss : Sts) (env : Fr) {β : Type} (o : Option β) (q : β → Out → Prop) : Prop := ∀ m b, o = some b → ∃ out, evSs cs ss env m = .ok out m ∧ q b out
/-- a def's end: a value; a list of its own; nothing -/
def qR {α : Type} (e : α → D) (r : α) (out : Out) : Prop := (∃ rv, out = .ret rv ∧ rv.dat = some (e r)) ∨ (e r = .non ∧ ∃ e1, out = .nx e1)
def qF {α : Type} (e : α → D) (r : List α) (out : Out) : Prop := out = .ret (.f (.lst (r.map e)))
/-- a block's end -/
def qN {σ : Type} (enc : σ → Fr) (s : σ) (out : Out) : Prop := out = .nx (enc s)
/-- how a loop's turn ends -/
inductive Lp (σ ρ : Type) where
  | nx (s : σ) | brk (s : σ) | ret (r : ρ)
def lpK {σ ρ β : Type} (k : σ → Option β) (kr : ρ → β) : Lp σ ρ → Option β
  | .nx s => k s
  | .brk s => k s
  | .ret r => some (kr r)
def qL {σ ρ : Type} (enc : σ → Fr) (q : ρ → Out → Prop) : Lp σ ρ → Out → Prop
  | .nx s, out => out = .nx (enc s) ∨ out = .ct (enc s)
  | .brk s, out => out = .brk (enc s)
  | .ret r, out => q r out ∧ ∃ rv, out = .ret rv
def stApp : Sts → Sts → Sts
  | .nil, b => b
  | .cons s a, b => .cons s (stApp a b)
section
variable {cs : Cs} {a b c : Ex} {env : Fr} {α β γ σ ρ : Type} {e : α → D} {f : β → D} {o : Option β} {q : β → Out → Prop} {ss : Sts}
theorem W.bind {u : Option α} {k : α → Option β} (h : ∀ x, u = some x → W cs ss env (k x) q) : W cs ss env (u.bind k) q := fun m d hd => by
  cases u with
  | none => cases hd
  | some x => exact h x rfl m d hd
theorem X.mbind {γ : Type} {u : Option γ} {k : γ → Option α} (h : ∀ x, u = some x → X cs a env ((k x).map e)) : X cs a env ((u.bind k).map e) := fun m d hd => by
  cases u with
  | none => cases hd
  | some x => exact h x rfl m d hd
theorem evSs_cons (s : St) (m : Mem) : evSs cs (.cons s ss) env m = (evS cs s env m).bind fun o m1 => match o with | .nx e => evSs cs ss e m1 | o => .ok o m1 := rfl
theorem W.step {s : St} {env1 : Fr} (h : ∀ m, evS cs s env m = .ok (.nx env1) m) (k : W cs ss env1 o q) : W cs (.cons s ss) env o q := fun m r hr => by
  obtain ⟨out, e1, e2⟩ := k m r hr
  exact ⟨out, by rw [evSs_cons, h, R.bind_ok]; exact e1, e2⟩
theorem W.nil {x : β} (h : q x (.nx env)) : W cs .nil env (some x) q := fun m r hr => by cases hr; exact ⟨_, rfl, h⟩
theorem W.asg {i : Nat} {d : D} {env1 : Fr} (hx : X cs a env (some d)) (he : env.set i (.val d) = env1) (k : W cs ss env1 o q) : W cs (.cons (.asg i a) ss) env o q :=
  .step (fun m => by show (Ev.asD _).bind _ = _; rw [hx.asD, ← he]; rfl) k
theorem W.asgO {i : Nat} {ds : List D} {env1 : Fr} (hx : XF cs a env (some ds)) (he : env.set i (.own (.lst ds)) = env1) (k : W cs ss env1 o q) : W cs (.cons (.asgO i a) ss) env o q :=
  .step (fun m => by show (Ev.asF _).bind _ = _; rw [hx.asF, ← he]; rfl) k
theorem W.asgT {is : List Nat} {d : D} {env1 : Fr} (hx : X cs a env (some d)) (ht : setTg (.many is) d env = some env1) (k : W cs ss env1 o q) : W cs (.cons (.asgT is a) ss) env o q :=
  .step (fun m => by show (Ev.asD _).bind _ = _; rw [hx.asD, R.bind_ok, ht]; rfl) k
theorem W.fgt {i : Nat} {env1 : Fr} (he : env.set i .un = env1) (k : W cs ss env1 o q) : W cs (.cons (.fgt i) ss) env o q := .step (fun m => by rw [← he]; rfl) k
theorem W.frz {i : Nat} {ds : List D} {env1 : Fr} (h : env[i]? = some (.own (.lst ds))) (he : env.set i (.val (.lst ds)) = env1) (k : W cs ss env1 o q) : W cs (.cons (.frz i) ss) env o q :=
  .step (fun m => by show frzE env i m = _; unfold frzE; rw [h, ← he]) k
theorem W.frzV {i : Nat} {d : D} (h : env[i]? = some (.val d)) (k : W cs ss env o q) : W cs (.cons (.frz i) ss) env o q :=
  .step (fun m => by show frzE env i m = _; unfold frzE; rw [h]) k
theorem W.pass (k : W cs ss env o q) : W cs (.cons .pass ss) env o q := .step (fun m => rfl) k
theorem W.ex {d : D} (hx : X cs a env (some d)) (k : W cs ss env o q) : W cs (.cons (.ex a) ss) env o q := .step (fun m => by
  obtain ⟨rv, h1, _⟩ := hx m d rfl
  show (evX cs a env m).bind _ = _
  rw [h1]; rfl) k
theorem W.augAdd {i : Nat} {x y : Int} {env1 : Fr} (h : env[i]? = some (.val (eI x))) (hx : X cs a env (some (eI y))) (he : env.set i (.val (eI (x + y))) = env1) (k : W cs ss env1 o q) : W cs (.cons (.aug .add i a) ss) env o q :=
  .step (fun m => by
    show (match env[i]? with | some (.val x) => (Ev.asD (evX cs a env m)).bind fun y m1 => (opt (augV .add x y) m1).bind fun z m2 => R.ok (Out.nx (env.set i (.val z))) m2 | _ => .bad) = _
    rw [h]
    show (Ev.asD (evX cs a env m)).bind _ = _
    rw [hx.asD, ← he]; rfl) k
theorem W.augSub {i : Nat} {x y : Int} {env1 : Fr} (h : env[i]? = some (.val (eI x))) (hx : X cs a env (some (eI y))) (he : env.set i (.val (eI (x - y))) = env1) (k : W cs ss env1 o q) : W cs (.cons (.aug .sub i a) ss) env o q :=
  .step (fun m => by
    show (match env[i]? with | some (.val x) => (Ev.asD (evX cs a env m)).bind fun y m1 => (opt (augV .sub x y) m1).bind fun z m2 => R.ok (Out.nx (env.set i (.val z))) m2 | _ => .bad) = _
    rw [h]
    show (Ev.asD (evX cs a env m)).bind _ = _
    rw [hx.asD, ← he]; rfl) k
/-- one more at the end -/
def snocZ (xs : List α) (x : α) : Option (List α) := gd (decide (xs.length < line)) (xs ++ [x])
theorem W.app {i : Nat} {xs : List α} {x : α} {k : List α → Option β} {env1 : List α → Fr} (h : env[i]? = some (.own (.lst (xs.map e)))) (hx : X cs a env (some (e x))) (he : ∀ ys, env.set i (.own (.lst (ys.map e))) = env1 ys) (kk : ∀ ys, snocZ xs x = some ys → W cs ss (env1 ys) (k ys) q) :
    W cs (.cons (.app i a) ss) env ((snocZ xs x).bind k) q := .bind fun ys hy => .step (fun m => by
  have hg : getC env m i = some (.lst (xs.map e)) := by unfold getC; rw [h]
  show (match getC env m i with
      | some (.lst _) => (Ev.asD (evX cs a env m)).bind fun x m1 => (opt ((getC env m1 i).bind fun c => match c with | .lst ds => if decide (ds.length < line) then putC env m1 i (.lst (ds ++ [x])) else none | _ => none) m1).bind fun p _ => R.ok (Out.nx p.1) p.2
      | _ => .bad) = _
  rw [hg]
  show (Ev.asD (evX cs a env m)).bind _ = _
  rw [hx.asD, R.bind_ok, hg]
  unfold snocZ gd at hy
  split at hy
  · rename_i hl
    cases hy
    show (opt (if decide ((xs.map e).length < line) = true then putC env m i (.lst (xs.map e ++ [e x])) else none) m).bind _ = _
    rw [List.length_map, if_pos hl]
    unfold putC
    rw [h, ← he, List.map_append]
    rfl
  · cases hy) (kk ys hy)
theorem W.setI {i : Nat} {xs : List α} {x : α} {n : Int} {k : List α → Option β} {env1 : List α → Fr} (h : env[i]? = some (.own (.lst (xs.map e)))) (hx : X cs b env (some (e x))) (hn : X cs a env (some (eI n))) (he : ∀ ys, env.set i (.own (.lst (ys.map e))) = env1 ys)
    (kk : ∀ j, ixN xs.length n = some j → W cs ss (env1 (xs.set j x)) (k (xs.set j x)) q) : W cs (.cons (.setI i a b) ss) env ((ixN xs.length n).bind fun j => k (xs.set j x)) q := .bind fun j hj => .step (fun m => by
  have hg : getC env m i = some (.lst (xs.map e)) := by unfold getC; rw [h]
  show (Ev.asD (evX cs b env m)).bind _ = _
  rw [hx.asD, R.bind_ok, hn.asD, R.bind_ok, hg]
  have hs : setC (.lst (xs.map e)) (eI n) (e x) = some (.lst ((xs.set j x).map e)) := by
    show (ixN (xs.map e).length n).map _ = _
    rw [List.length_map, hj, List.map_set]
    rfl
  show (opt ((setC (.lst (xs.map e)) (eI n) (e x)).bind fun c' => putC env m i c') m).bind _ = _
  rw [hs]
  show (opt (putC env m i (.lst ((xs.set j x).map e))) m).bind _ = _
  unfold putC
  rw [h, ← he]
  rfl) (kk j hj)
theorem W.ret {x : β} {d : D} (hx : X cs a env (some d)) (h : ∀ rv, rv.dat = some d → q x (.ret rv)) : W cs (.cons (.ret a) ss) env (some x) q := fun m r hr => by
  cases hr
  refine ⟨.ret (.d d), ?_, h _ rfl⟩
  rw [evSs_cons]
  show ((Ev.asD (evX cs a env m)).bind _).bind _ = _
  rw [hx.asD]
  rfl
theorem W.retO {x : β} {ds : List D} (hx : XF cs a env (some ds)) (h : q x (.ret (.f (.lst ds)))) : W cs (.cons (.retO a) ss) env (some x) q := fun m r hr => by
  cases hr
  refine ⟨.ret (.f (.lst ds)), ?_, h⟩
  rw [evSs_cons]
  show ((Ev.asF (evX cs a env m)).bind _).bind _ = _
  rw [hx.asF]
  rfl
theorem W.retN {x : β} (h : q x (.ret (.d .non))) : W cs (.cons .retN ss) env (some x) q := fun m r hr => by cases hr; exact ⟨_, rfl, h⟩
theorem W.brk {x : β} (h : q x (.brk env)) : W cs (.cons .brk ss) env (some x) q := fun m r hr => by cases hr; exact ⟨_, rfl, h⟩
theorem W.cont {x : β} (h : q x (.ct env)) : W cs (.cons .cont ss) env (some x) q := fun m r hr => by cases hr; exact ⟨_, rfl, h⟩
theorem evSs_app {ss2 : Sts} : ∀ (ss1 : Sts) (env : Fr) (m : Mem), evSs cs (stApp ss1 ss2) env m = (evSs cs ss1 env m).bind fun o m1 => match o with | .nx e => evSs cs ss2 e m1 | o => .ok o m1
  | .nil, env, m => rfl
  | .cons s ss1, env, m => by
    show (evS cs s env m).bind _ = _
    rw [evSs_cons]
    cases h : evS cs s env m with
    | bad => rfl
    | exc e m1 => rfl
    | ok o m1 =>
      rw [R.bind_ok, R.bind_ok]
      cases o with
      | nx e1 => exact evSs_app ss1 e1 m1
      | ret v => rfl
      | brk v => rfl
      | ct v => rfl
/-- if, each way on to the rest -/
theorem W.ite {t : Bool} {sa sb : Sts} {o1 o2 : Option β} (hc : X cs c env (some (eB t))) (ha : t = true → W cs (stApp sa ss) env o1 q) (hb : t = false → W cs (stApp sb ss) env o2 q) : W cs (.cons (.ite c sa sb) ss) env (if t = true then o1 else o2) q := fun m r hr => by
  have e0 : evSs cs (.cons (.ite c sa sb) ss) env m = ((Ev.asB (evX cs c env m)).bind fun t m1 => if t then evSs cs sa env m1 else evSs cs sb env m1).bind fun o m1 => match o with | .nx e => evSs cs ss e m1 | o => .ok o m1 := rfl
  cases t with
  | true =>
    obtain ⟨out, e1, e2⟩ := ha rfl m r hr
    refine ⟨out, ?_, e2⟩
    rw [e0, hc.asB, R.bind_ok, if_pos rfl, ← evSs_app]
    exact e1
  | false =>
    obtain ⟨out, e1, e2⟩ := hb rfl m r hr
    refine ⟨out, ?_, e2⟩
    rw [e0, hc.asB, R.bind_ok, if_neg Bool.false_ne_true, ← evSs_app]
    exact e1
/-- if, whose ways meet again -/
theorem W.join {t : Bool} {sa sb : Sts} {enc : σ → Fr} {o1 o2 : Option σ} {k : σ → Option β} (hc : X cs c env (some (eB t))) (ha : t = true → W cs sa env o1 (qN enc)) (hb : t = false → W cs sb env o2 (qN enc)) (hk : ∀ s, W cs ss (enc s) (k s) q) :
    W cs (.cons (.ite c sa sb) ss) env ((if t = true then o1 else o2).bind k) q := fun m r hr => by
  have e0 : evSs cs (.cons (.ite c sa sb) ss) env m = ((Ev.asB (evX cs c env m)).bind fun t m1 => if t then evSs cs sa env m1 else evSs cs sb env m1).bind fun o m1 => match o with | .nx e => evSs cs ss e m1 | o => .ok o m1 := rfl
  obtain ⟨s, h1, h2⟩ := Option.bind_eq_some_iff.mp hr
  obtain ⟨out, e1, e2⟩ := hk s m r h2
  refine ⟨out, ?_, e2⟩
  cases t with
  | true =>
    obtain ⟨o3, e3, e4⟩ := ha rfl m s h1
    cases e4
    rw [e0, hc.asB, R.bind_ok, if_pos rfl, e3]
    exact e1
  | false =>
    obtain ⟨o3, e3, e4⟩ := hb rfl m s h1
    cases e4
    rw [e0, hc.asB, R.bind_ok, if_neg Bool.false_ne_true, e3]
    exact e1
/-- the same where nothing fails -/
theorem W.joinT {t : Bool} {sa sb : Sts} {enc : σ → Fr} {s1 s2 : σ} {k : σ → Option β} (hc : X cs c env (some (eB t))) (ha : t = true → W cs sa env (some s1) (qN enc)) (hb : t = false → W cs sb env (some s2) (qN enc)) (hk : ∀ s, W cs ss (enc s) (k s) q) :
    W cs (.cons (.ite c sa sb) ss) env (k (if t = true then s1 else s2)) q := by
  have := W.join (o1 := some s1) (o2 := some s2) hc ha hb hk
  have e : (if t = true then some s1 else some s2 : Option σ).bind k = k (if t = true then s1 else s2) := by cases t <;> rfl
  rw [e] at this
  exact this
/-! how ends are told -/
theorem qR_ret {x : α} {rv : Rv} (h : rv.dat = some (e x)) : qR e x (.ret rv) := .inl ⟨rv, rfl, h⟩
theorem qR_nx {x : α} (h : e x = .non) : qR e x (.nx env) := .inr ⟨h, env, rfl⟩
theorem qN_nx {enc : σ → Fr} {s : σ} (h : env = enc s) : qN enc s (.nx env) := by rw [h]; rfl
theorem qL_nx {enc : σ → Fr} {qr : ρ → Out → Prop} {s : σ} (h : env = enc s) : qL enc qr (.nx s) (.nx env) := .inl (by rw [h])
theorem qL_ct {enc : σ → Fr} {qr : ρ → Out → Prop} {s : σ} (h : env = enc s) : qL enc qr (.nx s) (.ct env) := .inr (by rw [h])
theorem qL_brk {enc : σ → Fr} {qr : ρ → Out → Prop} {s : σ} (h : env = enc s) : qL enc qr (.brk s) (.brk env) := by rw [h]; rfl
theorem qL_ret {enc : σ → Fr} {qr : ρ → Out → Prop} {r : ρ} {rv : Rv} (h : qr r (.ret rv)) : qL enc qr (.ret r) (.ret rv) := ⟨h, rv, rfl⟩
/-! loops -/
def forO (g : α → σ → Option (Lp σ ρ)) : List α → σ → Option (Lp σ ρ)
  | [], s => some (.nx s)
  | x :: xs, s => (g x s).bind fun l => match l with
    | .nx s => forO g xs s
    | .brk s => some (.brk s)
    | .ret r => some (.ret r)
def foldO (g : α → σ → Option σ) : List α → σ → Option σ
  | [], s => some s
  | x :: xs, s => (g x s).bind fun s => foldO g xs s
theorem for_turns {fn : D → Fr → Mem → R Out} {enc : σ → Fr} {qr : ρ → Out → Prop} {g : α → σ → Option (Lp σ ρ)} {m : Mem} (h : ∀ x s l, g x s = some l → ∃ out, fn (e x) (enc s) m = .ok out m ∧ qL enc qr l out) : ∀ (xs : List α) (s : σ) (l : Lp σ ρ), forO g xs s = some l →
    ∃ out, forLoop fn (xs.map e) (enc s) m = .ok out m ∧ match l with | .nx s => out = .nx (enc s) | .brk s => out = .nx (enc s) | .ret r => qr r out ∧ ∃ rv, out = .ret rv
  | [], s, l, hl => by cases hl; exact ⟨_, rfl, rfl⟩
  | x :: xs, s, l, hl => by
    obtain ⟨l1, h1, h2⟩ := Option.bind_eq_some_iff.mp hl
    obtain ⟨out, e1, e2⟩ := h x s l1 h1
    have e0 : forLoop fn ((x :: xs).map e) (enc s) m = (fn (e x) (enc s) m).bind fun o m1 => match o with
      | .nx e1 => forLoop fn (xs.map e) e1 m1
      | .ct e1 => forLoop fn (xs.map e) e1 m1
      | .brk e => .ok (.nx e) m1
      | .ret v => .ok (.ret v) m1 := rfl
    rw [e0, e1, R.bind_ok]
    cases l1 with
    | nx s1 =>
      obtain ⟨out2, e3, e4⟩ := for_turns h xs s1 l h2
      rcases e2 with rfl | rfl <;> exact ⟨out2, e3, e4⟩
    | brk s1 =>
      cases h2
      have e2 : out = .brk (enc s1) := e2
      subst e2
      exact ⟨_, rfl, rfl⟩
    | ret r =>
      cases h2
      obtain ⟨e2, rv, rfl⟩ := e2
      exact ⟨_, rfl, e2, rv, rfl⟩
/-- a for -/
theorem W.for {tg : Tg} {it : It} {body : Sts} {enc : σ → Fr} {xs : List α} {env1 : α → σ → Fr} {g : α → σ → Option (Lp σ ρ)} {qr : ρ → Out → Prop} {s0 : σ} {k : σ → Option β} {kr : ρ → β}
    (hi : XI cs it true (enc s0) (xs.map e)) (ht : ∀ x s, setTg tg (e x) (enc s) = some (env1 x s)) (hb : ∀ x s, W cs body (env1 x s) (g x s) (qL enc qr)) (hr : ∀ r rv, qr r (.ret rv) → q (kr r) (.ret rv)) (hk : ∀ s, W cs ss (enc s) (k s) q) :
    W cs (.cons (.for tg it body) ss) (enc s0) ((forO g xs s0).bind (lpK k kr)) q := .bind fun l hl m r hr2 => by
  have e0 : evSs cs (.cons (.for tg it body) ss) (enc s0) m = ((evI cs it true (enc s0) m).bind fun xs m1 => forLoop (fun x e m2 => (opt (setTg tg x e) m2).bind fun e1 m3 => evSs cs body e1 m3) xs (enc s0) m1).bind fun o m1 => match o with | .nx e => evSs cs ss e m1 | o => .ok o m1 := rfl
  obtain ⟨out, e1, e2⟩ := for_turns (fn := fun x e m2 => (opt (setTg tg x e) m2).bind fun e1 m3 => evSs cs body e1 m3) (qr := qr) (m := m) (fun x s l h => by
    obtain ⟨out, e1, e2⟩ := hb x s m l h
    exact ⟨out, by rw [ht, opt_some, R.bind_ok]; exact e1, e2⟩) xs s0 l hl
  rw [e0, hi, R.bind_ok, e1, R.bind_ok]
  cases l with
  | nx s =>
    have e2 : out = .nx (enc s) := e2
    subst e2
    exact hk s m r hr2
  | brk s =>
    have e2 : out = .nx (enc s) := e2
    subst e2
    exact hk s m r hr2
  | ret r1 =>
    cases hr2
    obtain ⟨e2, rv, rfl⟩ := e2
    exact ⟨_, rfl, hr _ _ e2⟩
theorem forO_fold {g : α → σ → Option σ} : ∀ (xs : List α) (s : σ), forO (ρ := Empty) (fun x s => (g x s).map .nx) xs s = (foldO g xs s).map .nx
  | [], s => rfl
  | x :: xs, s => by
    show ((g x s).map Lp.nx).bind _ = ((g x s).bind _).map _
    cases g x s with
    | none => rfl
    | some s1 => exact forO_fold xs s1
/-- a for that goes through -/
theorem W.fold {tg : Tg} {it : It} {body : Sts} {enc : σ → Fr} {xs : List α} {env1 : α → σ → Fr} {g : α → σ → Option σ} {s0 : σ} {k : σ → Option β}
    (hi : XI cs it true (enc s0) (xs.map e)) (ht : ∀ x s, setTg tg (e x) (enc s) = some (env1 x s)) (hb : ∀ x s, W cs body (env1 x s) (g x s) (qN enc)) (hk : ∀ s, W cs ss (enc s) (k s) q) :
    W cs (.cons (.for tg it body) ss) (enc s0) ((foldO g xs s0).bind k) q := by
  have key := W.for (ss := ss) (q := q) (body := body) (k := k) (kr := fun r : Empty => nomatch r) (qr := fun r => nomatch r) (g := fun x s => (g x s).map Lp.nx) hi ht (fun x s m l hl => by
    obtain ⟨s1, h1, rfl⟩ := Option.map_eq_some_iff.mp hl
    obtain ⟨out, e1, e2⟩ := hb x s m s1 h1
    exact ⟨out, e1, .inl e2⟩) (fun r => nomatch r) hk
  rw [forO_fold] at key
  cases q1 : foldO g xs s0 with
  | none => exact fun m b hb => (nomatch hb)
  | some s =>
    rw [q1] at key
    exact key
theorem foldO_total {g : α → σ → σ} : ∀ (xs : List α) (s : σ), foldO (fun x s => some (g x s)) xs s = some (xs.foldl (fun s x => g x s) s)
  | [], s => rfl
  | x :: xs, s => foldO_total xs (g x s)
theorem W.foldT {tg : Tg} {it : It} {body : Sts} {enc : σ → Fr} {xs : List α} {env1 : α → σ → Fr} {g : α → σ → σ} {s0 : σ} {k : σ → Option β}
    (hi : XI cs it true (enc s0) (xs.map e)) (ht : ∀ x s, setTg tg (e x) (enc s) = some (env1 x s)) (hb : ∀ x s, W cs body (env1 x s) (some (g x s)) (qN enc)) (hk : ∀ s, W cs ss (enc s) (k s) q) :
    W cs (.cons (.for tg it body) ss) (enc s0) (k (xs.foldl (fun s x => g x s) s0)) q := by
  have key := W.fold (g := fun x s => some (g x s)) hi ht hb hk
  rw [foldO_total] at key
  exact key
/-- while, so many turns at most -/
def whlO (c : σ → Option Bool) (g : σ → Option (Lp σ ρ)) : Nat → σ → Option (Lp σ ρ)
  | 0, _ => none
  | n + 1, s => (c s).bind fun t => if t = true then (g s).bind fun l => match l with
    | .nx s => whlO c g n s
    | .brk s => some (.brk s)
    | .ret r => some (.ret r) else some (.nx s)
theorem whl_turns {cn : Fr → Mem → R Bool} {fn : Fr → Mem → R Out} {enc : σ → Fr} {qr : ρ → Out → Prop} {c : σ → Option Bool} {g : σ → Option (Lp σ ρ)} {m : Mem} (hc : ∀ s t, c s = some t → cn (enc s) m = .ok t m) (h : ∀ s l, g s = some l → ∃ out, fn (enc s) m = .ok out m ∧ qL enc qr l out) :
    ∀ (n : Nat) (s : σ) (l : Lp σ ρ), whlO c g n s = some l → ∃ out, whlLoop cn fn n (enc s) m = .ok out m ∧ match l with | .nx s => out = .nx (enc s) | .brk s => out = .nx (enc s) | .ret r => qr r out ∧ ∃ rv, out = .ret rv
  | 0, s, l, hl => by cases hl
  | n + 1, s, l, hl => by
    obtain ⟨t, h1, h2⟩ := Option.bind_eq_some_iff.mp hl
    have e0 : whlLoop cn fn (n + 1) (enc s) m = (cn (enc s) m).bind fun t m1 => if t then (fn (enc s) m1).bind fun o m2 => (match o with
      | .nx e => whlLoop cn fn n e m2
      | .ct e => whlLoop cn fn n e m2
      | .brk e => .ok (.nx e) m2
      | .ret v => .ok (.ret v) m2) else .ok (.nx (enc s)) m1 := rfl
    rw [e0, hc s t h1, R.bind_ok]
    cases t with
    | false =>
      cases h2
      exact ⟨_, rfl, rfl⟩
    | true =>
      rw [if_pos rfl] at h2 ⊢
      obtain ⟨l1, h3, h4⟩ := Option.bind_eq_some_iff.mp h2
      obtain ⟨out, e1, e2⟩ := h s l1 h3
      rw [e1, R.bind_ok]
      cases l1 with
      | nx s1 =>
        obtain ⟨out2, e3, e4⟩ := whl_turns hc h n s1 l h4
        rcases e2 with rfl | rfl <;> exact ⟨out2, e3, e4⟩
      | brk s1 =>
        cases h4
        have e2 : out = .brk (enc s1) := e2
        subst e2
        exact ⟨_, rfl, rfl⟩
      | ret r =>
        cases h4
        obtain ⟨e2, rv, rfl⟩ := e2
        exact ⟨_, rfl, e2, rv, rfl⟩
theorem W.whl {body : Sts} {enc : σ → Fr} {cn : σ → Option Bool} {g : σ → Option (Lp σ ρ)} {qr : ρ → Out → Prop} {s0 : σ} {k : σ → Option β} {kr : ρ → β} {w : Nat} (hw : cs.w = w)
    (hc : ∀ s, X cs c (enc s) ((cn s).map eB)) (hb : ∀ s, W cs body (enc s) (g s) (qL enc qr)) (hr : ∀ r rv, qr r (.ret rv) → q (kr r) (.ret rv)) (hk : ∀ s, W cs ss (enc s) (k s) q) :
    W cs (.cons (.whl c body) ss) (enc s0) ((whlO cn g w s0).bind (lpK k kr)) q := .bind fun l hl m r hr2 => by
  subst hw
  have e0 : evSs cs (.cons (.whl c body) ss) (enc s0) m = (whlLoop (fun e m => Ev.asB (evX cs c e m)) (fun e m => evSs cs body e m) cs.w (enc s0) m).bind fun o m1 => match o with | .nx e => evSs cs ss e m1 | o => .ok o m1 := rfl
  obtain ⟨out, e1, e2⟩ := whl_turns (cn := fun e m => Ev.asB (evX cs c e m)) (fn := fun e m => evSs cs body e m) (qr := qr) (m := m) (fun s t h => by
    have := hc s
    rw [h] at this
    exact this.asB m) (fun s l h => hb s m l h) cs.w s0 l hl
  rw [e0, e1, R.bind_ok]
  cases l with
  | nx s =>
    have e2 : out = .nx (enc s) := e2
    subst e2
    exact hk s m r hr2
  | brk s =>
    have e2 : out = .nx (enc s) := e2
    subst e2
    exact hk s m r hr2
  | ret r1 =>
    cases hr2
    obtain ⟨e2, rv, rfl⟩ := e2
    exact ⟨_, rfl, hr _ _ e2⟩
/-! a def -/
theorem call_eq {fns : List Fn} {w k f : Nat} {fn : Fn} (h : fns[f]? = some fn) (as : List Ar) (m : Mem) : callN fns w (k + 1) f as m = runF ⟨callN fns w k, callN fns w (k - 1), w⟩ fn as m := by
  simp only [callN, h]
theorem Fk.of {fns : List Fn} {w k g : Nat} {fn : Fn} {as : List Ar} {o : Option α} (h : fns[g]? = some fn) (hi : fn.ini = false) (hl : as.length = fn.np) (hw : W ⟨callN fns w k, callN fns w (k - 1), w⟩ fn.body (entry fn as) o (qR e)) : Fk (callN fns w (k + 1)) g as (o.map e) := fun m d hd => by
  obtain ⟨x, rfl, rfl⟩ := Option.map_eq_some_iff.mp hd
  obtain ⟨out, e1, e2⟩ := hw m x rfl
  rw [call_eq h]
  unfold runF
  rw [if_pos (by rw [hi]; simpa using hl), e1, R.bind_ok, hi]
  rcases e2 with ⟨rv, rfl, e2⟩ | ⟨e2, e3, rfl⟩
  · exact ⟨rv, by show R.ok rv (m.take m.length) = _; rw [List.take_length], e2⟩
  · exact ⟨.d .non, by show R.ok (Rv.d .non) (m.take m.length) = _; rw [List.take_length], by rw [e2]; rfl⟩
theorem FkF.of {fns : List Fn} {w k g : Nat} {fn : Fn} {as : List Ar} {o : Option (List α)} (h : fns[g]? = some fn) (hi : fn.ini = false) (hl : as.length = fn.np) (hw : W ⟨callN fns w k, callN fns w (k - 1), w⟩ fn.body (entry fn as) o (qF e)) : FkF (callN fns w (k + 1)) g as (o.map (List.map e)) := fun m d hd => by
  obtain ⟨x, rfl, rfl⟩ := Option.map_eq_some_iff.mp hd
  obtain ⟨out, e1, e2⟩ := hw m x rfl
  have e2 : out = .ret (.f (.lst (x.map e))) := e2
  subst e2
  rw [call_eq h]
  unfold runF
  rw [if_pos (by rw [hi]; simpa using hl), e1, R.bind_ok, hi]
  show R.ok _ (m.take m.length) = _
  rw [List.take_length]
end
end Ev

set_option linter.all false
set_option maxRecDepth 100000
/-! Sg3: more rules for certificates. -/
namespace Ev
open PySem
open L2 (ixN)
open HT (sIx lexLt)
section
variable {cs : Cs} {a b c : Ex} {env : Fr} {α β γ σ : Type} {e : α → D} {f : β → D} {g : γ → D} {o : Option D} {ss : Sts}
theorem X.iteT {t : Bool} {x y : α} (hc : X cs c env (some (eB t))) (ha : X cs a env (some (e x))) (hb : X cs b env (some (e y))) : X cs (.ite c a b) env (some (e (if t = true then x else y))) := by
  have := X.ite hc (fun _ => ha) (fun _ => hb)
  cases t <;> exact this
theorem X.iteO {t : Bool} {u v : Option α} (hc : X cs c env (some (eB t))) (ha : t = true → X cs a env (u.map e)) (hb : t = false → X cs b env (v.map e)) : X cs (.ite c a b) env ((if t = true then u else v).map e) := by
  have := X.ite hc ha hb
  cases t <;> exact this
theorem XA.oneT {t : Bool} (h : X cs a env (some (eB t))) : XA cs (.cons a .nil) env (some t) := .one h
theorem XO.oneT {t : Bool} (h : X cs a env (some (eB t))) : XO cs (.cons a .nil) env (some t) := .one h
theorem XA.consT {es : Exs} {t u : Bool} (hn : isNil es = false) (h : X cs a env (some (eB t))) (k : XA cs es env (some u)) : XA cs (.cons a es) env (some (t && u)) := by
  have := XA.cons (u := some t) hn h k
  cases t <;> exact this
theorem XO.consT {es : Exs} {t u : Bool} (hn : isNil es = false) (h : X cs a env (some (eB t))) (k : XO cs es env (some u)) : XO cs (.cons a es) env (some (t || u)) := by
  have := XO.cons (u := some t) hn h k
  cases t <;> exact this
theorem X.andT {es : Exs} {t : Bool} (h : XA cs es env (some t)) : X cs (.and es) env (some (eB t)) := X.and h
theorem X.orT {es : Exs} {t : Bool} (h : XO cs es env (some t)) : X cs (.or es) env (some (eB t)) := X.or h
/-! displays -/
def XL (cs : Cs) (es : Exs) (env : Fr) (e : α → D) (xs : List α) : Prop := Xs cs es env (xs.map e)
theorem XL.nil : XL cs .nil env e [] := Xs.nil
theorem XL.cons {es : Exs} {x : α} {xs : List α} (h : X cs a env (some (e x))) (k : XL cs es env e xs) : XL cs (.cons a es) env e (x :: xs) := Xs.cons h k
theorem XL.lst {es : Exs} {xs : List α} (h : XL cs es env e xs) : XF cs (.lst es) env (some (xs.map e)) := XF.lst h
theorem XL.tup {es : Exs} {xs : List α} (h : XL cs es env e xs) : X cs (.tup es) env (some (eT e xs)) := X.tup h
theorem XF.xd {ds : List D} (h : XF cs a env (some ds)) : X cs a env (some (.lst ds)) := fun m d hd => by cases hd; exact ⟨_, h m _ rfl, rfl⟩
/-! as a type that is known -/
def toI : D → Option Int
  | .int i => some i
  | _ => none
def toB : D → Option Bool
  | .bl i => some i
  | _ => none
def toS : D → Option Str
  | .str i => some i
  | _ => none
def toT : D → Option (List D)
  | .tup i => some i
  | _ => none
def toL : D → Option (List D)
  | .lst i => some i
  | _ => none
theorem X.toI {d : D} {i : Int} (h : X cs a env (some d)) (hi : Ev.toI d = some i) : X cs a env (some (eI i)) := by
  cases d <;> cases hi
  exact h
theorem X.toB {d : D} {i : Bool} (h : X cs a env (some d)) (hi : Ev.toB d = some i) : X cs a env (some (eB i)) := by
  cases d <;> cases hi
  exact h
theorem X.toS {d : D} {i : Str} (h : X cs a env (some d)) (hi : Ev.toS d = some i) : X cs a env (some (eS i)) := by
  cases d <;> cases hi
  exact h
theorem map_eD : ∀ l : List D, l.map eD = l
  | [] => rfl
  | x :: l => by rw [List.map_cons, map_eD l]
theorem X.toT {d : D} {i : List D} (h : X cs a env (some d)) (hi : Ev.toT d = some i) : X cs a env (some (eT eD i)) := by
  cases d <;> cases hi
  rw [show eT eD i = .tup i by rw [← map_eD i]; simp [eT, map_eD]]
  exact h
theorem X.toL {d : D} {i : List D} (h : X cs a env (some d)) (hi : Ev.toL d = some i) : X cs a env (some (eL eD i)) := by
  cases d <;> cases hi
  rw [show eL eD i = .lst i by rw [← map_eD i]; simp [eL, map_eD]]
  exact h
def toTI : D → Option (List Int)
  | .tup i => intsOf i
  | _ => none
theorem intsOf_back : ∀ {ds : List D} {ns : List Int}, intsOf ds = some ns → ds = ns.map eI
  | [], ns, h => by cases h; rfl
  | d :: ds, ns, h => by
    cases d with
    | int i =>
      obtain ⟨ms, h1, rfl⟩ := Option.map_eq_some_iff.mp (show (intsOf ds).map (i :: ·) = some ns from h)
      rw [intsOf_back h1]
      rfl
    | _ => cases h
theorem X.toTI {d : D} {i : List Int} (h : X cs a env (some d)) (hi : Ev.toTI d = some i) : X cs a env (some (eT eI i)) := by
  cases d with
  | tup ds =>
    have := intsOf_back (show intsOf ds = some i from hi)
    subst this
    exact h
  | _ => cases hi
theorem X.unO {u : Option α} {x : α} (h : X cs a env (some (eO e u))) (hx : u = some x) : X cs a env (some (e x)) := by
  subst hx
  exact h
theorem X.toO {x : α} (h : X cs a env (some (e x))) : X cs a env (some (eO e (some x))) := h
theorem X.toON (h : X cs a env (some D.non)) : X cs a env (some (eO e none)) := h
/-! looks -/
theorem isi_vw (t : Ty) {v : Vw} {d : D} (h : vOk v d) : isiO t v = isiO t (.d d) := by
  rcases h with rfl | ⟨ds, rfl, rfl⟩ <;> rfl
theorem X.isi {t : Ty} {d : D} (h : XB cs a env (some d)) : X cs (.isi t a) env ((isiO t (.d d)).map eB) := fun m r hr => by
  obtain ⟨v, e1, k1⟩ := h m _ rfl
  obtain ⟨x, h1, rfl⟩ := Option.map_eq_some_iff.mp hr
  refine ⟨.d (.bl x), ?_, rfl⟩
  show (bor _ _ _ _).bind _ = _
  rw [e1, R.bind_ok, k1.at, isi_vw t k1, h1]
  rfl
/-- what is looked at as it is -/
def XD (cs : Cs) (a : Ex) (env : Fr) (d : D) : Prop := ∀ m, bor (varOf a) env m (evX cs a env m) = .ok (.d d) m
theorem XD.var {i : Nat} {d : D} (h : env[i]? = some (.val d)) : XD cs (.var i) env d := fun m => by
  show Ev.opt (look env m i) m = _
  unfold look
  rw [h]
  rfl
theorem XD.idx {i : Ex} {d : D} (h : X cs (.idx a i) env (some d)) : XD cs (.idx a i) env d := fun m => by
  obtain ⟨rv, h1, h2⟩ := h m d rfl
  show (evX cs (.idx a i) env m).bind _ = _
  rw [h1]
  have e0 : evX cs (.idx a i) env m = (bor (varOf a) env m (evX cs a env m)).bind fun x m1 => (Ev.asD (evX cs i env m1)).bind fun k m2 => (opt (idxV (x.at m2) k) m2).bind fun d m3 => .ok (.d d) m3 := rfl
  rw [e0] at h1
  obtain ⟨_, _, _, h3⟩ := R.bind_eq_ok h1
  obtain ⟨_, _, _, h4⟩ := R.bind_eq_ok h3
  obtain ⟨_, _, _, h5⟩ := R.bind_eq_ok h4
  cases h5
  cases h2
  rfl
theorem X.isND {d : D} (h : XD cs a env d) : X cs (.cmp .isN a .non) env (some (eB d.isNon)) := fun m r hr => by
  cases hr
  refine ⟨.d (.bl d.isNon), ?_, rfl⟩
  show (bor _ _ _ _).bind _ = _
  rw [h m, R.bind_ok]
  rfl
theorem X.notND {d : D} (h : XD cs a env d) : X cs (.cmp .notN a .non) env (some (eB (!d.isNon))) := fun m r hr => by
  cases hr
  refine ⟨.d (.bl (!d.isNon)), ?_, rfl⟩
  show (bor _ _ _ _).bind _ = _
  rw [h m, R.bind_ok]
  rfl
theorem X.isB {x y : Bool} (ha : XB cs a env (some (eB x))) (hb : XB cs b env (some (eB y))) : X cs (.cmp .isN a b) env (some (eB (decide (x = y)))) := .cmp ha hb fun v w k1 k2 => by rw [k1.bl, k2.bl]; rfl
theorem X.notB {x y : Bool} (ha : XB cs a env (some (eB x))) (hb : XB cs b env (some (eB y))) : X cs (.cmp .notN a b) env (some (eB (!decide (x = y)))) := .cmp ha hb fun v w k1 k2 => by rw [k1.bl, k2.bl]; rfl
/-! pairs -/
theorem X.p0 {p : α × β} (h : XB cs a env (some (eP e f p))) : X cs (.idx a (.int 0)) env (some (e p.1)) := .idxN (.inr rfl) h (X.int 0) rfl
theorem X.p1 {p : α × β} (h : XB cs a env (some (eP e f p))) : X cs (.idx a (.int 1)) env (some (f p.2)) := .idxN (.inr rfl) h (X.int 1) rfl
theorem X.q0 {p : α × β × γ} (h : XB cs a env (some (eP3 e f g p))) : X cs (.idx a (.int 0)) env (some (e p.1)) := .idxN (.inr rfl) h (X.int 0) rfl
theorem X.q1 {p : α × β × γ} (h : XB cs a env (some (eP3 e f g p))) : X cs (.idx a (.int 1)) env (some (f p.2.1)) := .idxN (.inr rfl) h (X.int 1) rfl
theorem X.q2 {p : α × β × γ} (h : XB cs a env (some (eP3 e f g p))) : X cs (.idx a (.int 2)) env (some (g p.2.2)) := .idxN (.inr rfl) h (X.int 2) rfl
/-! numbers of a range -/
def rngG (i j : Int) : Option (List Int) := gd (rngOk i j) (rangeZ i j)
theorem gd_some {b : Bool} {x y : α} (h : gd b x = some y) : b = true ∧ x = y := by
  unfold gd at h
  split at h
  · exact ⟨by assumption, Option.some.inj h⟩
  · cases h
theorem XI.rngG1 {fz : Bool} {j : Int} {xs : List Int} (h : rngG 0 j = some xs) (ha : X cs a env (some (eI j))) : XI cs (.rng (.cons a .nil)) fz env (xs.map eI) := by
  obtain ⟨h1, rfl⟩ := gd_some h
  exact .rng1 h1 ha
theorem XI.rngG2 {fz : Bool} {i j : Int} {xs : List Int} (h : rngG i j = some xs) (ha : X cs a env (some (eI i))) (hb : X cs b env (some (eI j))) : XI cs (.rng (.cons a (.cons b .nil))) fz env (xs.map eI) := by
  obtain ⟨h1, rfl⟩ := gd_some h
  exact .rng2 h1 ha hb
/-! pairs walked together -/
theorem zipW_map (xs : List α) (ys : List β) : List.zipWith (fun a b => D.tup [a, b]) (xs.map e) (ys.map f) = (List.zip xs ys).map (eP e f) := by
  induction xs generalizing ys with
  | nil => rfl
  | cons x xs ih => cases ys with
    | nil => rfl
    | cons y ys => simp [ih, eP]
theorem XI.zipL {xs : List α} {ys : List β} (ha : XB cs a env (some (eL e xs))) (hb : XB cs b env (some (eL f ys))) : XI cs (.zip a b) false env ((List.zip xs ys).map (eP e f)) := fun m => by
  obtain ⟨v, e1, k1⟩ := ha m _ rfl
  obtain ⟨w, e2, k2⟩ := hb m _ rfl
  show (bor _ _ _ _).bind _ = _
  rw [e1, R.bind_ok]
  show (bor _ _ _ _).bind _ = _
  rw [e2, R.bind_ok]
  simp only [k1.seqL, k2.seqL, beq_self_eq_true, if_true]
  rw [zipW_map]
theorem srcZ {d : D} (h : X cs a env (some d)) (m : Mem) (o : Option Nat) : src true o env m (evX cs a env m) = .ok (.d d) m := by
  obtain ⟨rv, e1, e2⟩ := h m d rfl
  show ((evX cs a env m).bind fun v m1 => (Ev.opt v.dat m1).bind fun d m2 => R.ok (Vw.d d) m2) = _
  rw [e1, R.bind_ok, e2]
  rfl
theorem XI.zipLZ {xs : List α} {ys : List β} (ha : X cs a env (some (eL e xs))) (hb : X cs b env (some (eL f ys))) : XI cs (.zip a b) true env ((List.zip xs ys).map (eP e f)) := fun m => by
  show (src true _ _ _ _).bind _ = _
  rw [srcZ ha, R.bind_ok]
  show (src true _ _ _ _).bind _ = _
  rw [srcZ hb, R.bind_ok]
  show R.ok (List.zipWith (fun a b => D.tup [a, b]) (xs.map e) (ys.map f)) m = _
  rw [zipW_map]
theorem XI.zipTZ {xs : List α} {ys : List β} (ha : X cs a env (some (eT e xs))) (hb : X cs b env (some (eT f ys))) : XI cs (.zip a b) true env ((List.zip xs ys).map (eP e f)) := fun m => by
  show (src true _ _ _ _).bind _ = _
  rw [srcZ ha, R.bind_ok]
  show (src true _ _ _ _).bind _ = _
  rw [srcZ hb, R.bind_ok]
  show R.ok (List.zipWith (fun a b => D.tup [a, b]) (xs.map e) (ys.map f)) m = _
  rw [zipW_map]
theorem XI.zipT {xs : List α} {ys : List β} (ha : XB cs a env (some (eT e xs))) (hb : XB cs b env (some (eT f ys))) : XI cs (.zip a b) false env ((List.zip xs ys).map (eP e f)) := fun m => by
  obtain ⟨v, e1, k1⟩ := ha m _ rfl
  obtain ⟨w, e2, k2⟩ := hb m _ rfl
  show (bor _ _ _ _).bind _ = _
  rw [e1, R.bind_ok]
  show (bor _ _ _ _).bind _ = _
  rw [e2, R.bind_ok, k1.tup, k2.tup]
  show R.ok (List.zipWith (fun a b => D.tup [a, b]) (xs.map e) (ys.map f)) m = _
  rw [zipW_map]
/-! data of any kind -/
def seqD (d : D) : Option (List D) := (Vw.seq (.d d)).map (·.2)
theorem XI.seqDZ {d : D} {xs : List D} (ha : X cs a env (some d)) (h : seqD d = some xs) : XI cs (.seq a) true env (xs.map eD) := fun m => by
  show (src true _ _ _ _).bind _ = _
  rw [srcZ ha, R.bind_ok, map_eD]
  show Ev.opt ((Vw.seq (.d d)).map (·.2)) m = _
  rw [show (Vw.seq (.d d)).map (·.2) = some xs from h]
  rfl
theorem seq_vw {v : Vw} {d : D} (h : vOk v d) : v.seq = (Vw.d d).seq := by
  rcases h with rfl | ⟨ds, rfl, rfl⟩ <;> rfl
theorem XI.seqD {d : D} {xs : List D} (ha : XB cs a env (some d)) (h : seqD d = some xs) : XI cs (.seq a) false env (xs.map eD) := fun m => by
  obtain ⟨v, e1, k1⟩ := ha m _ rfl
  show (bor _ _ _ _).bind _ = _
  rw [e1, R.bind_ok, map_eD, seq_vw k1]
  show Ev.opt ((Vw.seq (.d d)).map (·.2)) m = _
  rw [show (Vw.seq (.d d)).map (·.2) = some xs from h]
  rfl
def lenD (d : D) : Option Int := (lenV (.d d)).map fun n => (n : Int)
theorem len_vw {v : Vw} {d : D} (h : vOk v d) : lenV v = lenV (.d d) := by
  rcases h with rfl | ⟨ds, rfl, rfl⟩ <;> rfl
theorem X.lenD {d : D} (h : XB cs a env (some d)) : X cs (.bi .len (.cons a .nil)) env ((lenD d).map eI) := fun m r hr => by
  obtain ⟨x, h1, rfl⟩ := Option.map_eq_some_iff.mp hr
  obtain ⟨n, h2, rfl⟩ := Option.map_eq_some_iff.mp h1
  exact X.bi1 (rv := .d (.int n)) h (fun v k => by
    show (lenV v).map (fun n => Rv.d (.int n)) = _
    rw [len_vw k, h2]
    rfl) rfl m _ rfl
def idxD (d : D) (k : Int) : Option D := idxV (.d d) (.int k)
theorem idx_vw {v : Vw} {d : D} (h : vOk v d) (k : D) : idxV v k = idxV (.d d) k := by
  rcases h with rfl | ⟨ds, rfl, rfl⟩ <;> rfl
theorem X.idxD {d x : D} {k : Int} (ha : XB cs a env (some d)) (hi : X cs b env (some (eI k))) (h : idxD d k = some x) : X cs (.idx a b) env (some x) := fun m r hr => by
  cases hr
  obtain ⟨v, e1, k1⟩ := ha m _ rfl
  refine ⟨.d x, ?_, rfl⟩
  show (bor _ _ _ _).bind _ = _
  rw [e1, R.bind_ok, hi.asD, R.bind_ok, k1.at, idx_vw k1, show idxV (.d d) (eI k) = some x from h]
  rfl
theorem X.eqD {x y : D} (ha : XB cs a env (some x)) (hb : XB cs b env (some y)) : X cs (.cmp .eq a b) env ((Ev.eqD x y).map eB) := fun m r hr => by
  obtain ⟨t, h1, rfl⟩ := Option.map_eq_some_iff.mp hr
  exact X.cmp ha hb (fun v w k1 k2 => by
    show (match v.dat, w.dat with | some x, some y => Ev.eqD x y | _, _ => none) = _
    rw [k1.dat, k2.dat]
    exact h1) m _ rfl
theorem X.neD {x y : D} {t : Bool} (ha : XB cs a env (some x)) (hb : XB cs b env (some y)) (h : Ev.eqD x y = some t) : X cs (.cmp .ne a b) env (some (eB (!t))) := .cmp ha hb fun v w k1 k2 => by
  show (match v.dat, w.dat with | some x, some y => (Ev.eqD x y).map (fun t => !t) | _, _ => none) = _
  rw [k1.dat, k2.dat]
  show (Ev.eqD x y).map _ = _
  rw [h]
  rfl
/-! more built-ins -/
theorem X.sumT {xs : List Int} (ha : XB cs a env (some (eT eI xs))) : X cs (.bi .sum (.cons a .nil)) env (some (eI xs.sum)) := by
  have hi := ints_of xs
  exact .bi1 (rv := Rv.d (.int xs.sum)) ha (fun v k => by
    rw [k.tup]
    show (intsOf (xs.map eI)).map (fun (xs : List Int) => Rv.d (.int xs.sum)) = _
    rw [hi]
    rfl) rfl
def sortZ (xs : List Int) : Option (List Int) := gd (decide (xs.length < 64)) (sortI xs)
theorem XF.sorted {xs : List Int} (ha : XB cs a env (some (eL eI xs))) : XF cs (.bi .sorted (.cons a .nil)) env ((sortZ xs).map (List.map eI)) := fun m ds hd => by
  obtain ⟨ys, h1, rfl⟩ := Option.map_eq_some_iff.mp hd
  obtain ⟨h2, rfl⟩ := gd_some h1
  exact XF.bi1 ha (fun v k => by
    have hs : ∀ w : Vw, w.seq = some (false, xs.map eI) → (match w.seq with | some (false, ds) => (match intsOf ds with | some xs => if decide (xs.length < 64) then some (Rv.f (.lst ((sortI xs).map .int))) else none | none => none) | _ => none) = some (Rv.f (.lst ((sortI xs).map eI))) := fun w hw => by
      rw [hw]
      show (match intsOf (xs.map eI) with | some xs => if decide (xs.length < 64) then some (Rv.f (.lst ((sortI xs).map .int))) else none | none => none) = _
      rw [ints_of]
      exact if_pos h2
    rcases k with rfl | ⟨ds, rfl, q⟩
    · exact hs (.d (eL eI xs)) rfl
    · cases q
      exact hs (.c (.lst (xs.map eI))) rfl) m _ rfl
def cmpI : Cop → Int → Int → Bool
  | .lt, i, j => decide (i < j)
  | .le, i, j => decide (i ≤ j)
  | _, _, _ => false
/-! tuples taken so often; tuples one not above the other -/
def repT (xs : List α) (k : Int) : Option (List α) := if 2 ≤ k then gd (decide (k ≤ 1000 ∧ xs.length ≤ 1000 ∧ 0 < xs.length)) (List.replicate k.toNat xs).flatten else if k = 1 then gd (decide (0 < xs.length)) xs else if k = 0 then gd (decide (0 < xs.length)) [] else none
theorem rep_map (xs : List α) (k : Int) : repeatL (xs.map e) k = ((List.replicate k.toNat xs).flatten).map e := by
  unfold repeatL
  generalize k.toNat = n
  induction n with
  | zero => rfl
  | succ n ih => rw [List.replicate_succ, List.replicate_succ, List.flatten_cons, List.flatten_cons, List.map_append, ih]
theorem X.repT {xs : List α} {k : Int} (ha : XB cs a env (some (eT e xs))) (hb : XB cs b env (some (eI k))) : X cs (.bin .mul a b) env ((Ev.repT xs k).map (eT e)) := fun m d hd => by
  obtain ⟨ys, h1, rfl⟩ := Option.map_eq_some_iff.mp hd
  have key : ∀ v w, vOk v (eT e xs) → vOk w (eI k) → binV .mul v w = some (.d (eT e ys)) := fun v w k1 k2 => by
    rw [k1.tup, k2.i]
    show (if decide (2 ≤ k ∧ k ≤ 1000 ∧ (xs.map e).length ≤ 1000 ∧ 0 < (xs.map e).length) then some (Rv.d (.tup (repeatL (xs.map e) k))) else if decide (k = 1 ∧ 0 < (xs.map e).length) then some (.d (.tup (xs.map e))) else if decide (k = 0 ∧ 0 < (xs.map e).length) then some (.d (.tup [])) else none) = _
    rw [List.length_map]
    unfold Ev.repT at h1
    split at h1
    · rename_i h2
      obtain ⟨h3, rfl⟩ := gd_some h1
      rw [if_pos (by simp only [decide_eq_true_eq] at h3 ⊢; omega), rep_map]
    · split at h1
      · rename_i h2 h4
        obtain ⟨h3, rfl⟩ := gd_some h1
        rw [if_neg (by simp only [decide_eq_true_eq] at h3 ⊢; omega), if_pos (by simp only [decide_eq_true_eq] at h3 ⊢; omega)]
      · split at h1
        · rename_i h2 h4 h5
          obtain ⟨h3, rfl⟩ := gd_some h1
          rw [if_neg (by simp only [decide_eq_true_eq] at h3 ⊢; omega), if_neg (by simp only [decide_eq_true_eq] at h3 ⊢; omega), if_pos (by simp only [decide_eq_true_eq] at h3 ⊢; omega)]
          rfl
        · cases h1
  exact X.bin (rv := .d (eT e ys)) ha hb key rfl m _ rfl
theorem X.leT {p q : List Int} (ha : XB cs a env (some (eT eI p))) (hb : XB cs b env (some (eT eI q))) : X cs (.cmp .le a b) env (some (eB (lexLe p q))) := .cmp ha hb fun v w k1 k2 => by
  rw [k1.tup, k2.tup]
  show (match intsOf (p.map eI), intsOf (q.map eI) with | some p, some q => some (lexLe p q) | _, _ => none) = _
  rw [ints_of, ints_of]
theorem X.ltT {p q : List Int} (ha : XB cs a env (some (eT eI p))) (hb : XB cs b env (some (eT eI q))) : X cs (.cmp .lt a b) env (some (eB (lexLt p q))) := .cmp ha hb fun v w k1 k2 => by
  rw [k1.tup, k2.tup]
  show (match intsOf (p.map eI), intsOf (q.map eI) with | some p, some q => some (lexLt p q) | _, _ => none) = _
  rw [ints_of, ints_of]
def repL (xs : List α) (k : Int) : Option (List α) := gd (decide (0 ≤ k ∧ k ≤ 1000000 ∧ xs.length ≤ 16)) (List.replicate k.toNat xs).flatten
theorem XF.repL {xs : List α} {k : Int} (ha : XF cs a env (some (xs.map e))) (hn : varOf a = none) (hb : XB cs b env (some (eI k))) : XF cs (.bin .mul a b) env ((Ev.repL xs k).map (List.map e)) := fun m ds hd => by
  obtain ⟨ys, h1, rfl⟩ := Option.map_eq_some_iff.mp hd
  obtain ⟨h2, rfl⟩ := gd_some h1
  obtain ⟨w, e2, k2⟩ := hb m _ rfl
  have e1 : bor (varOf a) env m (evX cs a env m) = .ok (.c (.lst (xs.map e))) m := by
    rw [hn]
    show (evX cs a env m).bind _ = _
    rw [ha m _ rfl]
    rfl
  show (bor _ _ _ _).bind _ = _
  rw [e1, R.bind_ok, e2, R.bind_ok, k2.at, k2.i]
  show Ev.opt (if decide (0 ≤ k ∧ k ≤ 1000000 ∧ (xs.map e).length ≤ 16) = true then some (Rv.f (.lst (repeatL (xs.map e) k))) else none) m = _
  rw [List.length_map, if_pos h2, rep_map]
  rfl
theorem eqv_optI : Eqv (eO eI) 0 := ⟨fun x k _ => by cases x <;> rfl, fun x y _ => by
  cases x with
  | none => cases y with
    | none => simp [eO, D.beq]
    | some j => simp [eO, D.beq]
  | some i => cases y with
    | none => simp [eO, D.beq]
    | some j =>
      show D.beq (eI i) (eI j) = _
      rw [eqv_int.eq]
      by_cases h : i = j <;> simp [h]⟩
/-! two ways, each at once -/
theorem W.iteT {q : β → Out → Prop} {t : Bool} {sa sb : Sts} {x y : β} (hc : X cs c env (some (eB t))) (ha : t = true → W cs (stApp sa ss) env (some x) q) (hb : t = false → W cs (stApp sb ss) env (some y) q) : W cs (.cons (.ite c sa sb) ss) env (some (if t = true then x else y)) q := by
  have := W.ite hc ha hb
  cases t <;> exact this
end
end Ev

set_option linter.all false
set_option maxRecDepth 100000
/-! Sg4: what may draw, or write at a shared cell: predicate transformers over a state that the memory shows. -/
namespace Ev
open PySem
open L2 (ixN)
open HT (sIx lexLt)
/-- from a state, what is wanted of the answer and of the state behind -/
abbrev M (σ α : Type) := σ → (α → σ → Prop) → Prop
def M.ret {σ α : Type} (x : α) : M σ α := fun s k => k x s
def M.bind {σ α β : Type} (n : M σ α) (f : α → M σ β) : M σ β := fun s k => n s fun x s' => f x s' k
def M.lift {σ α β : Type} (u : Option α) (f : α → M σ β) : M σ β := fun s k => ∃ x, u = some x ∧ f x s k
def M.opt {σ α : Type} (u : Option α) : M σ α := fun s k => ∃ x, u = some x ∧ k x s
variable {σ : Type} {St : σ → Mem → Prop}
def XM (St : σ → Mem → Prop) (cs : Cs) (a : Ex) (env : Fr) {α : Type} (e : α → D) (n : M σ α) : Prop := ∀ s k, n s k → ∀ m, St s m → ∃ rv m' x s', evX cs a env m = .ok rv m' ∧ St s' m' ∧ rv.dat = some (e x) ∧ k x s'
def XMF (St : σ → Mem → Prop) (cs : Cs) (a : Ex) (env : Fr) {α : Type} (e : α → D) (n : M σ (List α)) : Prop := ∀ s k, n s k → ∀ m, St s m → ∃ m' xs s', evX cs a env m = .ok (.f (.lst (xs.map e))) m' ∧ St s' m' ∧ k xs s'
def BM (St : σ → Mem → Prop) (cs : Cs) (a : Ex) (env : Fr) {α : Type} (e : α → D) (n : M σ α) : Prop := ∀ s k, n s k → ∀ m, St s m → ∃ v m' x s', bor (varOf a) env m (evX cs a env m) = .ok v m' ∧ St s' m' ∧ vOk v (e x) ∧ k x s'
def WM (St : σ → Mem → Prop) (cs : Cs) (ss : Sts) (env : Fr) {β : Type} (n : M σ β) (q : β → Out → Prop) : Prop := ∀ s k, n s k → ∀ m, St s m → ∃ out m' b s', evSs cs ss env m = .ok out m' ∧ St s' m' ∧ q b out ∧ k b s'
def FM (St : σ → Mem → Prop) (cf : CF) (f : Nat) (as : List Ar) {α : Type} (e : α → D) (n : M σ α) : Prop := ∀ s k, n s k → ∀ m, St s m → ∃ rv m' x s', cf f as m = .ok rv m' ∧ m'.length = m.length ∧ St s' m' ∧ rv.dat = some (e x) ∧ k x s'
section
variable {cs : Cs} {a b c : Ex} {env : Fr} {α β γ ρ τ : Type} {e : α → D} {f : β → D} {g : γ → D} {ss : Sts} {q : β → Out → Prop}
/-! expressions -/
theorem XM.pure {x : α} (h : X cs a env (some (e x))) : XM St cs a env e (.ret x) := fun s k hk m hm => by
  obtain ⟨rv, h1, h2⟩ := h m _ rfl
  exact ⟨rv, m, x, s, h1, hm, h2, hk⟩
theorem XM.lift {u : Option γ} {n : γ → M σ α} (h : ∀ x, u = some x → XM St cs a env e (n x)) : XM St cs a env e (.lift u n) := fun s k ⟨x, hx, hk⟩ m hm => h x hx s k hk m hm
theorem XMF.pure {xs : List α} (h : XF cs a env (some (xs.map e))) : XMF St cs a env e (.ret xs) := fun s k hk m hm => ⟨m, xs, s, h m _ rfl, hm, hk⟩
theorem XMF.lift {u : Option γ} {n : γ → M σ (List α)} (h : ∀ x, u = some x → XMF St cs a env e (n x)) : XMF St cs a env e (.lift u n) := fun s k ⟨x, hx, hk⟩ m hm => h x hx s k hk m hm
theorem XMF.x {n : M σ (List α)} (h : XMF St cs a env e n) : XM St cs a env (eL e) n := fun s k hk m hm => by
  obtain ⟨m', xs, s', h1, h2, h3⟩ := h s k hk m hm
  exact ⟨_, m', xs, s', h1, h2, rfl, h3⟩
theorem XM.asD {n : M σ α} (h : XM St cs a env e n) {s : σ} {k : α → σ → Prop} (hk : n s k) {m : Mem} (hm : St s m) : ∃ m' x s', Ev.asD (evX cs a env m) = .ok (e x) m' ∧ St s' m' ∧ k x s' := by
  obtain ⟨rv, m', x, s', h1, h2, h3, h4⟩ := h s k hk m hm
  refine ⟨m', x, s', ?_, h2, h4⟩
  show (evX cs a env m).bind _ = _
  rw [h1]
  show Ev.opt rv.dat m' = _
  rw [h3]
  rfl
theorem XM.asB {n : M σ Bool} (h : XM St cs a env eB n) {s : σ} {k : Bool → σ → Prop} (hk : n s k) {m : Mem} (hm : St s m) : ∃ m' x s', Ev.asB (evX cs a env m) = .ok x m' ∧ St s' m' ∧ k x s' := by
  obtain ⟨rv, m', x, s', h1, h2, h3, h4⟩ := h s k hk m hm
  refine ⟨m', x, s', ?_, h2, h4⟩
  show (evX cs a env m).bind _ = _
  rw [h1]
  cases rv with
  | d d => cases h3; rfl
  | f c => cases c <;> cases h3
theorem BM.pure {x : α} (h : XB cs a env (some (e x))) : BM St cs a env e (.ret x) := fun s k hk m hm => by
  obtain ⟨v, h1, h2⟩ := h m _ rfl
  exact ⟨v, m, x, s, h1, hm, h2, hk⟩
theorem XM.bo {n : M σ α} (hv : varOf a = none) (h : XM St cs a env e n) : BM St cs a env e n := fun s k hk m hm => by
  obtain ⟨rv, m', x, s', h1, h2, h3, h4⟩ := h s k hk m hm
  refine ⟨rv.vw, m', x, s', ?_, h2, ?_, h4⟩
  · rw [hv]
    show (evX cs a env m).bind _ = _
    rw [h1]
    rfl
  · cases rv with
    | d d => cases h3; exact .inl rfl
    | f c => cases c with
      | lst ds => exact .inr ⟨ds, rfl, (Option.some.inj h3).symm⟩
      | _ => cases h3
theorem BM.lift {u : Option γ} {n : γ → M σ α} (h : ∀ x, u = some x → BM St cs a env e (n x)) : BM St cs a env e (.lift u n) := fun s k ⟨x, hx, hk⟩ m hm => h x hx s k hk m hm
theorem XM.bin {op : Bop} {n1 n2 : M σ Int} {r : Int → Int → Option Int} (hr : ∀ i j, r i j = intOp op i j) (ha : BM St cs a env eI n1) (hb : BM St cs b env eI n2) : XM St cs (.bin op a b) env eI (n1.bind fun x => n2.bind fun y => .opt (r x y)) := fun s k hk m hm => by
  obtain ⟨v, m1, x, s1, h1, h2, h3, h4⟩ := ha s _ hk m hm
  obtain ⟨w, m2, y, s2, k1, k2, k3, z, hz, k4⟩ := hb s1 _ h4 m1 h2
  refine ⟨.d (.int z), m2, z, s2, ?_, k2, rfl, k4⟩
  show (bor _ _ _ _).bind _ = _
  rw [h1, R.bind_ok, k1, R.bind_ok, h3.at, k3.at, h3.i, k3.i]
  show Ev.opt ((intOp op x y).map _) m2 = _
  rw [← hr, hz]
  rfl
theorem XM.cmp {op : Cop} {n1 : M σ α} {n2 : M σ β} {t : α → β → Option Bool} (ht : ∀ x y v w, vOk v (e x) → vOk w (f y) → ∀ u, t x y = some u → cmpD op v w = some u) (ha : BM St cs a env e n1) (hb : BM St cs b env f n2) : XM St cs (.cmp op a b) env eB (n1.bind fun x => n2.bind fun y => .opt (t x y)) := fun s k hk m hm => by
  obtain ⟨v, m1, x, s1, h1, h2, h3, h4⟩ := ha s _ hk m hm
  obtain ⟨w, m2, y, s2, k1, k2, k3, z, hz, k4⟩ := hb s1 _ h4 m1 h2
  refine ⟨.d (.bl z), m2, z, s2, ?_, k2, rfl, k4⟩
  show (bor _ _ _ _).bind _ = _
  rw [h1, R.bind_ok, k1, R.bind_ok, h3.at, k3.at, ht x y v w h3 k3 z hz]
  rfl
theorem XM.eqI {n1 n2 : M σ Int} (ha : BM St cs a env eI n1) (hb : BM St cs b env eI n2) : XM St cs (.cmp .eq a b) env eB (n1.bind fun x => n2.bind fun y => .opt (some (decide (x = y)))) :=
  .cmp (fun x y v w h1 h2 u hu => by
    cases hu
    rw [h1.i, h2.i]
    show eqD (.int x) (.int y) = _
    show some (D.beq (.int x) (.int y)) = _
    rw [eqv_int.eq]) ha hb
theorem XM.ltI {n1 n2 : M σ Int} (ha : BM St cs a env eI n1) (hb : BM St cs b env eI n2) : XM St cs (.cmp .lt a b) env eB (n1.bind fun x => n2.bind fun y => .opt (some (decide (x < y)))) :=
  .cmp (fun x y v w h1 h2 u hu => by cases hu; rw [h1.i, h2.i]; rfl) ha hb
theorem XM.leI {n1 n2 : M σ Int} (ha : BM St cs a env eI n1) (hb : BM St cs b env eI n2) : XM St cs (.cmp .le a b) env eB (n1.bind fun x => n2.bind fun y => .opt (some (decide (x ≤ y)))) :=
  .cmp (fun x y v w h1 h2 u hu => by cases hu; rw [h1.i, h2.i]; rfl) ha hb
theorem XM.gtI {n1 n2 : M σ Int} (ha : BM St cs a env eI n1) (hb : BM St cs b env eI n2) : XM St cs (.cmp .gt a b) env eB (n1.bind fun x => n2.bind fun y => .opt (some (decide (y < x)))) :=
  .cmp (fun x y v w h1 h2 u hu => by cases hu; rw [h1.i, h2.i]; rfl) ha hb
theorem XM.not {n : M σ Bool} (h : XM St cs a env eB n) : XM St cs (.not a) env eB (n.bind fun x => .ret (!x)) := fun s k hk m hm => by
  obtain ⟨m', x, s', h1, h2, h3⟩ := h.asB hk hm
  refine ⟨.d (.bl (!x)), m', !x, s', ?_, h2, rfl, h3⟩
  show (Ev.asB _).bind _ = _
  rw [h1]
  rfl
theorem XM.idx {d : α → D} {xs : α → List β} {n1 : M σ α} {n2 : M σ Int} (hs : ∀ x, Sq (d x) ((xs x).map f)) (ha : BM St cs a env d n1) (hb : XM St cs b env eI n2) : XM St cs (.idx a b) env f (n1.bind fun x => n2.bind fun y => .opt (idxZ (xs x) y)) := fun s k hk m hm => by
  obtain ⟨v, m1, x, s1, h1, h2, h3, h4⟩ := ha s _ hk m hm
  obtain ⟨m2, y, s2, k1, k2, z, hz, k4⟩ := hb.asD h4 h2
  obtain ⟨t, hq⟩ := h3.sq (hs x)
  refine ⟨.d (f z), m2, z, s2, ?_, k2, rfl, k4⟩
  show (bor _ _ _ _).bind _ = _
  rw [h1, R.bind_ok, k1, R.bind_ok, h3.at]
  have : idxV v (.int y) = some (f z) := by
    unfold idxV
    rw [hq]
    exact (idxZ_map (xs x) y).trans (by rw [hz]; rfl)
  rw [show eI y = D.int y from rfl, this]
  rfl
/-- a built-in of one -/
theorem XM.bi1 {t : Bi} {n : M σ α} {r : α → β} {rv : α → Rv} (hr : ∀ x v, vOk v (e x) → biV t [v] = some (rv x)) (hd : ∀ x, (rv x).dat = some (f (r x))) (ha : BM St cs a env e n) : XM St cs (.bi t (.cons a .nil)) env f (n.bind fun x => .ret (r x)) := fun s k hk m hm => by
  obtain ⟨v, m1, x, s1, h1, h2, h3, h4⟩ := ha s _ hk m hm
  refine ⟨rv x, m1, r x, s1, ?_, h2, hd x, h4⟩
  show (R.bind (R.bind (bor _ _ _ _) _) _) = _
  rw [h1, R.bind_ok]
  show Ev.opt (biV t [v.at m1]) m1 = _
  rw [h3.at, hr x v h3]
  rfl
theorem XM.tuple {n : M σ (List α)} (ha : BM St cs a env (eL e) n) : XM St cs (.bi .tuple (.cons a .nil)) env (eT e) (n.bind fun x => .ret x) :=
  .bi1 (rv := fun x => .d (eT e x)) (fun x v k => by
    show (match v.seq with | some (_, ds) => some (Rv.d (.tup ds)) | none => none) = _
    rw [k.seqL]) (fun _ => rfl) ha
theorem XM.intB {n : M σ Bool} (ha : BM St cs a env eB n) : XM St cs (.bi .int (.cons a .nil)) env eI (n.bind fun x => .ret (if x = true then 1 else 0)) :=
  .bi1 (rv := fun x => .d (.int (if x = true then 1 else 0))) (fun x v k => by rw [k.bl]; cases x <;> rfl) (fun _ => rfl) ha
/-! displays -/
def XsM (St : σ → Mem → Prop) (cs : Cs) (es : Exs) (env : Fr) {α : Type} (e : α → List D) (n : M σ α) : Prop := ∀ s k, n s k → ∀ m, St s m → ∃ m' x s', evXs cs es env m = .ok (e x) m' ∧ St s' m' ∧ k x s'
theorem XsM.nil : XsM St cs .nil env (fun (_ : Unit) => []) (.ret ()) := fun s k hk m hm => ⟨m, (), s, rfl, hm, hk⟩
theorem XsM.cons {es : Exs} {n1 : M σ α} {n2 : M σ β} {r : β → List D} (h : XM St cs a env e n1) (t : XsM St cs es env r n2) : XsM St cs (.cons a es) env (fun p : α × β => e p.1 :: r p.2) (n1.bind fun x => n2.bind fun y => .ret (x, y)) := fun s k hk m hm => by
  obtain ⟨m1, x, s1, h1, h2, h3⟩ := h.asD hk hm
  obtain ⟨m2, y, s2, k1, k2, k3⟩ := t s1 _ h3 m1 h2
  refine ⟨m2, (x, y), s2, ?_, k2, k3⟩
  show (Ev.asD _).bind _ = _
  rw [h1, R.bind_ok, k1]
  rfl
theorem XM.tup {es : Exs} {r : β → List D} {n : M σ β} (h : XsM St cs es env r n) {v : β → α} (hv : ∀ y, D.tup (r y) = e (v y)) : XM St cs (.tup es) env e (n.bind fun y => .ret (v y)) := fun s k hk m hm => by
  obtain ⟨m', y, s', h1, h2, h3⟩ := h s _ hk m hm
  refine ⟨.d (.tup (r y)), m', v y, s', ?_, h2, by show some (D.tup (r y)) = _; rw [hv], h3⟩
  show (evXs cs es env m).bind _ = _
  rw [h1]
  rfl
theorem XMF.lst {es : Exs} {r : β → List D} {n : M σ β} (h : XsM St cs es env r n) {v : β → List α} (hv : ∀ y, r y = (v y).map e) : XMF St cs (.lst es) env e (n.bind fun y => .ret (v y)) := fun s k hk m hm => by
  obtain ⟨m', y, s', h1, h2, h3⟩ := h s _ hk m hm
  refine ⟨m', v y, s', ?_, h2, h3⟩
  show (evXs cs es env m).bind _ = _
  rw [h1, ← hv]
  rfl
/-! a chain -/
def AM (St : σ → Mem → Prop) (cs : Cs) (es : Exs) (env : Fr) (n : M σ Bool) : Prop := ∀ s k, n s k → ∀ m, St s m → ∃ m' x s', evAnd cs es env m = .ok x m' ∧ St s' m' ∧ k x s'
def OM (St : σ → Mem → Prop) (cs : Cs) (es : Exs) (env : Fr) (n : M σ Bool) : Prop := ∀ s k, n s k → ∀ m, St s m → ∃ m' x s', evOr cs es env m = .ok x m' ∧ St s' m' ∧ k x s'
theorem AM.one {n : M σ Bool} (h : XM St cs a env eB n) : AM St cs (.cons a .nil) env n := fun s k hk m hm => by
  obtain ⟨m', x, s', h1, h2, h3⟩ := h.asB hk hm
  refine ⟨m', x, s', ?_, h2, h3⟩
  show (Ev.asB _).bind _ = _
  rw [h1]
  rfl
theorem OM.one {n : M σ Bool} (h : XM St cs a env eB n) : OM St cs (.cons a .nil) env n := fun s k hk m hm => by
  obtain ⟨m', x, s', h1, h2, h3⟩ := h.asB hk hm
  refine ⟨m', x, s', ?_, h2, h3⟩
  show (Ev.asB _).bind _ = _
  rw [h1]
  rfl
theorem AM.cons {es : Exs} {n1 n2 : M σ Bool} (hn : isNil es = false) (h : XM St cs a env eB n1) (t : AM St cs es env n2) : AM St cs (.cons a es) env (n1.bind fun x => if x = true then n2 else .ret false) := fun s k hk m hm => by
  obtain ⟨m1, x, s1, h1, h2, h3⟩ := h.asB hk hm
  have e0 : evAnd cs (.cons a es) env m = (Ev.asB (evX cs a env m)).bind fun t m1 => if isNil es then .ok t m1 else if t then evAnd cs es env m1 else .ok false m1 := rfl
  cases x with
  | true =>
    obtain ⟨m2, y, s2, k1, k2, k3⟩ := t s1 k h3 m1 h2
    refine ⟨m2, y, s2, ?_, k2, k3⟩
    rw [e0, h1, R.bind_ok, hn]
    exact k1
  | false =>
    refine ⟨m1, false, s1, ?_, h2, h3⟩
    rw [e0, h1, R.bind_ok, hn]
    rfl
theorem OM.cons {es : Exs} {n1 n2 : M σ Bool} (hn : isNil es = false) (h : XM St cs a env eB n1) (t : OM St cs es env n2) : OM St cs (.cons a es) env (n1.bind fun x => if x = true then .ret true else n2) := fun s k hk m hm => by
  obtain ⟨m1, x, s1, h1, h2, h3⟩ := h.asB hk hm
  have e0 : evOr cs (.cons a es) env m = (Ev.asB (evX cs a env m)).bind fun t m1 => if isNil es then .ok t m1 else if t then .ok true m1 else evOr cs es env m1 := rfl
  cases x with
  | false =>
    obtain ⟨m2, y, s2, k1, k2, k3⟩ := t s1 k h3 m1 h2
    refine ⟨m2, y, s2, ?_, k2, k3⟩
    rw [e0, h1, R.bind_ok, hn]
    exact k1
  | true =>
    refine ⟨m1, true, s1, ?_, h2, h3⟩
    rw [e0, h1, R.bind_ok, hn]
    rfl
theorem XM.and {es : Exs} {n : M σ Bool} (h : AM St cs es env n) : XM St cs (.and es) env eB n := fun s k hk m hm => by
  obtain ⟨m', x, s', h1, h2, h3⟩ := h s k hk m hm
  refine ⟨.d (.bl x), m', x, s', ?_, h2, rfl, h3⟩
  show (evAnd cs es env m).bind _ = _
  rw [h1]
  rfl
theorem XM.or {es : Exs} {n : M σ Bool} (h : OM St cs es env n) : XM St cs (.or es) env eB n := fun s k hk m hm => by
  obtain ⟨m', x, s', h1, h2, h3⟩ := h s k hk m hm
  refine ⟨.d (.bl x), m', x, s', ?_, h2, rfl, h3⟩
  show (evOr cs es env m).bind _ = _
  rw [h1]
  rfl
theorem XM.ite {n1 : M σ Bool} {n2 n3 : M σ α} (hc : XM St cs c env eB n1) (ha : XM St cs a env e n2) (hb : XM St cs b env e n3) : XM St cs (.ite c a b) env e (n1.bind fun x => if x = true then n2 else n3) := fun s k hk m hm => by
  obtain ⟨m1, x, s1, h1, h2, h3⟩ := hc.asB hk hm
  have e0 : evX cs (.ite c a b) env m = (Ev.asB (evX cs c env m)).bind fun t m1 => if t then evX cs a env m1 else evX cs b env m1 := rfl
  rw [e0, h1, R.bind_ok]
  cases x with
  | true => exact ha s1 k h3 m1 h2
  | false => exact hb s1 k h3 m1 h2
/-! calls -/
theorem As.cell {es : Exs} {i j : Nat} {as : List Ar} (h : env[i]? = some (.cell j)) (k : As cs es env as) : As cs (.cons (.var i) es) env (.c j :: as) := fun m => by
  have e2 : ∀ r : R Ar, r = .ok (.c j) m → (r.bind fun a m1 => (evAs cs es env m1).bind fun as m2 => R.ok (a :: as) m2) = .ok (.c j :: as) m := fun r hr => by
    rw [hr, R.bind_ok, k]
    rfl
  exact e2 (slotAr env i m) (by unfold slotAr; rw [h])
theorem XM.call {es : Exs} {as : List Ar} {t : Nat} {n : M σ α} (h : As cs es env as) (k : FM St cs.f t as e n) : XM St cs (.call t es) env e n := fun s k' hk m hm => by
  obtain ⟨rv, m', x, s', h1, h2, h3, h4, h5⟩ := k s k' hk m hm
  refine ⟨rv, m', x, s', ?_, h3, h4, h5⟩
  show (evAs cs es env m).bind _ = _
  rw [h, R.bind_ok, h1, R.bind_ok, ← h2, List.take_length]
/-! comprehensions -/
/-- a walk whose turns may draw -/
def mapM {σ α β : Type} (g : α → M σ (List β)) : List α → M σ (List β)
  | [] => .ret []
  | x :: xs => (g x).bind fun ys => (mapM g xs).bind fun zs => .ret (ys ++ zs)
theorem lcLoop_M {fn : D → Mem → R (List D)} {g : α → M σ (List β)} (h : ∀ x s k, g x s k → ∀ m, St s m → ∃ m' ys s', fn (e x) m = .ok (ys.map f) m' ∧ St s' m' ∧ k ys s') : ∀ (xs : List α) s k, mapM g xs s k → ∀ m, St s m → ∃ m' ys s', lcLoop fn (xs.map e) m = .ok (ys.map f) m' ∧ St s' m' ∧ k ys s'
  | [], s, k, hk, m, hm => ⟨m, [], s, rfl, hm, hk⟩
  | x :: xs, s, k, hk, m, hm => by
    obtain ⟨m1, ys, s1, h1, h2, h3⟩ := h x s _ hk m hm
    obtain ⟨m2, zs, s2, k1, k2, k3⟩ := lcLoop_M h xs s1 _ h3 m1 h2
    refine ⟨m2, ys ++ zs, s2, ?_, k2, k3⟩
    show (fn (e x) m).bind _ = _
    rw [h1, R.bind_ok]
    show (lcLoop fn (xs.map e) m1).bind _ = _
    rw [k1, R.bind_ok, List.map_append]
def IM (St : σ → Mem → Prop) (cs : Cs) (it : It) (env : Fr) {α : Type} (e : α → D) (n : M σ (List α)) : Prop := ∀ s k, n s k → ∀ m, St s m → ∃ m' xs s', evI cs it false env m = .ok (xs.map e) m' ∧ St s' m' ∧ k xs s'
theorem IM.pure {it : It} {xs : List α} (h : XI cs it false env (xs.map e)) : IM St cs it env e (.ret xs) := fun s k hk m hm => ⟨m, xs, s, h m, hm, hk⟩
theorem IM.lift {it : It} {u : Option γ} {n : γ → M σ (List α)} (h : ∀ x, u = some x → IM St cs it env e (n x)) : IM St cs it env e (.lift u n) := fun s k ⟨x, hx, hk⟩ m hm => h x hx s k hk m hm
theorem IM.rng1 {n : M σ Int} (h : XM St cs a env eI n) : IM St cs (.rng (.cons a .nil)) env eI (n.bind fun j => .opt (rngG 0 j)) := fun s k hk m hm => by
  obtain ⟨m1, j, s1, h1, h2, xs, hx, h3⟩ := h.asD hk hm
  obtain ⟨h4, rfl⟩ := gd_some hx
  refine ⟨m1, _, s1, ?_, h2, h3⟩
  show (evXs cs (.cons a .nil) env m).bind _ = _
  have : evXs cs (.cons a .nil) env m = .ok [eI j] m1 := by
    show (Ev.asD _).bind _ = _
    rw [h1]
    rfl
  rw [this, R.bind_ok, show [eI j] = [D.int j] from rfl, rng_one h4]
  rfl
def CM (St : σ → Mem → Prop) (cs : Cs) (a : Ex) (env : Fr) (n : M σ Bool) : Prop := ∀ s k, n s k → ∀ m, St s m → ∃ m' t s', condE (isNo a) m (evX cs a env m) = .ok t m' ∧ St s' m' ∧ k t s'
theorem CM.no : CM St cs .no env (.ret true) := fun s k hk m hm => ⟨m, true, s, rfl, hm, hk⟩
theorem CM.x {n : M σ Bool} (hn : isNo a = false) (h : XM St cs a env eB n) : CM St cs a env n := fun s k hk m hm => by
  obtain ⟨m', x, s', h1, h2, h3⟩ := h.asB hk hm
  refine ⟨m', x, s', ?_, h2, h3⟩
  rw [hn]
  exact h1
def oneM {σ β : Type} (c : M σ Bool) (g : M σ β) : M σ (List β) := c.bind fun t => if t = true then g.bind fun y => .ret [y] else .ret []
def lenM {σ β : Type} (n : M σ (List β)) : M σ (List β) := n.bind fun ys => .opt (gd (lenOk ys.length) ys)
theorem XMF.lc {tg : Tg} {it : It} {cd elt : Ex} {n : M σ (List α)} {u : α → M σ Bool} {g : α → M σ β} {env1 : α → Fr} (hi : IM St cs it env e n) (ht : ∀ x, setTg tg (e x) env = some (env1 x)) (hc : ∀ x, CM St cs cd (env1 x) (u x)) (hg : ∀ x, XM St cs elt (env1 x) f (g x)) :
    XMF St cs (.lc tg it cd elt) env f (n.bind fun xs => lenM (mapM (fun x => oneM (u x) (g x)) xs)) := fun s k hk m hm => by
  obtain ⟨m1, xs, s1, h1, h2, h3⟩ := hi s _ hk m hm
  obtain ⟨m2, ys, s2, k1, k2, zs, hz, k3⟩ := lcLoop_M (fn := fun x m2 => (Ev.opt (setTg tg x env) m2).bind fun env1 m3 => (condE (isNo cd) m3 (evX cs cd env1 m3)).bind fun t m4 => if t then (Ev.asD (evX cs elt env1 m4)).bind fun y m5 => R.ok [y] m5 else R.ok [] m4) (e := e) (f := f)
    (fun x s k hk m hm => by
      obtain ⟨m1, t, s1, h1, h2, h3⟩ := hc x s _ hk m hm
      rw [ht, opt_some, R.bind_ok, h1, R.bind_ok]
      cases t with
      | false => exact ⟨m1, [], s1, rfl, h2, h3⟩
      | true =>
        obtain ⟨m2, y, s2, k1, k2, k3⟩ := (hg x).asD h3 h2
        refine ⟨m2, [y], s2, ?_, k2, k3⟩
        show (Ev.asD _).bind _ = _
        rw [k1]
        rfl) xs s1 _ h3 m1 h2
  obtain ⟨hl, rfl⟩ := gd_some hz
  refine ⟨m2, ys, s2, ?_, k2, k3⟩
  show (evI cs it false env m).bind _ = _
  rw [h1, R.bind_ok, k1, R.bind_ok, List.length_map, if_pos hl]
/-! statements -/
theorem WM.lift {u : Option α} {n : α → M σ β} (h : ∀ x, u = some x → WM St cs ss env (n x) q) : WM St cs ss env (.lift u n) q := fun s k ⟨x, hx, hk⟩ m hm => h x hx s k hk m hm
theorem WM.of {o : Option β} (h : W cs ss env o q) : WM St cs ss env (.opt o) q := fun s k ⟨x, hx, hk⟩ m hm => by
  obtain ⟨out, h1, h2⟩ := h m x hx
  exact ⟨out, m, x, s, h1, hm, h2, hk⟩
theorem WM.step {s0 : Ev.St} {env1 : Fr} {n : M σ β} (h : ∀ m, evS cs s0 env m = .ok (.nx env1) m) (k : WM St cs ss env1 n q) : WM St cs (.cons s0 ss) env n q := fun s k' hk m hm => by
  obtain ⟨out, m', x, s', h1, h2, h3, h4⟩ := k s k' hk m hm
  exact ⟨out, m', x, s', by rw [evSs_cons, h, R.bind_ok]; exact h1, h2, h3, h4⟩
theorem WM.nil {x : β} (h : q x (.nx env)) : WM St cs .nil env (.ret x) q := fun s k hk m hm => ⟨_, m, x, s, rfl, hm, h, hk⟩
theorem WM.asg {i : Nat} {d : D} {env1 : Fr} {n : M σ β} (hx : X cs a env (some d)) (he : env.set i (.val d) = env1) (k : WM St cs ss env1 n q) : WM St cs (.cons (.asg i a) ss) env n q :=
  .step (fun m => by show (Ev.asD _).bind _ = _; rw [hx.asD, ← he]; rfl) k
theorem WM.asgO {i : Nat} {ds : List D} {env1 : Fr} {n : M σ β} (hx : XF cs a env (some ds)) (he : env.set i (.own (.lst ds)) = env1) (k : WM St cs ss env1 n q) : WM St cs (.cons (.asgO i a) ss) env n q :=
  .step (fun m => by show (Ev.asF _).bind _ = _; rw [hx.asF, ← he]; rfl) k
theorem WM.asgT {is : List Nat} {d : D} {env1 : Fr} {n : M σ β} (hx : X cs a env (some d)) (ht : setTg (.many is) d env = some env1) (k : WM St cs ss env1 n q) : WM St cs (.cons (.asgT is a) ss) env n q :=
  .step (fun m => by show (Ev.asD _).bind _ = _; rw [hx.asD, R.bind_ok, ht]; rfl) k
theorem WM.fgt {i : Nat} {env1 : Fr} {n : M σ β} (he : env.set i .un = env1) (k : WM St cs ss env1 n q) : WM St cs (.cons (.fgt i) ss) env n q := .step (fun m => by rw [← he]; rfl) k
theorem WM.frz {i : Nat} {ds : List D} {env1 : Fr} {n : M σ β} (h : env[i]? = some (.own (.lst ds))) (he : env.set i (.val (.lst ds)) = env1) (k : WM St cs ss env1 n q) : WM St cs (.cons (.frz i) ss) env n q :=
  .step (fun m => by show frzE env i m = _; unfold frzE; rw [h, ← he]) k
theorem WM.frzV {i : Nat} {d : D} {n : M σ β} (h : env[i]? = some (.val d)) (k : WM St cs ss env n q) : WM St cs (.cons (.frz i) ss) env n q :=
  .step (fun m => by show frzE env i m = _; unfold frzE; rw [h]) k
theorem WM.pass {n : M σ β} (k : WM St cs ss env n q) : WM St cs (.cons .pass ss) env n q := .step (fun m => rfl) k
theorem WM.augAdd {i : Nat} {x y : Int} {env1 : Fr} {n : M σ β} (h : env[i]? = some (.val (eI x))) (hx : X cs a env (some (eI y))) (he : env.set i (.val (eI (x + y))) = env1) (k : WM St cs ss env1 n q) : WM St cs (.cons (.aug .add i a) ss) env n q :=
  .step (fun m => by
    show (match env[i]? with | some (.val x) => (Ev.asD (evX cs a env m)).bind fun y m1 => (opt (augV .add x y) m1).bind fun z m2 => R.ok (Out.nx (env.set i (.val z))) m2 | _ => .bad) = _
    rw [h]
    show (Ev.asD (evX cs a env m)).bind _ = _
    rw [hx.asD, ← he]; rfl) k
theorem app_run {i : Nat} {xs ys : List α} {x : α} (h : env[i]? = some (.own (.lst (xs.map e)))) (hx : X cs a env (some (e x))) (hy : snocZ xs x = some ys) (m : Mem) : evS cs (.app i a) env m = .ok (.nx (env.set i (.own (.lst (ys.map e))))) m := by
  have key := W.app (cs := cs) (ss := .nil) (q := fun (_ : Unit) out => out = .nx (env.set i (.own (.lst (ys.map e))))) (k := fun _ => some ()) (env1 := fun zs => env.set i (.own (.lst (zs.map e)))) h hx (fun _ => rfl) (fun zs hz => W.nil (by rw [hy] at hz; cases hz; rfl)) m () (by rw [hy]; rfl)
  obtain ⟨out, h1, h2⟩ := key
  subst h2
  rw [evSs_cons] at h1
  cases h3 : evS cs (.app i a) env m with
  | bad => rw [h3] at h1; cases h1
  | exc e m1 => rw [h3] at h1; cases h1
  | ok o m1 =>
    rw [h3, R.bind_ok] at h1
    cases o with
    | nx e1 => cases h1; rfl
    | ret v => cases h1
    | brk v => cases h1
    | ct v => cases h1
theorem WM.app {i : Nat} {xs : List α} {x : α} {k : List α → M σ β} {env1 : List α → Fr} (h : env[i]? = some (.own (.lst (xs.map e)))) (hx : X cs a env (some (e x))) (he : ∀ ys, env.set i (.own (.lst (ys.map e))) = env1 ys) (kk : ∀ ys, snocZ xs x = some ys → WM St cs ss (env1 ys) (k ys) q) :
    WM St cs (.cons (.app i a) ss) env (.lift (snocZ xs x) k) q := .lift fun ys hy => .step (fun m => by rw [app_run h hx hy m, he]) (kk ys hy)
/-- a name set by what may draw -/
theorem WM.asgM {i : Nat} {env1 : α → Fr} {n : M σ α} {n2 : α → M σ β} (hx : XM St cs a env e n) (he : ∀ x, env.set i (.val (e x)) = env1 x) (k : ∀ x, WM St cs ss (env1 x) (n2 x) q) : WM St cs (.cons (.asg i a) ss) env (n.bind n2) q := fun s k' hk m hm => by
  obtain ⟨m1, x, s1, h1, h2, h3⟩ := hx.asD hk hm
  obtain ⟨out, m2, y, s2, k1, k2, k3, k4⟩ := k x s1 k' h3 m1 h2
  refine ⟨out, m2, y, s2, ?_, k2, k3, k4⟩
  have e0 : evSs cs (.cons (.asg i a) ss) env m = ((Ev.asD (evX cs a env m)).bind fun d m1 => R.ok (Out.nx (env.set i (.val d))) m1).bind fun o m1 => match o with | .nx e => evSs cs ss e m1 | o => .ok o m1 := rfl
  rw [e0, h1, R.bind_ok, R.bind_ok, he]
  exact k1
theorem WM.asgMO {i : Nat} {env1 : List α → Fr} {n : M σ (List α)} {n2 : List α → M σ β} (hx : XMF St cs a env e n) (he : ∀ x, env.set i (.own (.lst (x.map e))) = env1 x) (k : ∀ x, WM St cs ss (env1 x) (n2 x) q) : WM St cs (.cons (.asgO i a) ss) env (n.bind n2) q := fun s k' hk m hm => by
  obtain ⟨m1, x, s1, h1, h2, h3⟩ := hx s _ hk m hm
  obtain ⟨out, m2, y, s2, k1, k2, k3, k4⟩ := k x s1 k' h3 m1 h2
  refine ⟨out, m2, y, s2, ?_, k2, k3, k4⟩
  have e0 : evSs cs (.cons (.asgO i a) ss) env m = ((Ev.asF (evX cs a env m)).bind fun c m1 => R.ok (Out.nx (env.set i (.own c))) m1).bind fun o m1 => match o with | .nx e => evSs cs ss e m1 | o => .ok o m1 := rfl
  have e1 : Ev.asF (evX cs a env m) = .ok (.lst (x.map e)) m1 := by
    show (evX cs a env m).bind _ = _
    rw [h1]
    rfl
  rw [e0, e1, R.bind_ok, R.bind_ok, he]
  exact k1
theorem WM.asgTM {is : List Nat} {env1 : α → Fr} {n : M σ α} {n2 : α → M σ β} (hx : XM St cs a env e n) (ht : ∀ x, setTg (.many is) (e x) env = some (env1 x)) (k : ∀ x, WM St cs ss (env1 x) (n2 x) q) : WM St cs (.cons (.asgT is a) ss) env (n.bind n2) q := fun s k' hk m hm => by
  obtain ⟨m1, x, s1, h1, h2, h3⟩ := hx.asD hk hm
  obtain ⟨out, m2, y, s2, k1, k2, k3, k4⟩ := k x s1 k' h3 m1 h2
  refine ⟨out, m2, y, s2, ?_, k2, k3, k4⟩
  have e0 : evSs cs (.cons (.asgT is a) ss) env m = ((Ev.asD (evX cs a env m)).bind fun d m1 => (opt (setTg (.many is) d env) m1).bind fun env1 m2 => R.ok (Out.nx env1) m2).bind fun o m1 => match o with | .nx e => evSs cs ss e m1 | o => .ok o m1 := rfl
  rw [e0, h1, R.bind_ok, ht]
  exact k1
theorem WM.ret {x : β} {d : D} (hx : X cs a env (some d)) (h : ∀ rv, rv.dat = some d → q x (.ret rv)) : WM St cs (.cons (.ret a) ss) env (.ret x) q := fun s k hk m hm => by
  obtain ⟨out, h1, h2⟩ := W.ret (ss := ss) hx h m x rfl
  exact ⟨out, m, x, s, h1, hm, h2, hk⟩
theorem WM.retM {n : M σ α} {v : α → β} (hx : XM St cs a env e n) (h : ∀ x rv, rv.dat = some (e x) → q (v x) (.ret rv)) : WM St cs (.cons (.ret a) ss) env (n.bind fun x => .ret (v x)) q := fun s k hk m hm => by
  obtain ⟨m1, x, s1, h1, h2, h3⟩ := hx.asD hk hm
  refine ⟨.ret (.d (e x)), m1, v x, s1, ?_, h2, h x _ rfl, h3⟩
  have e0 : evSs cs (.cons (.ret a) ss) env m = ((Ev.asD (evX cs a env m)).bind fun d m1 => R.ok (Out.ret (.d d)) m1).bind fun o m1 => match o with | .nx e => evSs cs ss e m1 | o => .ok o m1 := rfl
  rw [e0, h1]
  rfl
theorem WM.retO {x : β} {ds : List D} (hx : XF cs a env (some ds)) (h : q x (.ret (.f (.lst ds)))) : WM St cs (.cons (.retO a) ss) env (.ret x) q := fun s k hk m hm => by
  obtain ⟨out, h1, h2⟩ := W.retO (ss := ss) hx h m x rfl
  exact ⟨out, m, x, s, h1, hm, h2, hk⟩
theorem WM.retN {x : β} (h : q x (.ret (.d .non))) : WM St cs (.cons .retN ss) env (.ret x) q := fun s k hk m hm => ⟨_, m, x, s, rfl, hm, h, hk⟩
theorem WM.brk {x : β} (h : q x (.brk env)) : WM St cs (.cons .brk ss) env (.ret x) q := fun s k hk m hm => ⟨_, m, x, s, rfl, hm, h, hk⟩
theorem WM.cont {x : β} (h : q x (.ct env)) : WM St cs (.cons .cont ss) env (.ret x) q := fun s k hk m hm => ⟨_, m, x, s, rfl, hm, h, hk⟩
theorem ite_run (sa sb : Sts) (m : Mem) : evSs cs (.cons (.ite c sa sb) ss) env m = ((Ev.asB (evX cs c env m)).bind fun t m1 => if t then evSs cs sa env m1 else evSs cs sb env m1).bind fun o m1 => match o with | .nx e => evSs cs ss e m1 | o => .ok o m1 := rfl
theorem WM.iteM {n : M σ Bool} {sa sb : Sts} {n1 n2 : M σ β} (hc : XM St cs c env eB n) (ha : WM St cs (stApp sa ss) env n1 q) (hb : WM St cs (stApp sb ss) env n2 q) : WM St cs (.cons (.ite c sa sb) ss) env (n.bind fun t => if t = true then n1 else n2) q := fun s k hk m hm => by
  obtain ⟨m1, t, s1, h1, h2, h3⟩ := hc.asB hk hm
  cases t with
  | true =>
    obtain ⟨out, m2, y, s2, k1, k2⟩ := ha s1 k h3 m1 h2
    refine ⟨out, m2, y, s2, ?_, k2⟩
    rw [ite_run, h1, R.bind_ok, if_pos rfl]
    exact (evSs_app sa env m1).symm.trans k1
  | false =>
    obtain ⟨out, m2, y, s2, k1, k2⟩ := hb s1 k h3 m1 h2
    refine ⟨out, m2, y, s2, ?_, k2⟩
    rw [ite_run, h1, R.bind_ok, if_neg Bool.false_ne_true]
    exact (evSs_app sb env m1).symm.trans k1
theorem WM.ite {t : Bool} {sa sb : Sts} {n1 n2 : M σ β} (hc : X cs c env (some (eB t))) (ha : WM St cs (stApp sa ss) env n1 q) (hb : WM St cs (stApp sb ss) env n2 q) : WM St cs (.cons (.ite c sa sb) ss) env (if t = true then n1 else n2) q := by
  have := WM.iteM (St := St) (n := .ret t) (XM.pure hc) ha hb
  exact this
theorem WM.joinM {n : M σ Bool} {sa sb : Sts} {enc : τ → Fr} {n1 n2 : M σ τ} {k : τ → M σ β} (hc : XM St cs c env eB n) (ha : WM St cs sa env n1 (qN enc)) (hb : WM St cs sb env n2 (qN enc)) (hk : ∀ s, WM St cs ss (enc s) (k s) q) :
    WM St cs (.cons (.ite c sa sb) ss) env (n.bind fun t => (if t = true then n1 else n2).bind k) q := fun s k' hk' m hm => by
  obtain ⟨m1, t, s1, h1, h2, h3⟩ := hc.asB hk' hm
  cases t with
  | true =>
    obtain ⟨o1, m2, y, s2, k1, k2, k3, k4⟩ := ha s1 _ h3 m1 h2
    have k3 : o1 = .nx (enc y) := k3
    subst k3
    obtain ⟨out, m3, z, s3, l1, l2⟩ := hk y s2 k' k4 m2 k2
    refine ⟨out, m3, z, s3, ?_, l2⟩
    rw [ite_run, h1, R.bind_ok, if_pos rfl, k1]
    exact l1
  | false =>
    obtain ⟨o1, m2, y, s2, k1, k2, k3, k4⟩ := hb s1 _ h3 m1 h2
    have k3 : o1 = .nx (enc y) := k3
    subst k3
    obtain ⟨out, m3, z, s3, l1, l2⟩ := hk y s2 k' k4 m2 k2
    refine ⟨out, m3, z, s3, ?_, l2⟩
    rw [ite_run, h1, R.bind_ok, if_neg Bool.false_ne_true, k1]
    exact l1
theorem WM.join {t : Bool} {sa sb : Sts} {enc : τ → Fr} {n1 n2 : M σ τ} {k : τ → M σ β} (hc : X cs c env (some (eB t))) (ha : WM St cs sa env n1 (qN enc)) (hb : WM St cs sb env n2 (qN enc)) (hk : ∀ s, WM St cs ss (enc s) (k s) q) :
    WM St cs (.cons (.ite c sa sb) ss) env ((if t = true then n1 else n2).bind k) q := WM.joinM (St := St) (n := .ret t) (XM.pure hc) ha hb hk
/-! loops -/
def forM {σ α τ ρ : Type} (g : α → τ → M σ (Lp τ ρ)) : List α → τ → M σ (Lp τ ρ)
  | [], s => .ret (.nx s)
  | x :: xs, s => (g x s).bind fun l => match l with
    | .nx s => forM g xs s
    | .brk s => .ret (.brk s)
    | .ret r => .ret (.ret r)
def lpM {σ τ ρ β : Type} (k : τ → M σ β) (kr : ρ → β) : Lp τ ρ → M σ β
  | .nx s => k s
  | .brk s => k s
  | .ret r => .ret (kr r)
theorem for_turnsM {fn : D → Fr → Mem → R Out} {enc : τ → Fr} {qr : ρ → Out → Prop} {g : α → τ → M σ (Lp τ ρ)} (h : ∀ x t s k, g x t s k → ∀ m, St s m → ∃ out m' l s', fn (e x) (enc t) m = .ok out m' ∧ St s' m' ∧ qL enc qr l out ∧ k l s') : ∀ (xs : List α) (t : τ) s k, forM g xs t s k → ∀ m, St s m →
    ∃ out m' l s', forLoop fn (xs.map e) (enc t) m = .ok out m' ∧ St s' m' ∧ (match l with | .nx s => out = .nx (enc s) | .brk s => out = .nx (enc s) | .ret r => qr r out ∧ ∃ rv, out = .ret rv) ∧ k l s'
  | [], t, s, k, hk, m, hm => ⟨_, m, .nx t, s, rfl, hm, rfl, hk⟩
  | x :: xs, t, s, k, hk, m, hm => by
    obtain ⟨out, m1, l1, s1, h1, h2, h3, h4⟩ := h x t s _ hk m hm
    have e0 : forLoop fn ((x :: xs).map e) (enc t) m = (fn (e x) (enc t) m).bind fun o m1 => match o with
      | .nx e1 => forLoop fn (xs.map e) e1 m1
      | .ct e1 => forLoop fn (xs.map e) e1 m1
      | .brk e => .ok (.nx e) m1
      | .ret v => .ok (.ret v) m1 := rfl
    rw [e0, h1, R.bind_ok]
    cases l1 with
    | nx t1 =>
      obtain ⟨out2, m2, l2, s2, k1, k2⟩ := for_turnsM h xs t1 s1 k h4 m1 h2
      rcases h3 with rfl | rfl <;> exact ⟨out2, m2, l2, s2, k1, k2⟩
    | brk t1 =>
      have h3 : out = .brk (enc t1) := h3
      subst h3
      exact ⟨_, m1, .brk t1, s1, rfl, h2, rfl, h4⟩
    | ret r =>
      obtain ⟨h5, rv, rfl⟩ := h3
      exact ⟨_, m1, .ret r, s1, rfl, h2, ⟨h5, rv, rfl⟩, h4⟩
theorem WM.for {tg : Tg} {it : It} {body : Sts} {enc : τ → Fr} {xs : List α} {env1 : α → τ → Fr} {g : α → τ → M σ (Lp τ ρ)} {qr : ρ → Out → Prop} {t0 : τ} {k : τ → M σ β} {kr : ρ → β}
    (hi : XI cs it true (enc t0) (xs.map e)) (ht : ∀ x t, setTg tg (e x) (enc t) = some (env1 x t)) (hb : ∀ x t, WM St cs body (env1 x t) (g x t) (qL enc qr)) (hr : ∀ r rv, qr r (.ret rv) → q (kr r) (.ret rv)) (hk : ∀ t, WM St cs ss (enc t) (k t) q) :
    WM St cs (.cons (.for tg it body) ss) (enc t0) ((forM g xs t0).bind (lpM k kr)) q := fun s k' hk' m hm => by
  have e0 : evSs cs (.cons (.for tg it body) ss) (enc t0) m = ((evI cs it true (enc t0) m).bind fun xs m1 => forLoop (fun x e m2 => (opt (setTg tg x e) m2).bind fun e1 m3 => evSs cs body e1 m3) xs (enc t0) m1).bind fun o m1 => match o with | .nx e => evSs cs ss e m1 | o => .ok o m1 := rfl
  obtain ⟨out, m1, l, s1, h1, h2, h3, h4⟩ := for_turnsM (St := St) (fn := fun x e m2 => (opt (setTg tg x e) m2).bind fun e1 m3 => evSs cs body e1 m3) (enc := enc) (qr := qr) (e := e) (fun x t s k hk m hm => by
    obtain ⟨out, m1, l, s1, h1, h2⟩ := hb x t s k hk m hm
    exact ⟨out, m1, l, s1, by rw [ht, opt_some, R.bind_ok]; exact h1, h2⟩) xs t0 s _ hk' m hm
  rw [e0, hi, R.bind_ok, h1, R.bind_ok]
  cases l with
  | nx t =>
    have h3 : out = .nx (enc t) := h3
    subst h3
    exact hk t s1 k' h4 m1 h2
  | brk t =>
    have h3 : out = .nx (enc t) := h3
    subst h3
    exact hk t s1 k' h4 m1 h2
  | ret r =>
    obtain ⟨h5, rv, rfl⟩ := h3
    exact ⟨_, m1, kr r, s1, rfl, h2, hr _ _ h5, h4⟩
/-- a for that draws nothing, ahead of what may draw -/
theorem WM.forP {tg : Tg} {it : It} {body : Sts} {enc : τ → Fr} {xs : List α} {env1 : α → τ → Fr} {g : α → τ → Option (Lp τ ρ)} {qr : ρ → Out → Prop} {t0 : τ} {k : τ → M σ β} {kr : ρ → β}
    (hi : XI cs it true (enc t0) (xs.map e)) (ht : ∀ x t, setTg tg (e x) (enc t) = some (env1 x t)) (hb : ∀ x t, W cs body (env1 x t) (g x t) (qL enc qr)) (hr : ∀ r rv, qr r (.ret rv) → q (kr r) (.ret rv)) (hk : ∀ t, WM St cs ss (enc t) (k t) q) :
    WM St cs (.cons (.for tg it body) ss) (enc t0) (.lift (forO g xs t0) (lpM k kr)) q := fun s k' ⟨l, hl, hk'⟩ m hm => by
  have e0 : evSs cs (.cons (.for tg it body) ss) (enc t0) m = ((evI cs it true (enc t0) m).bind fun xs m1 => forLoop (fun x e m2 => (opt (setTg tg x e) m2).bind fun e1 m3 => evSs cs body e1 m3) xs (enc t0) m1).bind fun o m1 => match o with | .nx e => evSs cs ss e m1 | o => .ok o m1 := rfl
  obtain ⟨out, h1, h3⟩ := for_turns (fn := fun x e m2 => (opt (setTg tg x e) m2).bind fun e1 m3 => evSs cs body e1 m3) (qr := qr) (m := m) (fun x s l h => by
    obtain ⟨out, e1, e2⟩ := hb x s m l h
    exact ⟨out, by rw [ht, opt_some, R.bind_ok]; exact e1, e2⟩) xs t0 l hl
  rw [e0, hi, R.bind_ok, h1, R.bind_ok]
  cases l with
  | nx t =>
    have h3 : out = .nx (enc t) := h3
    subst h3
    exact hk t s k' hk' m hm
  | brk t =>
    have h3 : out = .nx (enc t) := h3
    subst h3
    exact hk t s k' hk' m hm
  | ret r =>
    obtain ⟨h5, rv, rfl⟩ := h3
    exact ⟨_, m, kr r, s, rfl, hm, hr _ _ h5, hk'⟩
theorem WM.foldP {tg : Tg} {it : It} {body : Sts} {enc : τ → Fr} {xs : List α} {env1 : α → τ → Fr} {g : α → τ → Option τ} {t0 : τ} {k : τ → M σ β}
    (hi : XI cs it true (enc t0) (xs.map e)) (ht : ∀ x t, setTg tg (e x) (enc t) = some (env1 x t)) (hb : ∀ x t, W cs body (env1 x t) (g x t) (qN enc)) (hk : ∀ t, WM St cs ss (enc t) (k t) q) :
    WM St cs (.cons (.for tg it body) ss) (enc t0) (.lift (foldO g xs t0) k) q := fun s k' ⟨t, ht', hk'⟩ m hm => by
  have key := WM.forP (St := St) (ss := ss) (q := q) (body := body) (k := k) (kr := fun r : Empty => nomatch r) (qr := fun r => nomatch r) (g := fun x s => (g x s).map Lp.nx) hi ht (fun x s m l hl => by
    obtain ⟨s1, h1, rfl⟩ := Option.map_eq_some_iff.mp hl
    obtain ⟨out, e1, e2⟩ := hb x s m s1 h1
    exact ⟨out, e1, .inl e2⟩) (fun r => nomatch r) hk
  exact key s k' ⟨.nx t, by rw [forO_fold, ht']; rfl, hk'⟩ m hm
/-- a while that draws nothing, ahead of what may draw -/
theorem WM.whlP {body : Sts} {enc : τ → Fr} {cn : τ → Option Bool} {g : τ → Option (Lp τ ρ)} {qr : ρ → Out → Prop} {t0 : τ} {k : τ → M σ β} {kr : ρ → β} {w : Nat} (hw : cs.w = w)
    (hc : ∀ s, X cs c (enc s) ((cn s).map eB)) (hb : ∀ s, W cs body (enc s) (g s) (qL enc qr)) (hr : ∀ r rv, qr r (.ret rv) → q (kr r) (.ret rv)) (hk : ∀ t, WM St cs ss (enc t) (k t) q) :
    WM St cs (.cons (.whl c body) ss) (enc t0) (.lift (whlO cn g w t0) (lpM k kr)) q := fun s k' ⟨l, hl, hk'⟩ m hm => by
  subst hw
  have e0 : evSs cs (.cons (.whl c body) ss) (enc t0) m = (whlLoop (fun e m => Ev.asB (evX cs c e m)) (fun e m => evSs cs body e m) cs.w (enc t0) m).bind fun o m1 => match o with | .nx e => evSs cs ss e m1 | o => .ok o m1 := rfl
  obtain ⟨out, h1, h3⟩ := whl_turns (cn := fun e m => Ev.asB (evX cs c e m)) (fn := fun e m => evSs cs body e m) (qr := qr) (m := m) (fun s t h => by
    have := hc s
    rw [h] at this
    exact this.asB m) (fun s l h => hb s m l h) cs.w t0 l hl
  rw [e0, h1, R.bind_ok]
  cases l with
  | nx t =>
    have h3 : out = .nx (enc t) := h3
    subst h3
    exact hk t s k' hk' m hm
  | brk t =>
    have h3 : out = .nx (enc t) := h3
    subst h3
    exact hk t s k' hk' m hm
  | ret r =>
    obtain ⟨h5, rv, rfl⟩ := h3
    exact ⟨_, m, kr r, s, rfl, hm, hr _ _ h5, hk'⟩
/-- an if that draws nothing and whose ways meet -/
theorem WM.joinP {t : Bool} {sa sb : Sts} {enc : τ → Fr} {o1 o2 : Option τ} {k : τ → M σ β} (hc : X cs c env (some (eB t))) (ha : t = true → W cs sa env o1 (qN enc)) (hb : t = false → W cs sb env o2 (qN enc)) (hk : ∀ s, WM St cs ss (enc s) (k s) q) :
    WM St cs (.cons (.ite c sa sb) ss) env (.lift (if t = true then o1 else o2) k) q := fun s k' ⟨x, hx, hk'⟩ m hm => by
  cases t with
  | true =>
    obtain ⟨out, h1, h2⟩ := ha rfl m x hx
    have h2 : out = .nx (enc x) := h2
    subst h2
    obtain ⟨out, m3, z, s3, l1, l2⟩ := hk x s k' hk' m hm
    refine ⟨out, m3, z, s3, ?_, l2⟩
    rw [ite_run, hc.asB, R.bind_ok, if_pos rfl, h1]
    exact l1
  | false =>
    obtain ⟨out, h1, h2⟩ := hb rfl m x hx
    have h2 : out = .nx (enc x) := h2
    subst h2
    obtain ⟨out, m3, z, s3, l1, l2⟩ := hk x s k' hk' m hm
    refine ⟨out, m3, z, s3, ?_, l2⟩
    rw [ite_run, hc.asB, R.bind_ok, if_neg Bool.false_ne_true, h1]
    exact l1
/-! a def that draws -/
theorem FM.of {fns : List Fn} {w k t : Nat} {fn : Fn} {as : List Ar} {n : M σ α} (h : fns[t]? = some fn) (hi : fn.ini = false) (hl : as.length = fn.np) (hlen : ∀ s s' m m', St s m → St s' m' → m'.length = m.length) (hw : WM St ⟨callN fns w k, callN fns w (k - 1), w⟩ fn.body (entry fn as) n (qR e)) : FM St (callN fns w (k + 1)) t as e n := fun s k' hk m hm => by
  obtain ⟨out, m', x, s', h1, h2, h3, h4⟩ := hw s k' hk m hm
  have len := hlen s s' m m' hm h2
  rw [call_eq h]
  unfold runF
  rw [if_pos (by rw [hi]; simpa using hl), h1, R.bind_ok, hi]
  have tk : m'.take m.length = m' := by rw [← len, List.take_length]
  rcases h3 with ⟨rv, rfl, e2⟩ | ⟨e2, e3, rfl⟩
  · exact ⟨rv, m', x, s', by show R.ok rv (m'.take m.length) = _; rw [tk], len, h2, e2, h4⟩
  · exact ⟨.d .non, m', x, s', by show R.ok (Rv.d .non) (m'.take m.length) = _; rw [tk], len, h2, by rw [e2]; rfl, h4⟩
/-! the draws -/
/-- a number below l, whatever it is -/
def pickM {σ : Type} (l : Int) : M σ Int := fun s k => 0 < l ∧ divOk l = true ∧ ∀ d, 0 ≤ d → d < l → k d s
end
end Ev

set_option linter.all false
set_option maxRecDepth 100000
/-! Sg5: a shared dict whose keys are tuples; the law's state; one kind and equal. -/
namespace Ev
open PySem
open L2 (ixN)
open HT (sIx lexLt)
abbrev KV := List (D × D)
def stDrop : Nat → Sts → Sts
  | 0, ss => ss
  | _ + 1, .nil => .nil
  | n + 1, .cons _ ss => stDrop n ss
/-- the cell j holds this dict, all else is as in m0 -/
def StD (m0 : Mem) (j : Nat) (kvs : KV) (m : Mem) : Prop := j < m0.length ∧ m = m0.set j (.dx kvs)
theorem std_len {m0 : Mem} {j : Nat} (s s' : KV) (m m' : Mem) (h : StD m0 j s m) (h' : StD m0 j s' m') : m'.length = m.length := by
  rw [h.2, h'.2, List.length_set, List.length_set]
theorem StD.get {m0 : Mem} {j : Nat} {kvs : KV} {m : Mem} (h : StD m0 j kvs m) : m[j]? = some (.dx kvs) := by
  rw [h.2]
  exact List.getElem?_set_self h.1
theorem StD.put {m0 : Mem} {j : Nat} {kvs kvs' : KV} {m : Mem} (h : StD m0 j kvs m) : StD m0 j kvs' (m.set j (.dx kvs')) := by
  refine ⟨h.1, ?_⟩
  rw [h.2, List.set_set]
section
variable {m0 : Mem} {j : Nat} {cs : Cs} {a b c : Ex} {env : Fr} {α β γ : Type} {e : α → D} {f : β → D} {ss : Sts} {q : γ → Out → Prop}
def inM (d : D) : M KV Bool := fun kvs k => keyOk true d = true ∧ k (dget kvs d).isSome kvs
def getM {β : Type} (f : β → D) (d : D) : M KV β := fun kvs k => keyOk true d = true ∧ ∃ x, dget kvs d = some (f x) ∧ k x kvs
def putM (d v : D) : M KV Unit := fun kvs k => keyOk true d = true ∧ kvs.length < line ∧ k () (dput kvs d v)
theorem look_cell {i : Nat} (h : env[i]? = some (.cell j)) (m : Mem) : bor (varOf (.var i)) env m (evX cs (.var i) env m) = .ok (.r j) m := by
  show Ev.opt (look env m i) m = _
  unfold look
  rw [h]
  rfl
theorem XM.inD {i : Nat} {x : α} (hv : ∀ v, vOk v (e x) → v = .d (e x)) (hi : env[i]? = some (.cell j)) (ha : XB cs a env (some (e x))) : XM (StD m0 j) cs (.cmp .isin a (.var i)) env eB (inM (e x)) := fun s k ⟨hk, hq⟩ m hm => by
  obtain ⟨v, h1, h2⟩ := ha m _ rfl
  have := hv v h2
  subst this
  refine ⟨.d (.bl (dget s (e x)).isSome), m, _, s, ?_, hm, rfl, hq⟩
  show (bor _ _ _ _).bind _ = _
  rw [h1, R.bind_ok, look_cell hi, R.bind_ok]
  have hr : Vw.at m (.r j) = .c (.dx s) := by
    show (match m[j]? with | some x => Vw.c x | none => .r j) = _
    rw [hm.get]
  rw [hr, h2.at]
  show (Ev.opt (if keyOk true (e x) = true then some (dget s (e x)).isSome else none) m).bind _ = _
  rw [if_pos hk]
  rfl
theorem XM.notinD {i : Nat} {x : α} (hv : ∀ v, vOk v (e x) → v = .d (e x)) (hi : env[i]? = some (.cell j)) (ha : XB cs a env (some (e x))) : XM (StD m0 j) cs (.cmp .notin a (.var i)) env eB ((inM (e x)).bind fun t => .ret (!t)) := fun s k ⟨hk, hq⟩ m hm => by
  obtain ⟨v, h1, h2⟩ := ha m _ rfl
  have := hv v h2
  subst this
  refine ⟨.d (.bl (!(dget s (e x)).isSome)), m, _, s, ?_, hm, rfl, hq⟩
  show (bor _ _ _ _).bind _ = _
  rw [h1, R.bind_ok, look_cell hi, R.bind_ok]
  have hr : Vw.at m (.r j) = .c (.dx s) := by
    show (match m[j]? with | some x => Vw.c x | none => .r j) = _
    rw [hm.get]
  rw [hr, h2.at]
  show (Ev.opt ((if keyOk true (e x) = true then some (dget s (e x)).isSome else none).map (!·)) m).bind _ = _
  rw [if_pos hk]
  rfl
theorem XM.getD {i : Nat} {x : α} (hi : env[i]? = some (.cell j)) (ha : X cs a env (some (e x))) : XM (StD m0 j) cs (.idx (.var i) a) env f (getM f (e x)) := fun s k ⟨hk, y, hy, hq⟩ m hm => by
  refine ⟨.d (f y), m, y, s, ?_, hm, rfl, hq⟩
  show (bor _ _ _ _).bind _ = _
  rw [look_cell hi, R.bind_ok, ha.asD, R.bind_ok]
  have hr : Vw.at m (.r j) = .c (.dx s) := by
    show (match m[j]? with | some x => Vw.c x | none => .r j) = _
    rw [hm.get]
  rw [hr]
  show (Ev.opt (if keyOk true (e x) = true then dget s (e x) else none) m).bind _ = _
  rw [if_pos hk, hy]
  rfl
theorem WM.putD {i : Nat} {x : α} {y : β} {n : M KV γ} (hi : env[i]? = some (.cell j)) (hy : X cs b env (some (f y))) (hx : X cs a env (some (e x))) (k : WM (StD m0 j) cs ss env n q) : WM (StD m0 j) cs (.cons (.setI i a b) ss) env ((putM (e x) (f y)).bind fun _ => n) q := fun s k' ⟨hk, hl, hq⟩ m hm => by
  obtain ⟨out, m', z, s', h1, h2, h3, h4⟩ := k _ k' hq _ (hm.put (kvs' := dput s (e x) (f y)))
  refine ⟨out, m', z, s', ?_, h2, h3, h4⟩
  have hg : getC env m i = some (.dx s) := by unfold getC; rw [hi]; exact hm.get
  have e0 : evSs cs (.cons (.setI i a b) ss) env m = ((Ev.asD (evX cs b env m)).bind fun x m1 => (Ev.asD (evX cs a env m1)).bind fun y m2 => (opt ((getC env m2 i).bind fun c => (setC c y x).bind fun c' => putC env m2 i c') m2).bind fun p _ => R.ok (Out.nx p.1) p.2).bind fun o m1 => match o with | .nx e => evSs cs ss e m1 | o => .ok o m1 := rfl
  rw [e0, hy.asD, R.bind_ok, hx.asD, R.bind_ok, hg]
  have hs : setC (.dx s) (e x) (f y) = some (.dx (dput s (e x) (f y))) := by
    show (if (keyOk true (e x) && decide (s.length < line)) = true then some (Ct.dx (dput s (e x) (f y))) else none) = _
    rw [hk, decide_eq_true hl]
    rfl
  show ((opt ((setC (.dx s) (e x) (f y)).bind fun c' => putC env m i c') m).bind _).bind _ = _
  rw [hs]
  show ((opt (putC env m i (.dx (dput s (e x) (f y)))) m).bind _).bind _ = _
  unfold putC
  rw [hi]
  exact h1
/-- a def with a dict of its own, made first -/
theorem local_dict {fns : List Fn} {w k t i : Nat} {fn : Fn} {as : List Ar} {n : M KV α} {rest : Sts} (h : fns[t]? = some fn) (hi : fn.ini = false) (hl : as.length = fn.np) (hb : fn.body = .cons (.asgC i (.d0 true)) rest)
    (hw : ∀ m : Mem, WM (StD (m ++ [.dx []]) m.length) ⟨callN fns w k, callN fns w (k - 1), w⟩ rest ((entry fn as).set i (.cell m.length)) n (qR e)) {x : α} (hx : n [] (fun r _ => r = x)) (m : Mem) : ∃ rv, callN fns w (k + 1) t as m = .ok rv m ∧ rv.dat = some (e x) := by
  have st : StD (m ++ [.dx []]) m.length [] (m ++ [.dx []]) := ⟨by simp, by simp⟩
  obtain ⟨out, m', y, s', h1, h2, h3, rfl⟩ := hw m [] _ hx _ st
  have tk : m'.take m.length = m := by
    rw [h2.2]
    simp
  rw [call_eq h]
  unfold runF
  have e0 : evSs ⟨callN fns w k, callN fns w (k - 1), w⟩ fn.body (entry fn as) m = .ok out m' := by rw [hb]; exact h1
  rw [if_pos (by rw [hi]; simpa using hl), e0, R.bind_ok, hi]
  rcases h3 with ⟨rv, rfl, e2⟩ | ⟨e2, e3, rfl⟩
  · exact ⟨rv, by show R.ok rv (m'.take m.length) = _; rw [tk], e2⟩
  · exact ⟨.d .non, by show R.ok (Rv.d .non) (m'.take m.length) = _; rw [tk], by rw [e2]; rfl⟩
/-! a call that is handed a new dict -/
def AsN (cs : Cs) (es : Exs) (env : Fr) (as : List Ar) : Prop := ∀ m, evAs cs es env m = .ok (as ++ [.c m.length]) (m ++ [.dx []])
theorem AsN.last : AsN cs (.cons (.d0 true) .nil) env [] := fun m => rfl
theorem AsN.cons {es : Exs} {d : D} {as : List Ar} (h : X cs a env (some d)) (k : AsN cs es env as) : AsN cs (.cons a es) env (.d d :: as) := fun m => by
  have e1 := As.cons h As.nil m
  have e2 : ∀ r : R Ar, (r.bind fun a m1 => (evAs cs .nil env m1).bind fun as m2 => R.ok (a :: as) m2) = .ok [.d d] m → (r.bind fun a m1 => (evAs cs es env m1).bind fun as m2 => R.ok (a :: as) m2) = .ok (.d d :: as ++ [.c m.length]) (m ++ [.dx []]) := fun r hr => by
    obtain ⟨x, m1, rfl, h2⟩ := R.bind_eq_ok hr
    cases h2
    rw [R.bind_ok, k]
    rfl
  exact e2 _ e1
def FkN (cf : CF) (f : Nat) (as : List Ar) (o : Option D) : Prop := ∀ m d, o = some d → ∃ rv m', cf f (as ++ [.c m.length]) (m ++ [.dx []]) = .ok rv m' ∧ rv.dat = some d ∧ m'.take m.length = m
theorem X.callNew {es : Exs} {as : List Ar} {t : Nat} {o : Option D} (h : AsN cs es env as) (k : FkN cs.f t as o) : X cs (.call t es) env o := fun m d hd => by
  obtain ⟨rv, m', h1, h2, h3⟩ := k m d hd
  refine ⟨rv, ?_, h2⟩
  show (evAs cs es env m).bind _ = _
  rw [h, R.bind_ok, h1, R.bind_ok, h3]
theorem FkN.of {cf : CF} {t : Nat} {as : List Ar} {n : M KV α} {x : α} (h : ∀ m0 j, FM (StD m0 j) cf t (as ++ [.c j]) e n) (hx : n [] (fun r _ => r = x)) : FkN cf t as (some (e x)) := fun m d hd => by
  cases hd
  have st : StD (m ++ [.dx []]) m.length [] (m ++ [.dx []]) := ⟨by simp, by simp⟩
  obtain ⟨rv, m', y, s', h1, h2, h3, h4, rfl⟩ := h (m ++ [.dx []]) m.length [] _ hx _ st
  refine ⟨rv, m', h1, h4, ?_⟩
  rw [h3.2]
  simp
end
end Ev

namespace Ev
open PySem
def f_is_count : Fn := ⟨1, 1, false,
      (.cons (.ret (.and (.cons (.isi .int (.var 0)) (.cons (.not (.isi .bool (.var 0))) (.cons (.cmp .ge (.var 0) (.int 0)) .nil))))) .nil)⟩
def f_start_state : Fn := ⟨2, 2, false,
      (.cons (.ret (.bin .add (.tup (.cons (.var 0) .nil)) (.bin .mul (.tup (.cons (.int 0) .nil)) (.var 1)))) .nil)⟩
def f_behind_yes : Fn := ⟨2, 4, false,
      (.cons (.asgO 2 (.lst .nil)) (.cons (.for (.one 3) (.rng (.cons (.bi .len (.cons (.var 0) .nil)) .nil)) (.cons (.app 2 (.bin .add (.idx (.var 1) (.var 3)) (.ite (.cmp .gt (.var 3) (.int 0)) (.bin .sub (.idx (.var 0) (.bin .sub (.var 3) (.int 1))) (.idx (.var 1) (.bin .sub (.var 3) (.int 1)))) (.int 0)))) (.cons (.fgt 3) .nil))) (.cons (.ret (.bi .tuple (.cons (.var 2) .nil))) .nil)))⟩
def f_behind_no : Fn := ⟨2, 3, false,
      (.cons (.ret (.call 2 (.cons (.var 0) (.cons (.bi .tuple (.cons (.lc (.one 2) (.rng (.cons (.bi .len (.cons (.var 0) .nil)) .nil)) .no (.bin .sub (.idx (.var 0) (.var 2)) (.idx (.var 1) (.var 2)))) .nil)) .nil)))) .nil)⟩
def f_choose : Fn := ⟨2, 4, false,
      (.cons (.asg 2 (.int 1)) (.cons (.for (.one 3) (.rng (.cons (.var 1) .nil)) (.cons (.asg 2 (.bin .fdiv (.bin .mul (.var 2) (.bin .sub (.var 0) (.var 3))) (.bin .add (.var 3) (.int 1)))) (.cons (.fgt 3) .nil))) (.cons (.ret (.ite (.cmp .le (.var 1) (.var 0)) (.var 2) (.int 0))) .nil)))⟩
def f_balls : Fn := ⟨2, 3, false,
      (.cons (.ret (.bi .sum (.cons (.lc (.one 2) (.rng (.cons (.bin .add (.var 1) (.int 1)) .nil)) .no (.call 4 (.cons (.var 0) (.cons (.var 2) .nil)))) .nil))) .nil)⟩
def f_volume : Fn := ⟨2, 3, false,
      (.cons (.ret (.bi .sum (.cons (.lc (.one 2) (.rng (.cons (.bi .len (.cons (.var 0) .nil)) .nil)) .no (.bin .mul (.idx (.var 0) (.var 2)) (.call 5 (.cons (.var 1) (.cons (.bin .sub (.bin .sub (.bi .len (.cons (.var 0) .nil)) (.int 1)) (.var 2)) .nil))))) .nil))) .nil)⟩
def f_all_asked : Fn := ⟨1, 5, false,
      (.cons (.asg 1 (.lst (.cons (.tup .nil) .nil))) (.cons (.for (.one 2) (.seq (.var 0)) (.cons (.asg 1 (.lc2 (.one 3) (.seq (.var 1)) .no (.one 4) (.rng (.cons (.bin .add (.var 2) (.int 1)) .nil)) .no (.bin .add (.var 3) (.tup (.cons (.var 4) .nil))))) (.cons (.fgt 2) .nil))) (.cons (.ret (.lc (.one 3) (.seq (.var 1)) (.cmp .le (.var 3) (.bi .tuple (.cons (.lc (.one 4) (.rng (.cons (.bi .len (.cons (.var 0) .nil)) .nil)) .no (.bin .sub (.idx (.var 0) (.var 4)) (.idx (.var 3) (.var 4)))) .nil))) (.var 3))) .nil)))⟩
def f_can_tell : Fn := ⟨3, 7, false,
      (.cons (.ite (.cmp .lt (.bi .sum (.cons (.var 0) .nil)) (.int 2)) (.cons (.ret (.bl true)) .nil) .nil) (.cons (.ite (.cmp .gt (.call 6 (.cons (.var 0) (.cons (.var 1) .nil))) (.bin .shl (.int 1) (.var 1))) (.cons (.ret (.bl false)) .nil) .nil) (.cons (.asg 3 (.bin .add (.var 0) (.tup (.cons (.var 1) .nil)))) (.cons (.ite (.cmp .notin (.var 3) (.var 2)) (.cons (.setI 2 (.var 3) (.bl false)) (.cons (.for (.one 4) (.seq (.call 7 (.cons (.var 0) .nil))) (.cons (.asgT [5, 6] (.tup (.cons (.call 2 (.cons (.var 0) (.cons (.var 4) .nil))) (.cons (.call 3 (.cons (.var 0) (.cons (.var 4) .nil))) .nil)))) (.cons (.ite (.and (.cons (.call 8 (.cons (.var 5) (.cons (.bin .sub (.var 1) (.int 1)) (.cons (.var 2) .nil)))) (.cons (.call 8 (.cons (.var 6) (.cons (.bin .sub (.var 1) (.int 1)) (.cons (.var 2) .nil)))) .nil))) (.cons (.setI 2 (.var 3) (.bl true)) (.cons (.fgt 4) (.cons (.fgt 5) (.cons (.fgt 6) (.cons .brk .nil))))) .nil) (.cons (.fgt 4) (.cons (.fgt 5) (.cons (.fgt 6) .nil)))))) .nil)) .nil) (.cons (.ret (.idx (.var 2) (.var 3))) .nil)))))⟩
def f_least_asked : Fn := ⟨2, 4, false,
      (.cons (.asgC 2 (.d0 true)) (.cons (.for (.one 3) (.rng (.cons (.bin .add (.var 1) (.int 1)) .nil)) (.cons (.ite (.call 8 (.cons (.var 0) (.cons (.var 3) (.cons (.var 2) .nil)))) (.cons (.ret (.var 3)) .nil) .nil) (.cons (.fgt 3) .nil))) (.cons (.ret .non) .nil)))⟩
def f_lie_tree : Fn := ⟨2, 3, false,
      (.cons (.asgC 2 (.d0 true)) (.cons (.ret (.ite (.call 8 (.cons (.var 0) (.cons (.var 1) (.cons (.var 2) .nil)))) (.call 11 (.cons (.var 0) (.cons (.var 1) (.cons (.var 2) .nil)))) .non)) .nil))⟩
def f_lie_tree_from : Fn := ⟨3, 6, false,
      (.cons (.ite (.cmp .lt (.bi .sum (.cons (.var 0) .nil)) (.int 2)) (.cons (.ret (.tup (.cons (.str ⟨#[116, 111, 108, 100]⟩) .nil))) .nil) .nil) (.cons (.for (.one 3) (.seq (.call 7 (.cons (.var 0) .nil))) (.cons (.asgT [4, 5] (.tup (.cons (.call 2 (.cons (.var 0) (.cons (.var 3) .nil))) (.cons (.call 3 (.cons (.var 0) (.cons (.var 3) .nil))) .nil)))) (.cons (.ite (.and (.cons (.call 8 (.cons (.var 4) (.cons (.bin .sub (.var 1) (.int 1)) (.cons (.var 2) .nil)))) (.cons (.call 8 (.cons (.var 5) (.cons (.bin .sub (.var 1) (.int 1)) (.cons (.var 2) .nil)))) .nil))) (.cons (.ret (.tup (.cons (.str ⟨#[97, 115, 107]⟩) (.cons (.var 3) (.cons (.call 11 (.cons (.var 4) (.cons (.bin .sub (.var 1) (.int 1)) (.cons (.var 2) .nil)))) (.cons (.call 11 (.cons (.var 5) (.cons (.bin .sub (.var 1) (.int 1)) (.cons (.var 2) .nil)))) .nil)))))) .nil) .nil) (.cons (.fgt 3) (.cons (.fgt 4) (.cons (.fgt 5) .nil)))))) (.cons (.ret .non) .nil)))⟩
def f_is_lie_tree : Fn := ⟨3, 6, false,
      (.cons (.ite (.cmp .eq (.var 2) (.tup (.cons (.str ⟨#[116, 111, 108, 100]⟩) .nil))) (.cons (.ret (.cmp .lt (.bi .sum (.cons (.var 0) .nil)) (.int 2))) .nil) .nil) (.cons (.ite (.or (.cons (.not (.isi .tup (.var 2))) (.cons (.cmp .ne (.bi .len (.cons (.var 2) .nil)) (.int 4)) (.cons (.cmp .ne (.idx (.var 2) (.int 0)) (.str ⟨#[97, 115, 107]⟩)) (.cons (.cmp .eq (.var 1) (.int 0)) .nil))))) (.cons (.ret (.bl false)) .nil) .nil) (.cons (.asg 3 (.idx (.var 2) (.int 1))) (.cons (.ite (.or (.cons (.not (.isi .tup (.var 3))) (.cons (.cmp .ne (.bi .len (.cons (.var 3) .nil)) (.bi .len (.cons (.var 0) .nil))) (.cons (.not (.bi .all (.cons (.lc (.one 5) (.seq (.var 3)) .no (.call 0 (.cons (.var 5) .nil))) .nil))) .nil)))) (.cons (.ret (.bl false)) .nil) .nil) (.cons (.ite (.not (.bi .all (.cons (.lc (.one 4) (.rng (.cons (.bi .len (.cons (.var 0) .nil)) .nil)) .no (.cmp .le (.idx (.var 3) (.var 4)) (.idx (.var 0) (.var 4)))) .nil))) (.cons (.ret (.bl false)) .nil) .nil) (.cons (.ite (.not (.call 12 (.cons (.call 2 (.cons (.var 0) (.cons (.var 3) .nil))) (.cons (.bin .sub (.var 1) (.int 1)) (.cons (.idx (.var 2) (.int 2)) .nil))))) (.cons (.ret (.bl false)) .nil) .nil) (.cons (.ret (.call 12 (.cons (.call 3 (.cons (.var 0) (.cons (.var 3) .nil))) (.cons (.bin .sub (.var 1) (.int 1)) (.cons (.idx (.var 2) (.int 3)) .nil))))) .nil)))))))⟩
def f_least_one_lie : Fn := ⟨1, 2, false,
      (.cons (.asg 1 (.int 0)) (.cons (.whl (.not (.call 14 (.cons (.var 0) (.cons (.var 1) .nil)))) (.cons (.aug .add 1 (.int 1)) .nil)) (.cons (.ret (.var 1)) .nil)))⟩
def f_is_enough_one : Fn := ⟨2, 2, false,
      (.cons (.ite (.cmp .eq (.bin .band (.var 0) (.int 1)) (.int 0)) (.cons (.ret (.cmp .le (.bin .mul (.var 0) (.bin .add (.var 1) (.int 1))) (.bin .shl (.int 1) (.var 1)))) .nil) .nil) (.cons (.ret (.cmp .le (.bin .sub (.bin .add (.bin .mul (.var 0) (.bin .add (.var 1) (.int 1))) (.var 1)) (.int 1)) (.bin .shl (.int 1) (.var 1)))) .nil))⟩
def f_bound_by_volume : Fn := ⟨1, 2, false,
      (.cons (.asg 1 (.int 0)) (.cons (.whl (.cmp .gt (.call 6 (.cons (.var 0) (.cons (.var 1) .nil))) (.bin .shl (.int 1) (.var 1))) (.cons (.aug .add 1 (.int 1)) .nil)) (.cons (.ret (.var 1)) .nil)))⟩
def f_repeated : Fn := ⟨2, 2, false,
      (.cons (.ret (.bin .mul (.var 0) (.bin .add (.bin .mul (.int 2) (.var 1)) (.int 1)))) .nil)⟩
def f_lies_told : Fn := ⟨3, 5, false,
      (.cons (.for (.many [3, 4]) (.zip (.var 1) (.var 2)) (.cons (.asg 0 (.ite (.cmp .eq (.var 3) (.int 1)) (.call 2 (.cons (.var 0) (.cons (.var 4) .nil))) (.call 3 (.cons (.var 0) (.cons (.var 4) .nil))))) (.cons (.fgt 3) (.cons (.fgt 4) .nil)))) (.cons (.ret (.var 0)) .nil))⟩
def f__law_start : Fn := ⟨1, 1, false,
      (.cons (.retO (.lst (.cons (.var 0) (.cons (.int 0) (.cons (.int 0) (.cons (.int 7) .nil))))))
      .nil)⟩
def f__law_pick : Fn := ⟨2, 4, false,
      (.cons (.ite (.and (.cons (.cmp .eq (.idx (.var 0) (.int 2)) (.int 0)) (.cons (.cmp .lt (.idx (.var 0) (.int 1)) (.bi .len (.cons (.idx (.var 0) (.int 0)) .nil))) .nil)))
      (.cons (.asg 2 (.bi .abs (.cons (.idx (.idx (.var 0) (.int 0)) (.idx (.var 0) (.int 1))) .nil)))
      (.cons (.setI 0 (.int 1) (.bin .add (.idx (.var 0) (.int 1)) (.int 1)))
      (.cons (.ite (.cmp .ge (.var 2) (.bin .pow (.int 10) (.int 18)))
      (.cons (.setI 0 (.int 2) (.var 2))
      .nil)
      (.cons (.setI 0 (.int 3) (.bin .add (.bin .mod (.bi .int (.cons (.bin .add (.bin .mul (.idx (.var 0) (.int 3)) (.int 48271)) (.var 2)) .nil)) (.int 2147483646)) (.int 1)))
      .nil))
      .nil)))
      .nil)
      (.cons (.ite (.cmp .gt (.idx (.var 0) (.int 2)) (.int 0))
      (.cons (.asg 3 (.bin .mod (.bi .int (.cons (.idx (.var 0) (.int 2)) .nil)) (.var 1)))
      (.cons (.setI 0 (.int 2) (.bin .fdiv (.idx (.var 0) (.int 2)) (.var 1)))
      (.cons (.ret (.var 3))
      .nil)))
      .nil)
      (.cons (.setI 0 (.int 3) (.bin .mod (.bi .int (.cons (.bin .mul (.idx (.var 0) (.int 3)) (.int 48271)) .nil)) (.int 2147483647)))
      (.cons (.ret (.bin .mod (.bi .int (.cons (.bin .add (.bin .fdiv (.idx (.var 0) (.int 3)) (.int 5)) (.bin .mod (.bi .int (.cons (.bin .mul (.idx (.var 0) (.int 3)) (.idx (.var 0) (.int 3))) .nil)) (.int 2147483629))) .nil)) (.var 1)))
      .nil))))⟩
def f__law_same : Fn := ⟨2, 3, false,
      (.cons (.ite (.cmp .isN (.var 1) .non) (.cons (.ret (.cmp .isN (.var 0) .non)) .nil) .nil) (.cons (.ite (.isi .bool (.var 1)) (.cons (.ret (.and (.cons (.isi .bool (.var 0)) (.cons (.cmp .eq (.var 0) (.var 1)) .nil)))) .nil) .nil) (.cons (.ite (.isi .int (.var 1)) (.cons (.ret (.and (.cons (.isi .int (.var 0)) (.cons (.not (.isi .bool (.var 0))) (.cons (.cmp .eq (.var 0) (.var 1)) .nil))))) .nil) .nil) (.cons (.ite (.isi .str (.var 1)) (.cons (.ret (.and (.cons (.isi .str (.var 0)) (.cons (.cmp .eq (.var 0) (.var 1)) .nil)))) .nil) .nil) (.cons (.ite (.or (.cons (.and (.cons (.isi .lst (.var 1)) (.cons (.not (.isi .lst (.var 0))) .nil))) (.cons (.and (.cons (.isi .tup (.var 1)) (.cons (.not (.isi .tup (.var 0))) .nil))) .nil))) (.cons (.ret (.bl false)) .nil) .nil) (.cons (.ret (.and (.cons (.cmp .eq (.bi .len (.cons (.var 0) .nil)) (.bi .len (.cons (.var 1) .nil))) (.cons (.cmp .eq (.lc (.one 2) (.rng (.cons (.bi .len (.cons (.var 1) .nil)) .nil)) (.not (.call 20 (.cons (.idx (.var 0) (.var 2)) (.cons (.idx (.var 1) (.var 2)) .nil)))) (.int 1)) (.lst .nil)) .nil)))) .nil))))))⟩
def f__law_state : Fn := ⟨2, 4, false,
      (.cons (.ret (.bi .tuple (.cons (.lc (.one 2) (.rng (.cons (.bin .add (.var 1) (.int 1)) .nil)) .no (.bi .len (.cons (.lc (.one 3) (.seq (.var 0)) (.cmp .eq (.idx (.var 3) (.int 1)) (.var 2)) (.var 3)) .nil))) .nil))) .nil)⟩
def f__law_after : Fn := ⟨4, 8, false,
      (.cons (.asgO 4 (.lst .nil)) (.cons (.for (.many [5, 6]) (.seq (.var 0)) (.cons (.asg 7 (.bin .add (.var 6) (.bi .int (.cons (.cmp .ne (.cmp .isin (.var 5) (.var 1)) (.cmp .eq (.var 2) (.int 1))) .nil)))) (.cons (.ite (.cmp .le (.var 7) (.var 3)) (.cons (.app 4 (.tup (.cons (.var 5) (.cons (.var 7) .nil)))) .nil) .nil) (.cons (.fgt 5) (.cons (.fgt 6) (.cons (.fgt 7) .nil)))))) (.cons (.frz 4) (.cons (.ret (.var 4)) .nil))))⟩
def f__law_can : Fn := ⟨2, 7, false,
      (.cons (.ite (.cmp .lt (.bi .sum (.cons (.var 0) .nil)) (.int 2)) (.cons (.ret (.bl true)) .nil) .nil) (.cons (.ite (.cmp .eq (.var 1) (.int 0)) (.cons (.ret (.bl false)) .nil) .nil) (.cons (.asg 2 (.lst (.cons (.tup .nil) .nil))) (.cons (.for (.one 3) (.seq (.var 0)) (.cons (.asg 5 (.lst .nil)) (.cons (.for (.one 4) (.seq (.var 2)) (.cons (.asg 5 (.bin .add (.var 5) (.lc (.one 6) (.rng (.cons (.bin .add (.var 3) (.int 1)) .nil)) .no (.bin .add (.var 4) (.tup (.cons (.var 6) .nil)))))) (.cons (.fgt 4) .nil))) (.cons (.asg 2 (.var 5)) (.cons (.fgt 3) (.cons (.fgt 5) .nil)))))) (.cons (.for (.one 4) (.seq (.var 2)) (.cons (.ite (.and (.cons (.call 23 (.cons (.call 2 (.cons (.var 0) (.cons (.var 4) .nil))) (.cons (.bin .sub (.var 1) (.int 1)) .nil))) (.cons (.call 23 (.cons (.call 3 (.cons (.var 0) (.cons (.var 4) .nil))) (.cons (.bin .sub (.var 1) (.int 1)) .nil))) .nil))) (.cons (.ret (.bl true)) .nil) .nil) (.cons (.fgt 4) .nil))) (.cons (.ret (.bl false)) .nil))))))⟩
def f__law_ways : Fn := ⟨2, 6, false,
      (.cons (.asg 2 (.int 0)) (.cons (.for (.one 3) (.rng (.cons (.bin .add (.var 1) (.int 1)) .nil)) (.cons (.asg 4 (.int 1)) (.cons (.for (.one 5) (.rng (.cons (.var 3) .nil)) (.cons (.asg 4 (.bin .fdiv (.bin .mul (.var 4) (.bin .sub (.var 0) (.var 5))) (.bin .add (.var 5) (.int 1)))) (.cons (.fgt 5) .nil))) (.cons (.asg 2 (.bin .add (.var 2) (.var 4))) (.cons (.fgt 3) (.cons (.fgt 4) .nil)))))) (.cons (.ret (.var 2)) .nil)))⟩
def f__law_numbers : Fn := ⟨3, 6, false,
      (.cons (.asg 3 (.call 9 (.cons (.var 1) (.cons (.int 7) .nil)))) (.cons (.for (.one 4) (.rng (.cons (.int 5) .nil)) (.cons (.asg 5 (.call 8 (.cons (.var 1) (.cons (.var 4) (.cons (.d0 true) .nil))))) (.cons (.ite (.or (.cons (.cmp .ne (.var 5) (.and (.cons (.cmp .notN (.var 3) .non) (.cons (.cmp .le (.var 3) (.var 4)) .nil)))) (.cons (.and (.cons (.var 5) (.cons (.cmp .gt (.bi .sum (.cons (.var 1) .nil)) (.int 1)) (.cons (.cmp .lt (.var 4) (.var 2)) .nil)))) .nil))) (.cons (.ret (.bl false)) .nil) .nil) (.cons (.ite (.and (.cons (.cmp .lt (.bi .sum (.cons (.var 1) .nil)) (.int 4)) (.cons (.cmp .lt (.var 4) (.int 4)) (.cons (.cmp .ne (.var 5) (.call 23 (.cons (.var 1) (.cons (.var 4) .nil)))) .nil)))) (.cons (.ret (.bl false)) .nil) .nil) (.cons (.fgt 4) (.cons (.fgt 5) .nil)))))) (.cons (.ite (.and (.cons (.cmp .eq (.bi .len (.cons (.var 1) .nil)) (.int 1)) (.cons (.cmp .gt (.bi .sum (.cons (.var 1) .nil)) (.int 0)) (.cons (.cmp .ne (.var 3) (.var 2)) .nil)))) (.cons (.ret (.bl false)) .nil) .nil) (.cons (.ret (.or (.cons (.cmp .isN (.var 3) .non) (.cons (.cmp .eq (.var 3) (.int 0)) (.cons (.cmp .isN (.call 9 (.cons (.var 1) (.cons (.bin .sub (.var 3) (.int 1)) .nil))) .non) .nil))))) .nil))))⟩
def f__law_trees : Fn := ⟨2, 8, false,
      (.cons (.asg 2 (.bin .add (.int 2) (.call 19 (.cons (.var 0) (.cons (.int 5) .nil))))) (.cons (.asg 3 (.call 10 (.cons (.var 1) (.cons (.var 2) .nil)))) (.cons (.ite (.cmp .eq (.cmp .isN (.var 3) .non) (.call 8 (.cons (.var 1) (.cons (.var 2) (.cons (.d0 true) .nil))))) (.cons (.ret (.bl false)) .nil) .nil) (.cons (.ite (.cmp .notN (.var 3) .non) (.cons (.ite (.or (.cons (.cmp .notN (.call 12 (.cons (.var 1) (.cons (.var 2) (.cons (.var 3) .nil)))) (.bl true)) (.cons (.cmp .notN (.call 12 (.cons (.var 1) (.cons (.bin .add (.var 2) (.int 1)) (.cons (.var 3) .nil)))) (.bl true)) .nil))) (.cons (.ret (.bl false)) .nil) .nil) (.cons (.ite (.cmp .ne (.var 3) (.tup (.cons (.str ⟨#[116, 111, 108, 100]⟩) .nil))) (.cons (.asg 4 (.bi .tuple (.cons (.lc (.one 7) (.rng (.cons (.bi .len (.cons (.var 1) .nil)) .nil)) .no (.bin .add (.idx (.var 1) (.var 7)) (.int 1))) .nil))) (.cons (.asg 5 (.lst (.cons (.slc (.var 3) .no (.int 3)) (.cons (.bin .add (.var 3) (.tup (.cons (.int 0) .nil))) (.cons (.bi .list (.cons (.var 3) .nil)) (.cons (.tup (.cons (.str ⟨#[97, 115, 107]⟩) (.cons (.bi .list (.cons (.idx (.var 3) (.int 1)) .nil)) (.cons (.idx (.var 3) (.int 2)) (.cons (.idx (.var 3) (.int 3)) .nil))))) (.cons (.tup (.cons (.str ⟨#[97, 115, 107]⟩) (.cons (.var 4) (.cons (.idx (.var 3) (.int 2)) (.cons (.idx (.var 3) (.int 3)) .nil))))) (.cons (.bin .add (.tup (.cons (.str ⟨#[110, 111]⟩) .nil)) (.slc (.var 3) (.int 1) .no)) .nil)))))))) (.cons (.ite (.or (.cons (.cmp .ne (.lc (.one 6) (.seq (.var 5)) .no (.call 12 (.cons (.var 1) (.cons (.var 2) (.cons (.var 6) .nil))))) (.bin .mul (.lst (.cons (.bl false) .nil)) (.int 6))) (.cons (.cmp .notN (.call 12 (.cons (.var 1) (.cons (.int 0) (.cons (.var 3) .nil)))) (.bl false)) .nil))) (.cons (.ret (.bl false)) .nil) .nil) (.cons (.ite (.cmp .notin (.idx (.var 3) (.int 1)) (.call 7 (.cons (.var 1) .nil))) (.cons (.ret (.bl false)) .nil) .nil) (.cons (.fgt 4) (.cons (.fgt 5) .nil)))))) .nil) .nil)) .nil) (.cons (.ret (.cmp .eq (.lc (.one 6) (.seq (.lst (.cons .non (.cons (.tup .nil) (.cons (.lst (.cons (.str ⟨#[116, 111, 108, 100]⟩) .nil)) (.cons (.tup (.cons (.str ⟨#[116, 111, 108, 100]⟩) .nil)) (.cons (.tup (.cons (.str ⟨#[97, 115, 107]⟩) (.cons (.tup (.cons (.bl true) .nil)) (.cons (.tup (.cons (.str ⟨#[116, 111, 108, 100]⟩) .nil)) (.cons (.tup (.cons (.str ⟨#[116, 111, 108, 100]⟩) .nil)) .nil))))) .nil))))))) .no (.call 12 (.cons (.tup (.cons (.int 2) .nil)) (.cons (.int 3) (.cons (.var 6) .nil))))) (.bin .mul (.lst (.cons (.bl false) .nil)) (.int 5)))) .nil)))))⟩
def f__law_one : Fn := ⟨1, 8, false,
      (.cons (.asg 1 (.bin .add (.int 2) (.call 19 (.cons (.var 0) (.cons (.int 5000) .nil))))) (.cons (.asg 2 (.call 19 (.cons (.var 0) (.cons (.int 20) .nil)))) (.cons (.asg 3 (.cmp .le (.bin .mul (.var 1) (.bin .add (.var 2) (.int 1))) (.bin .shl (.int 1) (.var 2)))) (.cons (.ite (.cmp .eq (.bin .band (.var 1) (.int 1)) (.int 1)) (.cons (.asg 3 (.cmp .le (.bin .sub (.bin .add (.bin .mul (.var 1) (.bin .add (.var 2) (.int 1))) (.var 2)) (.int 1)) (.bin .shl (.int 1) (.var 2)))) .nil) .nil) (.cons (.ite (.not (.call 20 (.cons (.call 14 (.cons (.var 1) (.cons (.var 2) .nil))) (.cons (.var 3) .nil)))) (.cons (.ret (.bl false)) .nil) .nil) (.cons (.asg 4 (.call 13 (.cons (.var 1) .nil))) (.cons (.ite (.or (.cons (.cmp .notN (.call 14 (.cons (.var 1) (.cons (.var 4) .nil))) (.bl true)) (.cons (.cmp .notN (.call 14 (.cons (.var 1) (.cons (.bin .sub (.var 4) (.int 1)) .nil))) (.bl false)) .nil))) (.cons (.ret (.bl false)) .nil) .nil) (.cons (.asg 5 (.bin .add (.int 2) (.call 19 (.cons (.var 0) (.cons (.int 9) .nil))))) (.cons (.ite (.cmp .ne (.call 13 (.cons (.var 5) .nil)) (.call 9 (.cons (.tup (.cons (.var 5) (.cons (.int 0) .nil))) (.cons (.int 9) .nil)))) (.cons (.ret (.bl false)) .nil) .nil) (.cons (.asg 6 (.call 19 (.cons (.var 0) (.cons (.int 9) .nil)))) (.cons (.asg 7 (.call 19 (.cons (.var 0) (.cons (.int 5) .nil)))) (.cons (.ret (.call 20 (.cons (.call 16 (.cons (.var 6) (.cons (.var 7) .nil))) (.cons (.bin .mul (.var 6) (.bin .add (.bin .mul (.int 2) (.var 7)) (.int 1))) .nil)))) .nil))))))))))))⟩
def f_law : Fn := ⟨1, 25, false,
      (.cons (.asgC 1 (.call 18 (.cons (.var 0) .nil))) (.cons (.fgt 0) (.cons (.asg 2 (.call 19 (.cons (.var 1) (.cons (.int 3) .nil)))) (.cons (.asg 3 (.lc (.one 22) (.rng (.cons (.call 19 (.cons (.var 1) (.cons (.int 7) .nil))) .nil)) .no (.tup (.cons (.var 22) (.cons (.call 19 (.cons (.var 1) (.cons (.bin .add (.var 2) (.int 1)) .nil))) .nil))))) (.cons (.asg 4 (.call 21 (.cons (.var 3) (.cons (.var 2) .nil)))) (.cons (.asg 5 (.lc (.many [22, 24]) (.seq (.var 3)) (.cmp .eq (.call 19 (.cons (.var 1) (.cons (.int 2) .nil))) (.int 0)) (.var 22))) (.cons (.asg 6 (.call 21 (.cons (.lc (.one 13) (.seq (.var 3)) (.cmp .isin (.idx (.var 13) (.int 0)) (.var 5)) (.var 13)) (.cons (.var 2) .nil)))) (.cons (.asg 7 (.call 21 (.cons (.call 22 (.cons (.var 3) (.cons (.var 5) (.cons (.int 1) (.cons (.var 2) .nil))))) (.cons (.var 2) .nil)))) (.cons (.asg 8 (.call 21 (.cons (.call 22 (.cons (.var 3) (.cons (.var 5) (.cons (.int 0) (.cons (.var 2) .nil))))) (.cons (.var 2) .nil)))) (.cons (.fgt 5) (.cons (.ite (.or (.cons (.not (.call 20 (.cons (.call 2 (.cons (.var 4) (.cons (.var 6) .nil))) (.cons (.var 7) .nil)))) (.cons (.not (.call 20 (.cons (.call 3 (.cons (.var 4) (.cons (.var 6) .nil))) (.cons (.var 8) .nil)))) (.cons (.cmp .ne (.call 1 (.cons (.int 5) (.cons (.var 2) .nil))) (.bin .add (.tup (.cons (.int 5) .nil)) (.bin .mul (.tup (.cons (.int 0) .nil)) (.var 2)))) .nil)))) (.cons (.ret (.bl false)) .nil) .nil) (.cons (.fgt 6) (.cons (.asg 9 (.call 19 (.cons (.var 1) (.cons (.int 6) .nil)))) (.cons (.asg 10 (.bi .sum (.cons (.lc (.one 23) (.rng (.cons (.bin .add (.var 2) (.int 1)) .nil)) .no (.bin .mul (.idx (.var 4) (.var 23)) (.call 24 (.cons (.var 9) (.cons (.bin .sub (.var 2) (.var 23)) .nil))))) .nil))) (.cons (.ite (.or (.cons (.not (.call 20 (.cons (.call 6 (.cons (.var 4) (.cons (.var 9) .nil))) (.cons (.var 10) .nil)))) (.cons (.cmp .ne (.call 6 (.cons (.var 4) (.cons (.bin .add (.var 9) (.int 1)) .nil))) (.bin .add (.call 6 (.cons (.var 7) (.cons (.var 9) .nil))) (.call 6 (.cons (.var 8) (.cons (.var 9) .nil))))) .nil))) (.cons (.ret (.bl false)) .nil) .nil) (.cons (.fgt 10) (.cons (.fgt 8) (.cons (.fgt 7) (.cons (.ite (.or (.cons (.not (.call 20 (.cons (.call 5 (.cons (.var 9) (.cons (.var 2) .nil))) (.cons (.call 24 (.cons (.var 9) (.cons (.var 2) .nil))) .nil)))) (.cons (.not (.call 20 (.cons (.call 4 (.cons (.var 9) (.cons (.var 2) .nil))) (.cons (.bin .sub (.call 24 (.cons (.var 9) (.cons (.var 2) .nil))) (.idx (.lst (.cons (.int 0) (.cons (.call 24 (.cons (.var 9) (.cons (.bin .sub (.var 2) (.int 1)) .nil))) .nil))) (.bi .int (.cons (.cmp .gt (.var 2) (.int 0)) .nil)))) .nil)))) .nil))) (.cons (.ret (.bl false)) .nil) .nil) (.cons (.fgt 9) (.cons (.asg 11 (.call 7 (.cons (.var 4) .nil))) (.cons (.asg 12 (.lst (.cons (.tup .nil) .nil))) (.cons (.for (.one 13) (.seq (.var 4)) (.cons (.asg 19 (.lst .nil)) (.cons (.for (.one 20) (.seq (.var 12)) (.cons (.asg 19 (.bin .add (.var 19) (.lc (.one 23) (.rng (.cons (.bin .add (.var 13) (.int 1)) .nil)) .no (.bin .add (.var 20) (.tup (.cons (.var 23) .nil)))))) (.cons (.fgt 20) .nil))) (.cons (.asg 12 (.var 19)) (.cons (.fgt 13) (.cons (.fgt 19) .nil)))))) (.cons (.fgt 19) (.cons (.ite (.cmp .ne (.var 11) (.lc (.one 20) (.seq (.var 12)) (.cmp .le (.var 20) (.bi .tuple (.cons (.lc (.one 23) (.rng (.cons (.bin .add (.var 2) (.int 1)) .nil)) .no (.bin .sub (.idx (.var 4) (.var 23)) (.idx (.var 20) (.var 23)))) .nil))) (.var 20))) (.cons (.ret (.bl false)) .nil) .nil) (.cons (.fgt 12) (.cons (.fgt 20) (.cons (.fgt 11) (.cons (.asg 14 (.call 15 (.cons (.var 4) .nil))) (.cons (.ite (.or (.cons (.cmp .gt (.call 6 (.cons (.var 4) (.cons (.var 14) .nil))) (.bin .shl (.int 1) (.var 14))) (.cons (.and (.cons (.cmp .gt (.var 14) (.int 0)) (.cons (.cmp .le (.call 6 (.cons (.var 4) (.cons (.bin .sub (.var 14) (.int 1)) .nil))) (.bin .shl (.int 1) (.bin .sub (.var 14) (.int 1)))) .nil))) .nil))) (.cons (.ret (.bl false)) .nil) .nil) (.cons (.asg 15 (.lc (.one 23) (.rng (.cons (.call 19 (.cons (.var 1) (.cons (.int 4) .nil))) .nil)) .no (.call 19 (.cons (.var 1) (.cons (.int 2) .nil))))) (.cons (.fgt 23) (.cons (.asg 16 (.bi .list (.cons (.var 3) .nil))) (.cons (.fgt 3) (.cons (.asgO 17 (.lst .nil)) (.cons (.for (.one 18) (.seq (.var 15)) (.cons (.asg 21 (.lc (.many [22, 24]) (.seq (.var 16)) (.cmp .eq (.call 19 (.cons (.var 1) (.cons (.int 2) .nil))) (.int 0)) (.var 22))) (.cons (.app 17 (.call 21 (.cons (.lc (.one 13) (.seq (.var 16)) (.cmp .isin (.idx (.var 13) (.int 0)) (.var 21)) (.var 13)) (.cons (.var 2) .nil)))) (.cons (.asg 16 (.call 22 (.cons (.var 16) (.cons (.var 21) (.cons (.var 18) (.cons (.var 2) .nil)))))) (.cons (.fgt 18) (.cons (.fgt 21) .nil)))))) (.cons (.fgt 18) (.cons (.fgt 21) (.cons (.fgt 22) (.cons (.fgt 13) (.cons (.fgt 24) (.cons (.frz 17) (.cons (.ite (.cmp .ne (.call 17 (.cons (.var 4) (.cons (.var 15) (.cons (.var 17) .nil)))) (.call 21 (.cons (.var 16) (.cons (.var 2) .nil)))) (.cons (.ret (.bl false)) .nil) .nil) (.cons (.fgt 15) (.cons (.fgt 16) (.cons (.fgt 2) (.cons (.fgt 17) (.cons (.ret (.and (.cons (.call 25 (.cons (.var 1) (.cons (.var 4) (.cons (.var 14) .nil)))) (.cons (.call 26 (.cons (.var 1) (.cons (.var 4) .nil))) (.cons (.call 27 (.cons (.var 1) .nil)) .nil))))) .nil))))))))))))))))))))))))))))))))))))))))))))))))⟩
def n_is_count : List Str := [⟨#[118, 97, 108, 117, 101]⟩]
def n_start_state : List Str := [⟨#[109, 97, 110, 121]⟩, ⟨#[108, 105, 101, 115]⟩]
def n_behind_yes : List Str := [⟨#[115, 116, 97, 116, 101]⟩, ⟨#[97, 115, 107, 101, 100]⟩, ⟨#[102, 111, 117, 110, 100]⟩, ⟨#[107]⟩]
def n_behind_no : List Str := [⟨#[115, 116, 97, 116, 101]⟩, ⟨#[97, 115, 107, 101, 100]⟩, ⟨#[107]⟩]
def n_choose : List Str := [⟨#[109, 97, 110, 121]⟩, ⟨#[115, 105, 122, 101]⟩, ⟨#[102, 111, 117, 110, 100]⟩, ⟨#[107]⟩]
def n_balls : List Str := [⟨#[109, 97, 110, 121]⟩, ⟨#[108, 105, 101, 115]⟩, ⟨#[107]⟩]
def n_volume : List Str := [⟨#[115, 116, 97, 116, 101]⟩, ⟨#[109, 97, 110, 121]⟩, ⟨#[107]⟩]
def n_all_asked : List Str := [⟨#[115, 116, 97, 116, 101]⟩, ⟨#[114, 111, 119, 115]⟩, ⟨#[111, 110, 101]⟩, ⟨#[114, 111, 119]⟩, ⟨#[107]⟩]
def n_can_tell : List Str := [⟨#[115, 116, 97, 116, 101]⟩, ⟨#[109, 97, 110, 121]⟩, ⟨#[107, 110, 111, 119, 110]⟩, ⟨#[107, 101, 121]⟩, ⟨#[97, 115, 107, 101, 100]⟩, ⟨#[111, 110, 101]⟩, ⟨#[111, 116, 104, 101, 114]⟩]
def n_least_asked : List Str := [⟨#[115, 116, 97, 116, 101]⟩, ⟨#[109, 111, 115, 116]⟩, ⟨#[107, 110, 111, 119, 110]⟩, ⟨#[109, 97, 110, 121]⟩]
def n_lie_tree : List Str := [⟨#[115, 116, 97, 116, 101]⟩, ⟨#[109, 97, 110, 121]⟩, ⟨#[107, 110, 111, 119, 110]⟩]
def n_lie_tree_from : List Str := [⟨#[115, 116, 97, 116, 101]⟩, ⟨#[109, 97, 110, 121]⟩, ⟨#[107, 110, 111, 119, 110]⟩, ⟨#[97, 115, 107, 101, 100]⟩, ⟨#[111, 110, 101]⟩, ⟨#[111, 116, 104, 101, 114]⟩]
def n_is_lie_tree : List Str := [⟨#[115, 116, 97, 116, 101]⟩, ⟨#[109, 97, 110, 121]⟩, ⟨#[118, 97, 108, 117, 101]⟩, ⟨#[97, 115, 107, 101, 100]⟩, ⟨#[107]⟩, ⟨#[111, 110, 101]⟩]
def n_least_one_lie : List Str := [⟨#[109, 97, 110, 121]⟩, ⟨#[102, 111, 117, 110, 100]⟩]
def n_is_enough_one : List Str := [⟨#[109, 97, 110, 121]⟩, ⟨#[97, 115, 107, 101, 100]⟩]
def n_bound_by_volume : List Str := [⟨#[115, 116, 97, 116, 101]⟩, ⟨#[102, 111, 117, 110, 100]⟩]
def n_repeated : List Str := [⟨#[113, 117, 101, 115, 116, 105, 111, 110, 115]⟩, ⟨#[108, 105, 101, 115]⟩]
def n_lies_told : List Str := [⟨#[115, 116, 97, 116, 101]⟩, ⟨#[97, 110, 115, 119, 101, 114, 115]⟩, ⟨#[97, 115, 107, 101, 100, 95, 114, 111, 119, 115]⟩, ⟨#[97, 110, 115, 119, 101, 114]⟩, ⟨#[97, 115, 107, 101, 100]⟩]
def n__law_start : List Str := [⟨#[115, 99, 114, 105, 112, 116]⟩]
def n__law_pick : List Str := [⟨#[115, 116, 97, 116, 101]⟩, ⟨#[108, 105, 109, 105, 116]⟩, ⟨#[99, 101, 108, 108]⟩, ⟨#[100, 114, 97, 119, 110]⟩]
def n__law_same : List Str := [⟨#[116, 111, 108, 100]⟩, ⟨#[100, 117, 101]⟩, ⟨#[107]⟩]
def n__law_state : List Str := [⟨#[99, 97, 115, 101, 115]⟩, ⟨#[108, 105, 101, 115]⟩, ⟨#[107]⟩, ⟨#[111, 110, 101]⟩]
def n__law_after : List Str := [⟨#[99, 97, 115, 101, 115]⟩, ⟨#[115, 111, 109, 101]⟩, ⟨#[97, 110, 115, 119, 101, 114]⟩, ⟨#[108, 105, 101, 115]⟩, ⟨#[102, 111, 117, 110, 100]⟩, ⟨#[110, 97, 109, 101]⟩, ⟨#[119, 114, 111, 110, 103]⟩, ⟨#[109, 111, 114, 101]⟩]
def n__law_can : List Str := [⟨#[115, 116, 97, 116, 101]⟩, ⟨#[109, 97, 110, 121]⟩, ⟨#[114, 111, 119, 115]⟩, ⟨#[111, 110, 101]⟩, ⟨#[114, 111, 119]⟩, ⟨#[108, 111, 110, 103, 101, 114]⟩, ⟨#[107]⟩]
def n__law_ways : List Str := [⟨#[109, 97, 110, 121]⟩, ⟨#[108, 105, 101, 115]⟩, ⟨#[102, 111, 117, 110, 100]⟩, ⟨#[107]⟩, ⟨#[119, 97, 121, 115]⟩, ⟨#[106]⟩]
def n__law_numbers : List Str := [⟨#[115, 116, 97, 116, 101]⟩, ⟨#[104, 101, 114, 101]⟩, ⟨#[98, 111, 117, 110, 100]⟩, ⟨#[108, 101, 97, 115, 116]⟩, ⟨#[109, 97, 110, 121]⟩, ⟨#[116, 111, 108, 100]⟩]
def n__law_trees : List Str := [⟨#[115, 116, 97, 116, 101]⟩, ⟨#[104, 101, 114, 101]⟩, ⟨#[109, 97, 110, 121]⟩, ⟨#[116, 114, 101, 101]⟩, ⟨#[109, 111, 114, 101]⟩, ⟨#[98, 101, 110, 116]⟩, ⟨#[111, 110, 101]⟩, ⟨#[107]⟩]
def n__law_one : List Str := [⟨#[115, 116, 97, 116, 101]⟩, ⟨#[109, 97, 110, 121]⟩, ⟨#[97, 115, 107, 101, 100]⟩, ⟨#[100, 117, 101]⟩, ⟨#[108, 101, 97, 115, 116]⟩, ⟨#[115, 109, 97, 108, 108]⟩, ⟨#[97]⟩, ⟨#[98]⟩]
def n_law : List Str := [⟨#[115, 99, 114, 105, 112, 116]⟩, ⟨#[115, 116, 97, 116, 101]⟩, ⟨#[108, 105, 101, 115]⟩, ⟨#[99, 97, 115, 101, 115]⟩, ⟨#[104, 101, 114, 101]⟩, ⟨#[115, 111, 109, 101]⟩, ⟨#[97, 115, 107, 101, 100]⟩, ⟨#[121, 101, 115]⟩, ⟨#[110, 111]⟩, ⟨#[109, 97, 110, 121]⟩, ⟨#[100, 117, 101]⟩, ⟨#[114, 111, 119, 115]⟩, ⟨#[101, 118, 101, 114, 121]⟩, ⟨#[111, 110, 101]⟩, ⟨#[98, 111, 117, 110, 100]⟩, ⟨#[97, 110, 115, 119, 101, 114, 115]⟩, ⟨#[108, 101, 102, 116]⟩, ⟨#[119, 97, 121, 115]⟩, ⟨#[97, 110, 115, 119, 101, 114]⟩, ⟨#[108, 111, 110, 103, 101, 114]⟩, ⟨#[114, 111, 119]⟩, ⟨#[103, 114, 111, 117, 112]⟩, ⟨#[110, 97, 109, 101]⟩, ⟨#[107]⟩, ⟨#[119, 114, 111, 110, 103]⟩]
def top (i : Nat) : Stmt := PySem.Challenge.pw_foundasked_k06_whole_lies.main.body.getD i (.Pass ⟨0, 0, 0, 0⟩)
abbrev s_is_count : Stmt := top 1
abbrev s_start_state : Stmt := top 3
abbrev s_behind_yes : Stmt := top 4
abbrev s_behind_no : Stmt := top 5
abbrev s_choose : Stmt := top 6
abbrev s_balls : Stmt := top 7
abbrev s_volume : Stmt := top 8
abbrev s_all_asked : Stmt := top 9
abbrev s_can_tell : Stmt := top 10
abbrev s_least_asked : Stmt := top 11
abbrev s_lie_tree : Stmt := top 12
abbrev s_lie_tree_from : Stmt := top 13
abbrev s_is_lie_tree : Stmt := top 14
abbrev s_least_one_lie : Stmt := top 15
abbrev s_is_enough_one : Stmt := top 16
abbrev s_bound_by_volume : Stmt := top 17
abbrev s_repeated : Stmt := top 18
abbrev s_lies_told : Stmt := top 19
abbrev s__law_start : Stmt := top 21
abbrev s__law_pick : Stmt := top 22
abbrev s__law_same : Stmt := top 23
abbrev s__law_state : Stmt := top 24
abbrev s__law_after : Stmt := top 25
abbrev s__law_can : Stmt := top 26
abbrev s__law_ways : Stmt := top 27
abbrev s__law_numbers : Stmt := top 28
abbrev s__law_trees : Stmt := top 29
abbrev s__law_one : Stmt := top 30
abbrev s_law : Stmt := top 31
def d_is_count : Df := ⟨⟨#[105, 115, 95, 99, 111, 117, 110, 116]⟩, s_is_count, n_is_count, f_is_count⟩
def d_start_state : Df := ⟨⟨#[115, 116, 97, 114, 116, 95, 115, 116, 97, 116, 101]⟩, s_start_state, n_start_state, f_start_state⟩
def d_behind_yes : Df := ⟨⟨#[98, 101, 104, 105, 110, 100, 95, 121, 101, 115]⟩, s_behind_yes, n_behind_yes, f_behind_yes⟩
def d_behind_no : Df := ⟨⟨#[98, 101, 104, 105, 110, 100, 95, 110, 111]⟩, s_behind_no, n_behind_no, f_behind_no⟩
def d_choose : Df := ⟨⟨#[99, 104, 111, 111, 115, 101]⟩, s_choose, n_choose, f_choose⟩
def d_balls : Df := ⟨⟨#[98, 97, 108, 108, 115]⟩, s_balls, n_balls, f_balls⟩
def d_volume : Df := ⟨⟨#[118, 111, 108, 117, 109, 101]⟩, s_volume, n_volume, f_volume⟩
def d_all_asked : Df := ⟨⟨#[97, 108, 108, 95, 97, 115, 107, 101, 100]⟩, s_all_asked, n_all_asked, f_all_asked⟩
def d_can_tell : Df := ⟨⟨#[99, 97, 110, 95, 116, 101, 108, 108]⟩, s_can_tell, n_can_tell, f_can_tell⟩
def d_least_asked : Df := ⟨⟨#[108, 101, 97, 115, 116, 95, 97, 115, 107, 101, 100]⟩, s_least_asked, n_least_asked, f_least_asked⟩
def d_lie_tree : Df := ⟨⟨#[108, 105, 101, 95, 116, 114, 101, 101]⟩, s_lie_tree, n_lie_tree, f_lie_tree⟩
def d_lie_tree_from : Df := ⟨⟨#[108, 105, 101, 95, 116, 114, 101, 101, 95, 102, 114, 111, 109]⟩, s_lie_tree_from, n_lie_tree_from, f_lie_tree_from⟩
def d_is_lie_tree : Df := ⟨⟨#[105, 115, 95, 108, 105, 101, 95, 116, 114, 101, 101]⟩, s_is_lie_tree, n_is_lie_tree, f_is_lie_tree⟩
def d_least_one_lie : Df := ⟨⟨#[108, 101, 97, 115, 116, 95, 111, 110, 101, 95, 108, 105, 101]⟩, s_least_one_lie, n_least_one_lie, f_least_one_lie⟩
def d_is_enough_one : Df := ⟨⟨#[105, 115, 95, 101, 110, 111, 117, 103, 104, 95, 111, 110, 101]⟩, s_is_enough_one, n_is_enough_one, f_is_enough_one⟩
def d_bound_by_volume : Df := ⟨⟨#[98, 111, 117, 110, 100, 95, 98, 121, 95, 118, 111, 108, 117, 109, 101]⟩, s_bound_by_volume, n_bound_by_volume, f_bound_by_volume⟩
def d_repeated : Df := ⟨⟨#[114, 101, 112, 101, 97, 116, 101, 100]⟩, s_repeated, n_repeated, f_repeated⟩
def d_lies_told : Df := ⟨⟨#[108, 105, 101, 115, 95, 116, 111, 108, 100]⟩, s_lies_told, n_lies_told, f_lies_told⟩
def d__law_start : Df := ⟨⟨#[95, 108, 97, 119, 95, 115, 116, 97, 114, 116]⟩, s__law_start, n__law_start, f__law_start⟩
def d__law_pick : Df := ⟨⟨#[95, 108, 97, 119, 95, 112, 105, 99, 107]⟩, s__law_pick, n__law_pick, f__law_pick⟩
def d__law_same : Df := ⟨⟨#[95, 108, 97, 119, 95, 115, 97, 109, 101]⟩, s__law_same, n__law_same, f__law_same⟩
def d__law_state : Df := ⟨⟨#[95, 108, 97, 119, 95, 115, 116, 97, 116, 101]⟩, s__law_state, n__law_state, f__law_state⟩
def d__law_after : Df := ⟨⟨#[95, 108, 97, 119, 95, 97, 102, 116, 101, 114]⟩, s__law_after, n__law_after, f__law_after⟩
def d__law_can : Df := ⟨⟨#[95, 108, 97, 119, 95, 99, 97, 110]⟩, s__law_can, n__law_can, f__law_can⟩
def d__law_ways : Df := ⟨⟨#[95, 108, 97, 119, 95, 119, 97, 121, 115]⟩, s__law_ways, n__law_ways, f__law_ways⟩
def d__law_numbers : Df := ⟨⟨#[95, 108, 97, 119, 95, 110, 117, 109, 98, 101, 114, 115]⟩, s__law_numbers, n__law_numbers, f__law_numbers⟩
def d__law_trees : Df := ⟨⟨#[95, 108, 97, 119, 95, 116, 114, 101, 101, 115]⟩, s__law_trees, n__law_trees, f__law_trees⟩
def d__law_one : Df := ⟨⟨#[95, 108, 97, 119, 95, 111, 110, 101]⟩, s__law_one, n__law_one, f__law_one⟩
def d_law : Df := ⟨⟨#[108, 97, 119]⟩, s_law, n_law, f_law⟩
def ds : List Df := [d_is_count, d_start_state, d_behind_yes, d_behind_no, d_choose, d_balls, d_volume, d_all_asked, d_can_tell, d_least_asked, d_lie_tree, d_lie_tree_from, d_is_lie_tree, d_least_one_lie, d_is_enough_one, d_bound_by_volume, d_repeated, d_lies_told, d__law_start, d__law_pick, d__law_same, d__law_state, d__law_after, d__law_can, d__law_ways, d__law_numbers, d__law_trees, d__law_one, d_law]
def tb : Tb := ⟨[⟨#[105, 115, 95, 99, 111, 117, 110, 116]⟩, ⟨#[115, 116, 97, 114, 116, 95, 115, 116, 97, 116, 101]⟩, ⟨#[98, 101, 104, 105, 110, 100, 95, 121, 101, 115]⟩, ⟨#[98, 101, 104, 105, 110, 100, 95, 110, 111]⟩, ⟨#[99, 104, 111, 111, 115, 101]⟩, ⟨#[98, 97, 108, 108, 115]⟩, ⟨#[118, 111, 108, 117, 109, 101]⟩, ⟨#[97, 108, 108, 95, 97, 115, 107, 101, 100]⟩, ⟨#[99, 97, 110, 95, 116, 101, 108, 108]⟩, ⟨#[108, 101, 97, 115, 116, 95, 97, 115, 107, 101, 100]⟩, ⟨#[108, 105, 101, 95, 116, 114, 101, 101]⟩, ⟨#[108, 105, 101, 95, 116, 114, 101, 101, 95, 102, 114, 111, 109]⟩, ⟨#[105, 115, 95, 108, 105, 101, 95, 116, 114, 101, 101]⟩, ⟨#[108, 101, 97, 115, 116, 95, 111, 110, 101, 95, 108, 105, 101]⟩, ⟨#[105, 115, 95, 101, 110, 111, 117, 103, 104, 95, 111, 110, 101]⟩, ⟨#[98, 111, 117, 110, 100, 95, 98, 121, 95, 118, 111, 108, 117, 109, 101]⟩, ⟨#[114, 101, 112, 101, 97, 116, 101, 100]⟩, ⟨#[108, 105, 101, 115, 95, 116, 111, 108, 100]⟩, ⟨#[95, 108, 97, 119, 95, 115, 116, 97, 114, 116]⟩, ⟨#[95, 108, 97, 119, 95, 112, 105, 99, 107]⟩, ⟨#[95, 108, 97, 119, 95, 115, 97, 109, 101]⟩, ⟨#[95, 108, 97, 119, 95, 115, 116, 97, 116, 101]⟩, ⟨#[95, 108, 97, 119, 95, 97, 102, 116, 101, 114]⟩, ⟨#[95, 108, 97, 119, 95, 99, 97, 110]⟩, ⟨#[95, 108, 97, 119, 95, 119, 97, 121, 115]⟩, ⟨#[95, 108, 97, 119, 95, 110, 117, 109, 98, 101, 114, 115]⟩, ⟨#[95, 108, 97, 119, 95, 116, 114, 101, 101, 115]⟩, ⟨#[95, 108, 97, 119, 95, 111, 110, 101]⟩, ⟨#[108, 97, 119]⟩], []⟩
def wF : Nat := 1000
def fns : List Fn := [f_is_count, f_start_state, f_behind_yes, f_behind_no, f_choose, f_balls, f_volume, f_all_asked, f_can_tell, f_least_asked, f_lie_tree, f_lie_tree_from, f_is_lie_tree, f_least_one_lie, f_is_enough_one, f_bound_by_volume, f_repeated, f_lies_told, f__law_start, f__law_pick, f__law_same, f__law_state, f__law_after, f__law_can, f__law_ways, f__law_numbers, f__law_trees, f__law_one, f_law]
end Ev
namespace Ev
open PySem
open L2 (ixN)
open HT (sIx lexLt)
def S_is_count (p_value : D) : Option Bool := ((isiO .int (.d p_value)).bind fun v1 => ((andO (some v1) (andO (((isiO .bool (.d p_value)).bind fun v2 => some (!v2))) (((toI p_value).bind fun v3 => some (decide ((0 : Int) ≤ v3)))))).bind fun v4 => some v4))
theorem C_is_count : ∀ (k : Nat), 1 ≤ k → ∀ (p_value : D), Fk (callN fns wF k) 0 [.d p_value] ((S_is_count p_value).map eB)
  | 0, hk, p_value => absurd hk (by omega)
  | k + 1, hk, p_value => by
    unfold S_is_count
    refine Fk.of (e := eB) rfl rfl rfl ?_
    show W _ _ [.val p_value] _ _
    exact (W.bind fun v1 hv1 => (W.bind fun v4 hv4 => (W.ret (x := v4) (X.at (e := eB) (x := v4) (X.and (XA.cons (u := some v1) rfl (X.at (e := eB) (x := v1) (X.isi (X.bo (X.var (d := p_value) rfl))) hv1) (XA.cons (u := ((isiO .bool (.d p_value)).bind fun v2 => some (!v2))) rfl (X.mbind fun v2 hv2 => (X.not (X.at (e := eB) (x := v2) (X.isi (X.bo (X.var (d := p_value) rfl))) hv2))) (XA.one (u := ((toI p_value).bind fun v3 => some (decide ((0 : Int) ≤ v3)))) (X.mbind fun v3 hv3 => (X.ge (X.bo (X.toI (X.var (d := p_value) rfl) hv3)) (X.bo (X.int 0)))))))) hv4) (fun rv h => qR_ret h))))
def S_start_state (p_many : Int) (p_lies : Int) : Option (List Int) := ((repT ([(0 : Int)] : List Int) p_lies).bind fun v1 => ((catZ ([p_many] : List Int) v1).bind fun v2 => some v2))
theorem C_start_state : ∀ (k : Nat), 1 ≤ k → ∀ (p_many : Int) (p_lies : Int), Fk (callN fns wF k) 1 [.d (eI p_many), .d (eI p_lies)] ((S_start_state p_many p_lies).map (eT eI))
  | 0, hk, p_many, p_lies => absurd hk (by omega)
  | k + 1, hk, p_many, p_lies => by
    unfold S_start_state
    refine Fk.of (e := (eT eI)) rfl rfl rfl ?_
    show W _ _ [.val (eI p_many), .val (eI p_lies)] _ _
    exact (W.bind fun v1 hv1 => (W.bind fun v2 hv2 => (W.ret (x := v2) (X.at (e := (eT eI)) (x := v2) (X.catT (e := eI) (X.bo (XL.tup (XL.cons (e := eI) (x := p_many) (X.var (d := eI p_many) rfl) (XL.nil (e := eI))))) (X.bo (X.at (e := (eT eI)) (x := v1) (X.repT (e := eI) (X.bo (XL.tup (XL.cons (e := eI) (x := (0 : Int)) (X.int 0) (XL.nil (e := eI))))) (X.bo (X.var (d := eI p_lies) rfl))) hv1))) hv2) (fun rv h => qR_ret h))))
def S_behind_yes (p_state : (List Int)) (p_asked : (List Int)) : Option (List Int) := ((rngG 0 (p_state.length : Int)).bind fun v1 => ((foldO (fun (x2 : Int) (s3 : (List Int)) => ((idxZ p_asked x2).bind fun v5 => ((if decide ((0 : Int) < x2) = true then ((idxZ p_state (x2 - (1 : Int))).bind fun v8 => ((idxZ p_asked (x2 - (1 : Int))).bind fun v9 => some (v8 - v9))) else some (0 : Int)).bind fun v10 => ((snocZ s3 (v5 + v10)).bind fun l11 => some l11)))) v1 ([] : List Int)).bind fun (s4 : (List Int)) => some s4))
theorem C_behind_yes : ∀ (k : Nat), 1 ≤ k → ∀ (p_state : (List Int)) (p_asked : (List Int)), Fk (callN fns wF k) 2 [.d ((eT eI) p_state), .d ((eT eI) p_asked)] ((S_behind_yes p_state p_asked).map (eT eI))
  | 0, hk, p_state, p_asked => absurd hk (by omega)
  | k + 1, hk, p_state, p_asked => by
    unfold S_behind_yes
    refine Fk.of (e := (eT eI)) rfl rfl rfl ?_
    show W _ _ [.val ((eT eI) p_state), .val ((eT eI) p_asked), .un, .un] _ _
    exact (W.asgO (env1 := [.val ((eT eI) p_state), .val ((eT eI) p_asked), .own (.lst (([] : List Int).map eI)), .un]) (XL.lst (XL.nil (e := eI))) rfl (W.bind fun v1 hv1 => (W.fold (g := fun (x2 : Int) (s3 : (List Int)) => ((idxZ p_asked x2).bind fun v5 => ((if decide ((0 : Int) < x2) = true then ((idxZ p_state (x2 - (1 : Int))).bind fun v8 => ((idxZ p_asked (x2 - (1 : Int))).bind fun v9 => some (v8 - v9))) else some (0 : Int)).bind fun v10 => ((snocZ s3 (v5 + v10)).bind fun l11 => some l11)))) (e := eI) (enc := (fun (s3 : (List Int)) => [.val ((eT eI) p_state), .val ((eT eI) p_asked), .own (.lst (s3.map eI)), .un])) (xs := v1) (s0 := ([] : List Int)) (env1 := fun (x2 : Int) (s3 : (List Int)) => [.val ((eT eI) p_state), .val ((eT eI) p_asked), .own (.lst (s3.map eI)), .val (eI x2)]) (XI.rngG1 hv1 (X.len (e := eI) (xs := p_state) (sqT (e := eI) (xs := p_state)) (X.bo (X.var (d := (eT eI) p_state) rfl)))) (fun _ _ => rfl) (fun x2 s3 => (W.bind fun v5 hv5 => (W.bind fun v10 hv10 => (W.app (e := eI) (xs := s3) (x := (v5 + v10)) (env1 := fun l11 => [.val ((eT eI) p_state), .val ((eT eI) p_asked), .own (.lst (l11.map eI)), .val (eI x2)]) rfl (X.add (X.bo (X.at (e := eI) (x := v5) (X.idx (e := eI) (sqT (e := eI) (xs := p_asked)) (X.bo (X.var (d := (eT eI) p_asked) rfl)) (X.var (d := eI x2) rfl)) hv5)) (X.bo (X.at (e := eI) (x := v10) (X.iteO (e := eI) (X.gt (X.bo (X.var (d := eI x2) rfl)) (X.bo (X.int 0))) (fun _ => (X.mbind fun v8 hv8 => (X.mbind fun v9 hv9 => (X.sub (X.bo (X.at (e := eI) (x := v8) (X.idx (e := eI) (sqT (e := eI) (xs := p_state)) (X.bo (X.var (d := (eT eI) p_state) rfl)) (X.sub (X.bo (X.var (d := eI x2) rfl)) (X.bo (X.int 1)))) hv8)) (X.bo (X.at (e := eI) (x := v9) (X.idx (e := eI) (sqT (e := eI) (xs := p_asked)) (X.bo (X.var (d := (eT eI) p_asked) rfl)) (X.sub (X.bo (X.var (d := eI x2) rfl)) (X.bo (X.int 1)))) hv9)))))) (fun _ => (X.int 0))) hv10))) (fun _ => rfl) fun l11 hl11 => (W.fgt (env1 := [.val ((eT eI) p_state), .val ((eT eI) p_asked), .own (.lst (l11.map eI)), .un]) rfl (W.nil (x := l11) (qN_nx rfl))))))) fun s4 => (W.ret (x := s4) (X.tuple (e := eI) (xs := s4) (sqL (e := eI) (xs := s4)) (XB.own (ds := s4.map eI) rfl)) (fun rv h => qR_ret h)))))
def S_behind_no (p_state : (List Int)) (p_asked : (List Int)) : Option (List Int) := ((rngG 0 (p_state.length : Int)).bind fun v1 => ((lenZ (lcM (fun (x2 : Int) => oneO (some true) (((idxZ p_state x2).bind fun v3 => ((idxZ p_asked x2).bind fun v4 => some (v3 - v4))))) v1)).bind fun v5 => ((S_behind_yes p_state v5).bind fun v6 => some v6)))
theorem C_behind_no : ∀ (k : Nat), 2 ≤ k → ∀ (p_state : (List Int)) (p_asked : (List Int)), Fk (callN fns wF k) 3 [.d ((eT eI) p_state), .d ((eT eI) p_asked)] ((S_behind_no p_state p_asked).map (eT eI))
  | 0, hk, p_state, p_asked => absurd hk (by omega)
  | k + 1, hk, p_state, p_asked => by
    unfold S_behind_no
    refine Fk.of (e := (eT eI)) rfl rfl rfl ?_
    show W _ _ [.val ((eT eI) p_state), .val ((eT eI) p_asked), .un] _ _
    exact (W.bind fun v1 hv1 => (W.bind fun v5 hv5 => (W.bind fun v6 hv6 => (W.ret (x := v6) (X.at (e := (eT eI)) (x := v6) (X.call (As.cons (d := ((eT eI) p_state)) (X.var (d := (eT eI) p_state) rfl) (As.cons (d := ((eT eI) v5)) (X.tuple (e := eI) (xs := v5) (sqL (e := eI) (xs := v5)) (X.bo (XF.x1 (e := eI) (xs := v5) (XF.at (XF.lcO (u := fun (x2 : Int) => some true) (g := fun (x2 : Int) => ((idxZ p_state x2).bind fun v3 => ((idxZ p_asked x2).bind fun v4 => some (v3 - v4)))) (e := eI) (f := eI) (xs := v1) (env1 := (fun (x2 : Int) => [.val ((eT eI) p_state), .val ((eT eI) p_asked), .val (eI x2)])) (XI.rngG1 hv1 (X.len (e := eI) (xs := p_state) (sqT (e := eI) (xs := p_state)) (X.bo (X.var (d := (eT eI) p_state) rfl)))) (fun _ => rfl) (fun x2 => XC.no) fun x2 _ => (X.mbind fun v3 hv3 => (X.mbind fun v4 hv4 => (X.sub (X.bo (X.at (e := eI) (x := v3) (X.idx (e := eI) (sqT (e := eI) (xs := p_state)) (X.bo (X.var (d := (eT eI) p_state) rfl)) (X.var (d := eI x2) rfl)) hv3)) (X.bo (X.at (e := eI) (x := v4) (X.idx (e := eI) (sqT (e := eI) (xs := p_asked)) (X.bo (X.var (d := (eT eI) p_asked) rfl)) (X.var (d := eI x2) rfl)) hv4)))))) hv5)))) As.nil)) (C_behind_yes k (by omega) p_state v5)) hv6) (fun rv h => qR_ret h)))))
def S_choose (p_many : Int) (p_size : Int) : Option Int := ((rngG 0 p_size).bind fun v1 => ((foldO (fun (x2 : Int) (s3 : Int) => ((opZ .mul s3 (p_many - x2)).bind fun v5 => ((opZ .fdiv v5 (x2 + (1 : Int))).bind fun v6 => some v6))) v1 (1 : Int)).bind fun (s4 : Int) => some (if decide (p_size ≤ p_many) = true then s4 else (0 : Int))))
theorem C_choose : ∀ (k : Nat), 1 ≤ k → ∀ (p_many : Int) (p_size : Int), Fk (callN fns wF k) 4 [.d (eI p_many), .d (eI p_size)] ((S_choose p_many p_size).map eI)
  | 0, hk, p_many, p_size => absurd hk (by omega)
  | k + 1, hk, p_many, p_size => by
    unfold S_choose
    refine Fk.of (e := eI) rfl rfl rfl ?_
    show W _ _ [.val (eI p_many), .val (eI p_size), .un, .un] _ _
    exact (W.asg (env1 := [.val (eI p_many), .val (eI p_size), .val (eI (1 : Int)), .un]) (X.int 1) rfl (W.bind fun v1 hv1 => (W.fold (g := fun (x2 : Int) (s3 : Int) => ((opZ .mul s3 (p_many - x2)).bind fun v5 => ((opZ .fdiv v5 (x2 + (1 : Int))).bind fun v6 => some v6))) (e := eI) (enc := (fun (s3 : Int) => [.val (eI p_many), .val (eI p_size), .val (eI s3), .un])) (xs := v1) (s0 := (1 : Int)) (env1 := fun (x2 : Int) (s3 : Int) => [.val (eI p_many), .val (eI p_size), .val (eI s3), .val (eI x2)]) (XI.rngG1 hv1 (X.var (d := eI p_size) rfl)) (fun _ _ => rfl) (fun x2 s3 => (W.bind fun v5 hv5 => (W.bind fun v6 hv6 => (W.asg (env1 := [.val (eI p_many), .val (eI p_size), .val (eI v6), .val (eI x2)]) (X.at (e := eI) (x := v6) (X.opZ (X.bo (X.at (e := eI) (x := v5) (X.opZ (X.bo (X.var (d := eI s3) rfl)) (X.bo (X.sub (X.bo (X.var (d := eI p_many) rfl)) (X.bo (X.var (d := eI x2) rfl))))) hv5)) (X.bo (X.add (X.bo (X.var (d := eI x2) rfl)) (X.bo (X.int 1))))) hv6) rfl (W.fgt (env1 := [.val (eI p_many), .val (eI p_size), .val (eI v6), .un]) rfl (W.nil (x := v6) (qN_nx rfl))))))) fun s4 => (W.ret (x := (if decide (p_size ≤ p_many) = true then s4 else (0 : Int))) (X.iteT (e := eI) (X.le (X.bo (X.var (d := eI p_size) rfl)) (X.bo (X.var (d := eI p_many) rfl))) (X.var (d := eI s4) rfl) (X.int 0)) (fun rv h => qR_ret h)))))
def S_balls (p_many : Int) (p_lies : Int) : Option Int := ((rngG 0 (p_lies + (1 : Int))).bind fun v1 => ((lenZ (lcM (fun (x2 : Int) => oneO (some true) (S_choose p_many x2)) v1)).bind fun v5 => some v5.sum))
theorem C_balls : ∀ (k : Nat), 2 ≤ k → ∀ (p_many : Int) (p_lies : Int), Fk (callN fns wF k) 5 [.d (eI p_many), .d (eI p_lies)] ((S_balls p_many p_lies).map eI)
  | 0, hk, p_many, p_lies => absurd hk (by omega)
  | k + 1, hk, p_many, p_lies => by
    unfold S_balls
    refine Fk.of (e := eI) rfl rfl rfl ?_
    show W _ _ [.val (eI p_many), .val (eI p_lies), .un] _ _
    exact (W.bind fun v1 hv1 => (W.bind fun v5 hv5 => (W.ret (x := v5.sum) (X.sum (X.bo (XF.x1 (e := eI) (xs := v5) (XF.at (XF.lcO (u := fun (x2 : Int) => some true) (g := fun (x2 : Int) => S_choose p_many x2) (e := eI) (f := eI) (xs := v1) (env1 := (fun (x2 : Int) => [.val (eI p_many), .val (eI p_lies), .val (eI x2)])) (XI.rngG1 hv1 (X.add (X.bo (X.var (d := eI p_lies) rfl)) (X.bo (X.int 1)))) (fun _ => rfl) (fun x2 => XC.no) fun x2 _ => (X.call (As.cons (d := (eI p_many)) (X.var (d := eI p_many) rfl) (As.cons (d := (eI x2)) (X.var (d := eI x2) rfl) As.nil)) (C_choose k (by omega) p_many x2))) hv5)))) (fun rv h => qR_ret h))))
def S_volume (p_state : (List Int)) (p_many : Int) : Option Int := ((rngG 0 (p_state.length : Int)).bind fun v1 => ((lenZ (lcM (fun (x2 : Int) => oneO (some true) (((idxZ p_state x2).bind fun v6 => ((S_balls p_many (((p_state.length : Int) - (1 : Int)) - x2)).bind fun v7 => opZ .mul v6 v7)))) v1)).bind fun v9 => some v9.sum))
theorem C_volume : ∀ (k : Nat), 3 ≤ k → ∀ (p_state : (List Int)) (p_many : Int), Fk (callN fns wF k) 6 [.d ((eT eI) p_state), .d (eI p_many)] ((S_volume p_state p_many).map eI)
  | 0, hk, p_state, p_many => absurd hk (by omega)
  | k + 1, hk, p_state, p_many => by
    unfold S_volume
    refine Fk.of (e := eI) rfl rfl rfl ?_
    show W _ _ [.val ((eT eI) p_state), .val (eI p_many), .un] _ _
    exact (W.bind fun v1 hv1 => (W.bind fun v9 hv9 => (W.ret (x := v9.sum) (X.sum (X.bo (XF.x1 (e := eI) (xs := v9) (XF.at (XF.lcO (u := fun (x2 : Int) => some true) (g := fun (x2 : Int) => ((idxZ p_state x2).bind fun v6 => ((S_balls p_many (((p_state.length : Int) - (1 : Int)) - x2)).bind fun v7 => opZ .mul v6 v7))) (e := eI) (f := eI) (xs := v1) (env1 := (fun (x2 : Int) => [.val ((eT eI) p_state), .val (eI p_many), .val (eI x2)])) (XI.rngG1 hv1 (X.len (e := eI) (xs := p_state) (sqT (e := eI) (xs := p_state)) (X.bo (X.var (d := (eT eI) p_state) rfl)))) (fun _ => rfl) (fun x2 => XC.no) fun x2 _ => (X.mbind fun v6 hv6 => (X.mbind fun v7 hv7 => (X.opZ (X.bo (X.at (e := eI) (x := v6) (X.idx (e := eI) (sqT (e := eI) (xs := p_state)) (X.bo (X.var (d := (eT eI) p_state) rfl)) (X.var (d := eI x2) rfl)) hv6)) (X.bo (X.at (e := eI) (x := v7) (X.call (As.cons (d := (eI p_many)) (X.var (d := eI p_many) rfl) (As.cons (d := (eI (((p_state.length : Int) - (1 : Int)) - x2))) (X.sub (X.bo (X.sub (X.bo (X.len (e := eI) (xs := p_state) (sqT (e := eI) (xs := p_state)) (X.bo (X.var (d := (eT eI) p_state) rfl)))) (X.bo (X.int 1)))) (X.bo (X.var (d := eI x2) rfl))) As.nil)) (C_balls k (by omega) p_many (((p_state.length : Int) - (1 : Int)) - x2))) hv7)))))) hv9)))) (fun rv h => qR_ret h))))
def S_all_asked (p_state : (List Int)) : Option (List (List Int)) := ((foldO (fun (x1 : Int) (s2 : (List (List Int))) => ((lenZ (lcM (fun (x11 : (List Int)) => (some true).bind fun t => if t = true then (((rngG 0 (x1 + (1 : Int))).bind fun v13 => some v13)).bind fun zs => lcM (fun (y12 : Int) => oneO (some true) (catZ x11 ([y12] : List Int))) zs else some []) s2)).bind fun v16 => some v16)) p_state ([([] : List Int)] : List (List Int))).bind fun (s3 : (List (List Int))) => ((lenZ (lcM (fun (x4 : (List Int)) => oneO (((rngG 0 (p_state.length : Int)).bind fun v5 => ((lenZ (lcM (fun (x6 : Int) => oneO (some true) (((idxZ p_state x6).bind fun v7 => ((idxZ x4 x6).bind fun v8 => some (v7 - v8))))) v5)).bind fun v9 => some (lexLe x4 v9)))) (some x4)) s3)).bind fun v10 => some v10))
theorem C_all_asked : ∀ (k : Nat), 1 ≤ k → ∀ (p_state : (List Int)), Fk (callN fns wF k) 7 [.d ((eT eI) p_state)] ((S_all_asked p_state).map (eL (eT eI)))
  | 0, hk, p_state => absurd hk (by omega)
  | k + 1, hk, p_state => by
    unfold S_all_asked
    refine Fk.of (e := (eL (eT eI))) rfl rfl rfl ?_
    show W _ _ [.val ((eT eI) p_state), .un, .un, .un, .un] _ _
    exact (W.asg (env1 := [.val ((eT eI) p_state), .val ((eL (eT eI)) ([([] : List Int)] : List (List Int))), .un, .un, .un]) (XF.x1 (e := (eT eI)) (xs := ([([] : List Int)] : List (List Int))) (XL.lst (XL.cons (e := (eT eI)) (x := ([] : List Int)) (XL.tup (XL.nil (e := eI))) (XL.nil (e := (eT eI)))))) rfl (W.fold (g := fun (x1 : Int) (s2 : (List (List Int))) => ((lenZ (lcM (fun (x11 : (List Int)) => (some true).bind fun t => if t = true then (((rngG 0 (x1 + (1 : Int))).bind fun v13 => some v13)).bind fun zs => lcM (fun (y12 : Int) => oneO (some true) (catZ x11 ([y12] : List Int))) zs else some []) s2)).bind fun v16 => some v16)) (e := eI) (enc := (fun (s2 : (List (List Int))) => [.val ((eT eI) p_state), .val ((eL (eT eI)) s2), .un, .un, .un])) (xs := p_state) (s0 := ([([] : List Int)] : List (List Int))) (env1 := fun (x1 : Int) (s2 : (List (List Int))) => [.val ((eT eI) p_state), .val ((eL (eT eI)) s2), .val (eI x1), .un, .un]) (XI.seqZ (sqT (e := eI) (xs := p_state)) (X.var (d := (eT eI) p_state) rfl)) (fun _ _ => rfl) (fun x1 s2 => (W.bind fun v16 hv16 => (W.asg (env1 := [.val ((eT eI) p_state), .val ((eL (eT eI)) v16), .val (eI x1), .un, .un]) (XF.x1 (e := (eT eI)) (xs := v16) (XF.at (XF.lc2O (e := (eT eI)) (e2 := eI) (f := (eT eI)) (u := fun (x11 : (List Int)) => some true) (ys := fun (x11 : (List Int)) => ((rngG 0 (x1 + (1 : Int))).bind fun v13 => some v13)) (u2 := fun (x11 : (List Int)) (y12 : Int) => some true) (g := fun (x11 : (List Int)) (y12 : Int) => catZ x11 ([y12] : List Int)) (env1 := fun (x11 : (List Int)) => [.val ((eT eI) p_state), .val ((eL (eT eI)) s2), .val (eI x1), .val ((eT eI) x11), .un]) (env2 := fun (x11 : (List Int)) (y12 : Int) => [.val ((eT eI) p_state), .val ((eL (eT eI)) s2), .val (eI x1), .val ((eT eI) x11), .val (eI y12)]) (XI.seq (sqL (e := (eT eI)) (xs := s2)) (X.bo (X.var (d := (eL (eT eI)) s2) rfl))) (fun _ => rfl) (fun x11 => XC.no) (fun x11 z14 _ hz => (have ⟨v13, hv13, hz0⟩ := Option.bind_eq_some_iff.mp hz; (Option.some.inj hz0) ▸ (XI.rngG1 hv13 (X.add (X.bo (X.var (d := eI x1) rfl)) (X.bo (X.int 1)))))) (fun _ _ => rfl) (fun x11 y12 => XC.no) fun x11 y12 _ => (X.catT (e := eI) (X.bo (X.var (d := (eT eI) x11) rfl)) (X.bo (XL.tup (XL.cons (e := eI) (x := y12) (X.var (d := eI y12) rfl) (XL.nil (e := eI))))))) hv16)) rfl (W.fgt (env1 := [.val ((eT eI) p_state), .val ((eL (eT eI)) v16), .un, .un, .un]) rfl (W.nil (x := v16) (qN_nx rfl)))))) fun s3 => (W.bind fun v10 hv10 => (W.ret (x := v10) (XF.x1 (e := (eT eI)) (xs := v10) (XF.at (XF.lcO (u := fun (x4 : (List Int)) => ((rngG 0 (p_state.length : Int)).bind fun v5 => ((lenZ (lcM (fun (x6 : Int) => oneO (some true) (((idxZ p_state x6).bind fun v7 => ((idxZ x4 x6).bind fun v8 => some (v7 - v8))))) v5)).bind fun v9 => some (lexLe x4 v9)))) (g := fun (x4 : (List Int)) => some x4) (e := (eT eI)) (f := (eT eI)) (xs := s3) (env1 := (fun (x4 : (List Int)) => [.val ((eT eI) p_state), .val ((eL (eT eI)) s3), .un, .val ((eT eI) x4), .un])) (XI.seq (sqL (e := (eT eI)) (xs := s3)) (X.bo (X.var (d := (eL (eT eI)) s3) rfl))) (fun _ => rfl) (fun x4 => (XC.x (X.mbind fun v5 hv5 => (X.mbind fun v9 hv9 => (X.leT (X.bo (X.var (d := (eT eI) x4) rfl)) (X.bo (X.tuple (e := eI) (xs := v9) (sqL (e := eI) (xs := v9)) (X.bo (XF.x1 (e := eI) (xs := v9) (XF.at (XF.lcO (u := fun (x6 : Int) => some true) (g := fun (x6 : Int) => ((idxZ p_state x6).bind fun v7 => ((idxZ x4 x6).bind fun v8 => some (v7 - v8)))) (e := eI) (f := eI) (xs := v5) (env1 := (fun (x6 : Int) => [.val ((eT eI) p_state), .val ((eL (eT eI)) s3), .un, .val ((eT eI) x4), .val (eI x6)])) (XI.rngG1 hv5 (X.len (e := eI) (xs := p_state) (sqT (e := eI) (xs := p_state)) (X.bo (X.var (d := (eT eI) p_state) rfl)))) (fun _ => rfl) (fun x6 => XC.no) fun x6 _ => (X.mbind fun v7 hv7 => (X.mbind fun v8 hv8 => (X.sub (X.bo (X.at (e := eI) (x := v7) (X.idx (e := eI) (sqT (e := eI) (xs := p_state)) (X.bo (X.var (d := (eT eI) p_state) rfl)) (X.var (d := eI x6) rfl)) hv7)) (X.bo (X.at (e := eI) (x := v8) (X.idx (e := eI) (sqT (e := eI) (xs := x4)) (X.bo (X.var (d := (eT eI) x4) rfl)) (X.var (d := eI x6) rfl)) hv8)))))) hv9)))))))))) fun x4 _ => (X.var (d := (eT eI) x4) rfl)) hv10)) (fun rv h => qR_ret h)))))
def S_can_tell : Nat → (List Int) → Int → M KV Bool
  | 0, _, _ => fun _ _ => False
  | n + 1, p_state, p_many => (if decide (p_state.sum < (2 : Int)) = true then (M.opt (some true)) else (M.lift (S_volume p_state p_many) fun v1 => (M.lift (opZ .shl (1 : Int) p_many) fun v2 => (if decide (v2 < v1) = true then (M.opt (some false)) else (M.lift (catZ p_state ([p_many] : List Int)) fun v3 => (M.bind (M.bind (inM ((eT eI) v3)) fun t14 => M.ret (!t14)) fun t15 => M.bind (if t15 = true then (M.bind (putM ((eT eI) v3) (eB false)) fun _ => (M.lift (S_all_asked p_state) fun v6 => (M.bind (forM (fun (x7 : (List Int)) (s8 : Unit) => ((M.lift (S_behind_yes p_state x7) fun v10 => (M.lift (S_behind_no p_state x7) fun v11 => (M.bind (M.bind (S_can_tell n v10 (p_many - (1 : Int))) fun x12 => if x12 = true then (S_can_tell n v11 (p_many - (1 : Int))) else (M.ret false)) fun t13 => if t13 = true then (M.bind (putM ((eT eI) v3) (eB true)) fun _ => (M.opt (some (Lp.brk ())))) else (M.opt (some (Lp.nx ())))))) : M KV (Lp Unit Empty))) v6 ()) (lpM (fun (s9 : Unit) => (M.opt (some ()))) (fun r => nomatch r))))) else (M.opt (some ()))) fun (s4 : Unit) => (M.bind (getM eB ((eT eI) v3)) fun x5 => M.ret x5)))))))
theorem C_can_tell {m0 : Mem} {j : Nat} : ∀ (n k : Nat), 4 + n ≤ k → ∀ (p_state : (List Int)) (p_many : Int), FM (StD m0 j) (callN fns wF k) 8 [.d ((eT eI) p_state), .d (eI p_many), .c j] eB (S_can_tell n p_state p_many)
  | 0, k, hk, p_state, p_many => fun _ _ h => nomatch h
  | n + 1, 0, hk, p_state, p_many => absurd hk (by omega)
  | n + 1, k + 1, hk, p_state, p_many => by
    have ih := C_can_tell (m0 := m0) (j := j) n
    unfold S_can_tell
    refine FM.of (e := eB) rfl rfl rfl std_len ?_
    show WM _ _ _ [.val ((eT eI) p_state), .val (eI p_many), .cell j, .un, .un, .un, .un] _ _
    exact (WM.ite (X.lt (X.bo (X.sumT (X.bo (X.var (d := (eT eI) p_state) rfl)))) (X.bo (X.int 2))) (WM.of (W.ret (x := true) (X.bl true) (fun rv h => qR_ret h))) (WM.lift fun v1 hv1 => (WM.lift fun v2 hv2 => (WM.ite (X.gt (X.bo (X.at (e := eI) (x := v1) (X.call (As.cons (d := ((eT eI) p_state)) (X.var (d := (eT eI) p_state) rfl) (As.cons (d := (eI p_many)) (X.var (d := eI p_many) rfl) As.nil)) (C_volume k (by omega) p_state p_many)) hv1)) (X.bo (X.at (e := eI) (x := v2) (X.opZ (X.bo (X.int 1)) (X.bo (X.var (d := eI p_many) rfl))) hv2))) (WM.of (W.ret (x := false) (X.bl false) (fun rv h => qR_ret h))) (WM.lift fun v3 hv3 => (WM.asg (env1 := [.val ((eT eI) p_state), .val (eI p_many), .cell j, .val ((eT eI) v3), .un, .un, .un]) (X.at (e := (eT eI)) (x := v3) (X.catT (e := eI) (X.bo (X.var (d := (eT eI) p_state) rfl)) (X.bo (XL.tup (XL.cons (e := eI) (x := p_many) (X.var (d := eI p_many) rfl) (XL.nil (e := eI)))))) hv3) rfl (WM.joinM (enc := (fun (s4 : Unit) => [.val ((eT eI) p_state), .val (eI p_many), .cell j, .val ((eT eI) v3), .un, .un, .un])) (XM.notinD (e := (eT eI)) (x := v3) (fun _ k => k.tup) rfl (X.bo (X.var (d := (eT eI) v3) rfl))) (WM.putD (e := (eT eI)) (f := eB) (x := v3) (y := false) rfl (X.bl false) (X.var (d := (eT eI) v3) rfl) (WM.lift fun v6 hv6 => (WM.for (g := (fun (x7 : (List Int)) (s8 : Unit) => ((M.lift (S_behind_yes p_state x7) fun v10 => (M.lift (S_behind_no p_state x7) fun v11 => (M.bind (M.bind (S_can_tell n v10 (p_many - (1 : Int))) fun x12 => if x12 = true then (S_can_tell n v11 (p_many - (1 : Int))) else (M.ret false)) fun t13 => if t13 = true then (M.bind (putM ((eT eI) v3) (eB true)) fun _ => (M.opt (some (Lp.brk ())))) else (M.opt (some (Lp.nx ())))))) : M KV (Lp Unit Empty)))) (qr := (fun r _ => nomatch r)) (kr := (fun r => nomatch r)) (e := (eT eI)) (enc := (fun (s8 : Unit) => [.val ((eT eI) p_state), .val (eI p_many), .cell j, .val ((eT eI) v3), .un, .un, .un])) (xs := v6) (t0 := ()) (env1 := fun (x7 : (List Int)) (s8 : Unit) => [.val ((eT eI) p_state), .val (eI p_many), .cell j, .val ((eT eI) v3), .val ((eT eI) x7), .un, .un]) (XI.seqZ (sqL (e := (eT eI)) (xs := v6)) (X.at (e := (eL (eT eI))) (x := v6) (X.call (As.cons (d := ((eT eI) p_state)) (X.var (d := (eT eI) p_state) rfl) As.nil) (C_all_asked k (by omega) p_state)) hv6)) (fun _ _ => rfl) (fun x7 s8 => (WM.lift fun v10 hv10 => (WM.lift fun v11 hv11 => (WM.asgT (env1 := [.val ((eT eI) p_state), .val (eI p_many), .cell j, .val ((eT eI) v3), .val ((eT eI) x7), .val ((eT eI) v10), .val ((eT eI) v11)]) (X.tup (Xs.cons (d := ((eT eI) v10)) (X.at (e := (eT eI)) (x := v10) (X.call (As.cons (d := ((eT eI) p_state)) (X.var (d := (eT eI) p_state) rfl) (As.cons (d := ((eT eI) x7)) (X.var (d := (eT eI) x7) rfl) As.nil)) (C_behind_yes k (by omega) p_state x7)) hv10) (Xs.cons (d := ((eT eI) v11)) (X.at (e := (eT eI)) (x := v11) (X.call (As.cons (d := ((eT eI) p_state)) (X.var (d := (eT eI) p_state) rfl) (As.cons (d := ((eT eI) x7)) (X.var (d := (eT eI) x7) rfl) As.nil)) (C_behind_no k (by omega) p_state x7)) hv11) Xs.nil))) rfl (WM.iteM (XM.and (AM.cons rfl (XM.call (As.cons (d := ((eT eI) v10)) (X.var (d := (eT eI) v10) rfl) (As.cons (d := (eI (p_many - (1 : Int)))) (X.sub (X.bo (X.var (d := eI p_many) rfl)) (X.bo (X.int 1))) (As.cell rfl As.nil))) (ih k (by omega) v10 (p_many - (1 : Int)))) (AM.one (XM.call (As.cons (d := ((eT eI) v11)) (X.var (d := (eT eI) v11) rfl) (As.cons (d := (eI (p_many - (1 : Int)))) (X.sub (X.bo (X.var (d := eI p_many) rfl)) (X.bo (X.int 1))) (As.cell rfl As.nil))) (ih k (by omega) v11 (p_many - (1 : Int))))))) (WM.putD (e := (eT eI)) (f := eB) (x := v3) (y := true) rfl (X.bl true) (X.var (d := (eT eI) v3) rfl) (WM.of (W.fgt (env1 := [.val ((eT eI) p_state), .val (eI p_many), .cell j, .val ((eT eI) v3), .un, .val ((eT eI) v10), .val ((eT eI) v11)]) rfl (W.fgt (env1 := [.val ((eT eI) p_state), .val (eI p_many), .cell j, .val ((eT eI) v3), .un, .un, .val ((eT eI) v11)]) rfl (W.fgt (env1 := [.val ((eT eI) p_state), .val (eI p_many), .cell j, .val ((eT eI) v3), .un, .un, .un]) rfl (W.brk (x := (Lp.brk ())) (qL_brk rfl))))))) (WM.of (W.fgt (env1 := [.val ((eT eI) p_state), .val (eI p_many), .cell j, .val ((eT eI) v3), .un, .val ((eT eI) v10), .val ((eT eI) v11)]) rfl (W.fgt (env1 := [.val ((eT eI) p_state), .val (eI p_many), .cell j, .val ((eT eI) v3), .un, .un, .val ((eT eI) v11)]) rfl (W.fgt (env1 := [.val ((eT eI) p_state), .val (eI p_many), .cell j, .val ((eT eI) v3), .un, .un, .un]) rfl (W.nil (x := (Lp.nx ())) (qL_nx rfl))))))))))) (fun r => nomatch r) fun s9 => (WM.of (W.nil (x := ()) (qN_nx rfl)))))) (WM.of (W.nil (x := ()) (qN_nx rfl))) fun s4 => (WM.retM (v := fun (x5 : Bool) => x5) (XM.getD (e := (eT eI)) (x := v3) rfl (X.var (d := (eT eI) v3) rfl)) (fun x5 rv h => qR_ret h)))))))))
def S_least_asked (p_state : (List Int)) (p_most : Int) : M KV (Option Int) := (M.lift (rngG 0 (p_most + (1 : Int))) fun v1 => (M.bind (forM (fun (x2 : Int) (s3 : Unit) => ((M.bind (S_can_tell 12 p_state x2) fun t5 => if t5 = true then (M.opt (some (Lp.ret (some x2)))) else (M.opt (some (Lp.nx ())))) : M KV (Lp Unit (Option Int)))) v1 ()) (lpM (fun (s4 : Unit) => (M.opt (some (none : (Option Int))))) (fun r => r))))
theorem C_least_asked : ∀ (k : Nat), 17 ≤ k → ∀ (p_state : (List Int)) (p_most : Int) (x : (Option Int)), S_least_asked p_state p_most [] (fun r _ => r = x) → ∀ m, ∃ rv, callN fns wF k 9 [.d ((eT eI) p_state), .d (eI p_most)] m = .ok rv m ∧ rv.dat = some ((eO eI) x)
  | 0, hk, p_state, p_most, x, hx, m => absurd hk (by omega)
  | k + 1, hk, p_state, p_most, x, hx, m => by
    refine local_dict (e := (eO eI)) (n := S_least_asked p_state p_most) rfl rfl rfl rfl (fun m => ?_) hx m
    unfold S_least_asked
    show WM _ _ _ [.val ((eT eI) p_state), .val (eI p_most), .cell m.length, .un] _ _
    exact (WM.lift fun v1 hv1 => (WM.for (g := (fun (x2 : Int) (s3 : Unit) => ((M.bind (S_can_tell 12 p_state x2) fun t5 => if t5 = true then (M.opt (some (Lp.ret (some x2)))) else (M.opt (some (Lp.nx ())))) : M KV (Lp Unit (Option Int))))) (qr := (qR (eO eI))) (kr := (fun r => r)) (e := eI) (enc := (fun (s3 : Unit) => [.val ((eT eI) p_state), .val (eI p_most), .cell m.length, .un])) (xs := v1) (t0 := ()) (env1 := fun (x2 : Int) (s3 : Unit) => [.val ((eT eI) p_state), .val (eI p_most), .cell m.length, .val (eI x2)]) (XI.rngG1 hv1 (X.add (X.bo (X.var (d := eI p_most) rfl)) (X.bo (X.int 1)))) (fun _ _ => rfl) (fun x2 s3 => (WM.iteM (XM.call (As.cons (d := ((eT eI) p_state)) (X.var (d := (eT eI) p_state) rfl) (As.cons (d := (eI x2)) (X.var (d := eI x2) rfl) (As.cell rfl As.nil))) (C_can_tell 12 k (by omega) p_state x2)) (WM.of (W.ret (x := (Lp.ret (some x2))) (X.toO (e := eI) (x := x2) (X.var (d := eI x2) rfl)) (fun rv h => qL_ret (qR_ret h)))) (WM.of (W.fgt (env1 := [.val ((eT eI) p_state), .val (eI p_most), .cell m.length, .un]) rfl (W.nil (x := (Lp.nx ())) (qL_nx rfl)))))) (fun _ _ h => h) fun s4 => (WM.of (W.ret (x := (none : (Option Int))) (X.toON (e := eI) X.non) (fun rv h => qR_ret h)))))
def S_lie_tree_from : Nat → (List Int) → Int → M KV D
  | 0, _, _ => fun _ _ => False
  | n + 1, p_state, p_many => (if decide (p_state.sum < (2 : Int)) = true then (M.opt (some (D.tup [(eS (⟨#[116, 111, 108, 100]⟩ : Str))]))) else (M.lift (S_all_asked p_state) fun v1 => (M.bind (forM (fun (x2 : (List Int)) (s3 : Unit) => ((M.lift (S_behind_yes p_state x2) fun v5 => (M.lift (S_behind_no p_state x2) fun v6 => (M.bind (M.bind (S_can_tell 12 v5 (p_many - (1 : Int))) fun x17 => if x17 = true then (S_can_tell 12 v6 (p_many - (1 : Int))) else (M.ret false)) fun t18 => if t18 = true then (M.bind (M.bind (M.bind (M.ret (eS (⟨#[97, 115, 107]⟩ : Str))) fun x13 => M.bind (M.bind (M.ret ((eT eI) x2)) fun x11 => M.bind (M.bind (S_lie_tree_from n v5 (p_many - (1 : Int))) fun x9 => M.bind (M.bind (S_lie_tree_from n v6 (p_many - (1 : Int))) fun x7 => M.bind (M.ret ()) fun y8 => M.ret (x7, y8)) fun y10 => M.ret (x9, y10)) fun y12 => M.ret (x11, y12)) fun y14 => M.ret (x13, y14)) fun y15 => M.ret (D.tup [y15.1, y15.2.1, y15.2.2.1, y15.2.2.2.1])) fun x16 => M.ret (Lp.ret x16)) else (M.opt (some (Lp.nx ())))))) : M KV (Lp Unit D))) v1 ()) (lpM (fun (s4 : Unit) => (M.opt (some (eU ())))) (fun r => r)))))
theorem C_lie_tree_from {m0 : Mem} {j : Nat} : ∀ (n k : Nat), 17 + n ≤ k → ∀ (p_state : (List Int)) (p_many : Int), FM (StD m0 j) (callN fns wF k) 11 [.d ((eT eI) p_state), .d (eI p_many), .c j] eD (S_lie_tree_from n p_state p_many)
  | 0, k, hk, p_state, p_many => fun _ _ h => nomatch h
  | n + 1, 0, hk, p_state, p_many => absurd hk (by omega)
  | n + 1, k + 1, hk, p_state, p_many => by
    have ih := C_lie_tree_from (m0 := m0) (j := j) n
    unfold S_lie_tree_from
    refine FM.of (e := eD) rfl rfl rfl std_len ?_
    show WM _ _ _ [.val ((eT eI) p_state), .val (eI p_many), .cell j, .un, .un, .un] _ _
    exact (WM.ite (X.lt (X.bo (X.sumT (X.bo (X.var (d := (eT eI) p_state) rfl)))) (X.bo (X.int 2))) (WM.of (W.ret (x := (D.tup [(eS (⟨#[116, 111, 108, 100]⟩ : Str))])) (X.tup (Xs.cons (X.str ⟨#[116, 111, 108, 100]⟩) Xs.nil)) (fun rv h => qR_ret h))) (WM.lift fun v1 hv1 => (WM.for (g := (fun (x2 : (List Int)) (s3 : Unit) => ((M.lift (S_behind_yes p_state x2) fun v5 => (M.lift (S_behind_no p_state x2) fun v6 => (M.bind (M.bind (S_can_tell 12 v5 (p_many - (1 : Int))) fun x17 => if x17 = true then (S_can_tell 12 v6 (p_many - (1 : Int))) else (M.ret false)) fun t18 => if t18 = true then (M.bind (M.bind (M.bind (M.ret (eS (⟨#[97, 115, 107]⟩ : Str))) fun x13 => M.bind (M.bind (M.ret ((eT eI) x2)) fun x11 => M.bind (M.bind (S_lie_tree_from n v5 (p_many - (1 : Int))) fun x9 => M.bind (M.bind (S_lie_tree_from n v6 (p_many - (1 : Int))) fun x7 => M.bind (M.ret ()) fun y8 => M.ret (x7, y8)) fun y10 => M.ret (x9, y10)) fun y12 => M.ret (x11, y12)) fun y14 => M.ret (x13, y14)) fun y15 => M.ret (D.tup [y15.1, y15.2.1, y15.2.2.1, y15.2.2.2.1])) fun x16 => M.ret (Lp.ret x16)) else (M.opt (some (Lp.nx ())))))) : M KV (Lp Unit D)))) (qr := (qR eD)) (kr := (fun r => r)) (e := (eT eI)) (enc := (fun (s3 : Unit) => [.val ((eT eI) p_state), .val (eI p_many), .cell j, .un, .un, .un])) (xs := v1) (t0 := ()) (env1 := fun (x2 : (List Int)) (s3 : Unit) => [.val ((eT eI) p_state), .val (eI p_many), .cell j, .val ((eT eI) x2), .un, .un]) (XI.seqZ (sqL (e := (eT eI)) (xs := v1)) (X.at (e := (eL (eT eI))) (x := v1) (X.call (As.cons (d := ((eT eI) p_state)) (X.var (d := (eT eI) p_state) rfl) As.nil) (C_all_asked k (by omega) p_state)) hv1)) (fun _ _ => rfl) (fun x2 s3 => (WM.lift fun v5 hv5 => (WM.lift fun v6 hv6 => (WM.asgT (env1 := [.val ((eT eI) p_state), .val (eI p_many), .cell j, .val ((eT eI) x2), .val ((eT eI) v5), .val ((eT eI) v6)]) (X.tup (Xs.cons (d := ((eT eI) v5)) (X.at (e := (eT eI)) (x := v5) (X.call (As.cons (d := ((eT eI) p_state)) (X.var (d := (eT eI) p_state) rfl) (As.cons (d := ((eT eI) x2)) (X.var (d := (eT eI) x2) rfl) As.nil)) (C_behind_yes k (by omega) p_state x2)) hv5) (Xs.cons (d := ((eT eI) v6)) (X.at (e := (eT eI)) (x := v6) (X.call (As.cons (d := ((eT eI) p_state)) (X.var (d := (eT eI) p_state) rfl) (As.cons (d := ((eT eI) x2)) (X.var (d := (eT eI) x2) rfl) As.nil)) (C_behind_no k (by omega) p_state x2)) hv6) Xs.nil))) rfl (WM.iteM (XM.and (AM.cons rfl (XM.call (As.cons (d := ((eT eI) v5)) (X.var (d := (eT eI) v5) rfl) (As.cons (d := (eI (p_many - (1 : Int)))) (X.sub (X.bo (X.var (d := eI p_many) rfl)) (X.bo (X.int 1))) (As.cell rfl As.nil))) (C_can_tell 12 k (by omega) v5 (p_many - (1 : Int)))) (AM.one (XM.call (As.cons (d := ((eT eI) v6)) (X.var (d := (eT eI) v6) rfl) (As.cons (d := (eI (p_many - (1 : Int)))) (X.sub (X.bo (X.var (d := eI p_many) rfl)) (X.bo (X.int 1))) (As.cell rfl As.nil))) (C_can_tell 12 k (by omega) v6 (p_many - (1 : Int))))))) (WM.retM (v := fun (x16 : D) => (Lp.ret x16)) (XM.tup (e := eD) (v := fun y15 => (D.tup [y15.1, y15.2.1, y15.2.2.1, y15.2.2.2.1])) (XsM.cons (e := eD) (XM.pure (e := eD) (x := (eS (⟨#[97, 115, 107]⟩ : Str))) (X.str ⟨#[97, 115, 107]⟩)) (XsM.cons (e := eD) (XM.pure (e := eD) (x := ((eT eI) x2)) (X.var (d := (eT eI) x2) rfl)) (XsM.cons (e := eD) (XM.call (As.cons (d := ((eT eI) v5)) (X.var (d := (eT eI) v5) rfl) (As.cons (d := (eI (p_many - (1 : Int)))) (X.sub (X.bo (X.var (d := eI p_many) rfl)) (X.bo (X.int 1))) (As.cell rfl As.nil))) (ih k (by omega) v5 (p_many - (1 : Int)))) (XsM.cons (e := eD) (XM.call (As.cons (d := ((eT eI) v6)) (X.var (d := (eT eI) v6) rfl) (As.cons (d := (eI (p_many - (1 : Int)))) (X.sub (X.bo (X.var (d := eI p_many) rfl)) (X.bo (X.int 1))) (As.cell rfl As.nil))) (ih k (by omega) v6 (p_many - (1 : Int)))) XsM.nil)))) (fun _ => rfl)) (fun x16 rv h => qL_ret (qR_ret h))) (WM.of (W.fgt (env1 := [.val ((eT eI) p_state), .val (eI p_many), .cell j, .un, .val ((eT eI) v5), .val ((eT eI) v6)]) rfl (W.fgt (env1 := [.val ((eT eI) p_state), .val (eI p_many), .cell j, .un, .un, .val ((eT eI) v6)]) rfl (W.fgt (env1 := [.val ((eT eI) p_state), .val (eI p_many), .cell j, .un, .un, .un]) rfl (W.nil (x := (Lp.nx ())) (qL_nx rfl))))))))))) (fun _ _ h => h) fun s4 => (WM.of (W.ret (x := (eU ())) X.non (fun rv h => qR_ret h))))))
def S_lie_tree (p_state : (List Int)) (p_many : Int) : M KV D := (M.bind (M.bind (S_can_tell 12 p_state p_many) fun x1 => if x1 = true then (S_lie_tree_from 12 p_state p_many) else (M.ret (eU ()))) fun x2 => M.ret x2)
theorem C_lie_tree : ∀ (k : Nat), 30 ≤ k → ∀ (p_state : (List Int)) (p_many : Int) (x : D), S_lie_tree p_state p_many [] (fun r _ => r = x) → ∀ m, ∃ rv, callN fns wF k 10 [.d ((eT eI) p_state), .d (eI p_many)] m = .ok rv m ∧ rv.dat = some (eD x)
  | 0, hk, p_state, p_many, x, hx, m => absurd hk (by omega)
  | k + 1, hk, p_state, p_many, x, hx, m => by
    refine local_dict (e := eD) (n := S_lie_tree p_state p_many) rfl rfl rfl rfl (fun m => ?_) hx m
    unfold S_lie_tree
    show WM _ _ _ [.val ((eT eI) p_state), .val (eI p_many), .cell m.length] _ _
    exact (WM.retM (v := fun (x2 : D) => x2) (XM.ite (XM.call (As.cons (d := ((eT eI) p_state)) (X.var (d := (eT eI) p_state) rfl) (As.cons (d := (eI p_many)) (X.var (d := eI p_many) rfl) (As.cell rfl As.nil))) (C_can_tell 12 k (by omega) p_state p_many)) (XM.call (As.cons (d := ((eT eI) p_state)) (X.var (d := (eT eI) p_state) rfl) (As.cons (d := (eI p_many)) (X.var (d := eI p_many) rfl) (As.cell rfl As.nil))) (C_lie_tree_from 12 k (by omega) p_state p_many)) (XM.pure (e := eD) (x := (eU ())) X.non)) (fun x2 rv h => qR_ret h))
def S_is_lie_tree : Nat → (List Int) → Int → D → Option Bool
  | 0, _, _, _ => none
  | n + 1, p_state, p_many, p_value => ((eqD p_value ((eT eS) ([(⟨#[116, 111, 108, 100]⟩ : Str)] : List Str))).bind fun v1 => if v1 = true then some (decide (p_state.sum < (2 : Int))) else ((isiO .tup (.d p_value)).bind fun v2 => ((orO (some (!v2)) (orO (((lenD p_value).bind fun v3 => some (decide (v3 ≠ (4 : Int))))) (orO (((idxD p_value (0 : Int)).bind fun v4 => ((eqD v4 (eS (⟨#[97, 115, 107]⟩ : Str))).bind fun v5 => some (!v5)))) (some (decide (p_many = (0 : Int))))))).bind fun v6 => if v6 = true then some false else ((idxD p_value (1 : Int)).bind fun v7 => ((isiO .tup (.d v7)).bind fun v8 => ((orO (some (!v8)) (orO (((lenD v7).bind fun v9 => some (decide (v9 ≠ (p_state.length : Int))))) (((seqD v7).bind fun v10 => ((lenZ (lcM (fun (x11 : D) => oneO (some true) (S_is_count x11)) v10)).bind fun v14 => some (!(v14.all id))))))).bind fun v15 => if v15 = true then some false else ((rngG 0 (p_state.length : Int)).bind fun v16 => ((lenZ (lcM (fun (x17 : Int) => oneO (some true) (((idxD v7 x17).bind fun v21 => ((idxZ p_state x17).bind fun v22 => ((toI v21).bind fun v23 => some (decide (v23 ≤ v22))))))) v16)).bind fun v24 => if (!(v24.all id)) = true then some false else ((toTI v7).bind fun v25 => ((S_behind_yes p_state v25).bind fun v26 => ((idxD p_value (2 : Int)).bind fun v27 => ((S_is_lie_tree n v26 (p_many - (1 : Int)) v27).bind fun v28 => if (!v28) = true then some false else ((toTI v7).bind fun v29 => ((S_behind_no p_state v29).bind fun v30 => ((idxD p_value (3 : Int)).bind fun v31 => ((S_is_lie_tree n v30 (p_many - (1 : Int)) v31).bind fun v32 => some v32))))))))))))))))
theorem C_is_lie_tree : ∀ (n k : Nat), 3 + n ≤ k → ∀ (p_state : (List Int)) (p_many : Int) (p_value : D), Fk (callN fns wF k) 12 [.d ((eT eI) p_state), .d (eI p_many), .d p_value] ((S_is_lie_tree n p_state p_many p_value).map eB)
  | 0, k, hk, p_state, p_many, p_value => fun _ _ h => nomatch h
  | n + 1, 0, hk, p_state, p_many, p_value => absurd hk (by omega)
  | n + 1, k + 1, hk, p_state, p_many, p_value => by
    have ih := C_is_lie_tree n
    unfold S_is_lie_tree
    refine Fk.of (e := eB) rfl rfl rfl ?_
    show W _ _ [.val ((eT eI) p_state), .val (eI p_many), .val p_value, .un, .un, .un] _ _
    exact (W.bind fun v1 hv1 => (W.ite (X.at (e := eB) (x := v1) (X.eqD (X.bo (X.var (d := p_value) rfl)) (X.bo (XL.tup (XL.cons (e := eS) (x := (⟨#[116, 111, 108, 100]⟩ : Str)) (X.str ⟨#[116, 111, 108, 100]⟩) (XL.nil (e := eS)))))) hv1) (fun _ => (W.ret (x := decide (p_state.sum < (2 : Int))) (X.lt (X.bo (X.sumT (X.bo (X.var (d := (eT eI) p_state) rfl)))) (X.bo (X.int 2))) (fun rv h => qR_ret h))) (fun _ => (W.bind fun v2 hv2 => (W.bind fun v6 hv6 => (W.ite (X.at (e := eB) (x := v6) (X.or (XO.cons (u := some (!v2)) rfl (X.not (X.at (e := eB) (x := v2) (X.isi (X.bo (X.var (d := p_value) rfl))) hv2)) (XO.cons (u := ((lenD p_value).bind fun v3 => some (decide (v3 ≠ (4 : Int))))) rfl (X.mbind fun v3 hv3 => (X.ne (e := eI) eqv_int (by decide) (X.bo (X.at (e := eI) (x := v3) (X.lenD (X.bo (X.var (d := p_value) rfl))) hv3)) (X.bo (X.int 4)))) (XO.cons (u := ((idxD p_value (0 : Int)).bind fun v4 => ((eqD v4 (eS (⟨#[97, 115, 107]⟩ : Str))).bind fun v5 => some (!v5)))) rfl (X.mbind fun v4 hv4 => (X.mbind fun v5 hv5 => (X.neD (X.bo (X.idxD (X.bo (X.var (d := p_value) rfl)) (X.int 0) hv4)) (X.bo (X.str ⟨#[97, 115, 107]⟩)) hv5))) (XO.one (u := some (decide (p_many = (0 : Int)))) (X.eq (e := eI) eqv_int (by decide) (X.bo (X.var (d := eI p_many) rfl)) (X.bo (X.int 0)))))))) hv6) (fun _ => (W.ret (x := false) (X.bl false) (fun rv h => qR_ret h))) (fun _ => (W.bind fun v7 hv7 => (W.asg (env1 := [.val ((eT eI) p_state), .val (eI p_many), .val p_value, .val v7, .un, .un]) (X.idxD (X.bo (X.var (d := p_value) rfl)) (X.int 1) hv7) rfl (W.bind fun v8 hv8 => (W.bind fun v15 hv15 => (W.ite (X.at (e := eB) (x := v15) (X.or (XO.cons (u := some (!v8)) rfl (X.not (X.at (e := eB) (x := v8) (X.isi (X.bo (X.var (d := v7) rfl))) hv8)) (XO.cons (u := ((lenD v7).bind fun v9 => some (decide (v9 ≠ (p_state.length : Int))))) rfl (X.mbind fun v9 hv9 => (X.ne (e := eI) eqv_int (by decide) (X.bo (X.at (e := eI) (x := v9) (X.lenD (X.bo (X.var (d := v7) rfl))) hv9)) (X.bo (X.len (e := eI) (xs := p_state) (sqT (e := eI) (xs := p_state)) (X.bo (X.var (d := (eT eI) p_state) rfl)))))) (XO.one (u := ((seqD v7).bind fun v10 => ((lenZ (lcM (fun (x11 : D) => oneO (some true) (S_is_count x11)) v10)).bind fun v14 => some (!(v14.all id))))) (X.mbind fun v10 hv10 => (X.mbind fun v14 hv14 => (X.not (X.all (X.bo (XF.x1 (e := eB) (xs := v14) (XF.at (XF.lcO (u := fun (x11 : D) => some true) (g := fun (x11 : D) => S_is_count x11) (e := eD) (f := eB) (xs := v10) (env1 := (fun (x11 : D) => [.val ((eT eI) p_state), .val (eI p_many), .val p_value, .val v7, .un, .val x11])) (XI.seqD (X.bo (X.var (d := v7) rfl)) hv10) (fun _ => rfl) (fun x11 => XC.no) fun x11 _ => (X.call (As.cons (d := x11) (X.var (d := x11) rfl) As.nil) (C_is_count k (by omega) x11))) hv14))))))))))) hv15) (fun _ => (W.ret (x := false) (X.bl false) (fun rv h => qR_ret h))) (fun _ => (W.bind fun v16 hv16 => (W.bind fun v24 hv24 => (W.ite (X.not (X.all (X.bo (XF.x1 (e := eB) (xs := v24) (XF.at (XF.lcO (u := fun (x17 : Int) => some true) (g := fun (x17 : Int) => ((idxD v7 x17).bind fun v21 => ((idxZ p_state x17).bind fun v22 => ((toI v21).bind fun v23 => some (decide (v23 ≤ v22)))))) (e := eI) (f := eB) (xs := v16) (env1 := (fun (x17 : Int) => [.val ((eT eI) p_state), .val (eI p_many), .val p_value, .val v7, .val (eI x17), .un])) (XI.rngG1 hv16 (X.len (e := eI) (xs := p_state) (sqT (e := eI) (xs := p_state)) (X.bo (X.var (d := (eT eI) p_state) rfl)))) (fun _ => rfl) (fun x17 => XC.no) fun x17 _ => (X.mbind fun v21 hv21 => (X.mbind fun v22 hv22 => (X.mbind fun v23 hv23 => (X.le (X.bo (X.toI (X.idxD (X.bo (X.var (d := v7) rfl)) (X.var (d := eI x17) rfl) hv21) hv23)) (X.bo (X.at (e := eI) (x := v22) (X.idx (e := eI) (sqT (e := eI) (xs := p_state)) (X.bo (X.var (d := (eT eI) p_state) rfl)) (X.var (d := eI x17) rfl)) hv22))))))) hv24))))) (fun _ => (W.ret (x := false) (X.bl false) (fun rv h => qR_ret h))) (fun _ => (W.bind fun v25 hv25 => (W.bind fun v26 hv26 => (W.bind fun v27 hv27 => (W.bind fun v28 hv28 => (W.ite (X.not (X.at (e := eB) (x := v28) (X.call (As.cons (d := ((eT eI) v26)) (X.at (e := (eT eI)) (x := v26) (X.call (As.cons (d := ((eT eI) p_state)) (X.var (d := (eT eI) p_state) rfl) (As.cons (d := ((eT eI) v25)) (X.toTI (X.var (d := v7) rfl) hv25) As.nil)) (C_behind_yes k (by omega) p_state v25)) hv26) (As.cons (d := (eI (p_many - (1 : Int)))) (X.sub (X.bo (X.var (d := eI p_many) rfl)) (X.bo (X.int 1))) (As.cons (d := v27) (X.idxD (X.bo (X.var (d := p_value) rfl)) (X.int 2) hv27) As.nil))) (ih k (by omega) v26 (p_many - (1 : Int)) v27)) hv28)) (fun _ => (W.ret (x := false) (X.bl false) (fun rv h => qR_ret h))) (fun _ => (W.bind fun v29 hv29 => (W.bind fun v30 hv30 => (W.bind fun v31 hv31 => (W.bind fun v32 hv32 => (W.ret (x := v32) (X.at (e := eB) (x := v32) (X.call (As.cons (d := ((eT eI) v30)) (X.at (e := (eT eI)) (x := v30) (X.call (As.cons (d := ((eT eI) p_state)) (X.var (d := (eT eI) p_state) rfl) (As.cons (d := ((eT eI) v29)) (X.toTI (X.var (d := v7) rfl) hv29) As.nil)) (C_behind_no k (by omega) p_state v29)) hv30) (As.cons (d := (eI (p_many - (1 : Int)))) (X.sub (X.bo (X.var (d := eI p_many) rfl)) (X.bo (X.int 1))) (As.cons (d := v31) (X.idxD (X.bo (X.var (d := p_value) rfl)) (X.int 3) hv31) As.nil))) (ih k (by omega) v30 (p_many - (1 : Int)) v31)) hv32) (fun rv h => qR_ret h)))))))))))))))))))))))))))))
def S_is_enough_one (p_many : Int) (p_asked : Int) : Option Bool := ((opZ .band p_many (1 : Int)).bind fun v1 => if decide (v1 = (0 : Int)) = true then ((opZ .mul p_many (p_asked + (1 : Int))).bind fun v2 => ((opZ .shl (1 : Int) p_asked).bind fun v3 => some (decide (v2 ≤ v3)))) else ((opZ .mul p_many (p_asked + (1 : Int))).bind fun v4 => ((opZ .shl (1 : Int) p_asked).bind fun v5 => some (decide (((v4 + p_asked) - (1 : Int)) ≤ v5)))))
theorem C_is_enough_one : ∀ (k : Nat), 1 ≤ k → ∀ (p_many : Int) (p_asked : Int), Fk (callN fns wF k) 14 [.d (eI p_many), .d (eI p_asked)] ((S_is_enough_one p_many p_asked).map eB)
  | 0, hk, p_many, p_asked => absurd hk (by omega)
  | k + 1, hk, p_many, p_asked => by
    unfold S_is_enough_one
    refine Fk.of (e := eB) rfl rfl rfl ?_
    show W _ _ [.val (eI p_many), .val (eI p_asked)] _ _
    exact (W.bind fun v1 hv1 => (W.ite (X.eq (e := eI) eqv_int (by decide) (X.bo (X.at (e := eI) (x := v1) (X.opZ (X.bo (X.var (d := eI p_many) rfl)) (X.bo (X.int 1))) hv1)) (X.bo (X.int 0))) (fun _ => (W.bind fun v2 hv2 => (W.bind fun v3 hv3 => (W.ret (x := decide (v2 ≤ v3)) (X.le (X.bo (X.at (e := eI) (x := v2) (X.opZ (X.bo (X.var (d := eI p_many) rfl)) (X.bo (X.add (X.bo (X.var (d := eI p_asked) rfl)) (X.bo (X.int 1))))) hv2)) (X.bo (X.at (e := eI) (x := v3) (X.opZ (X.bo (X.int 1)) (X.bo (X.var (d := eI p_asked) rfl))) hv3))) (fun rv h => qR_ret h))))) (fun _ => (W.bind fun v4 hv4 => (W.bind fun v5 hv5 => (W.ret (x := decide (((v4 + p_asked) - (1 : Int)) ≤ v5)) (X.le (X.bo (X.sub (X.bo (X.add (X.bo (X.at (e := eI) (x := v4) (X.opZ (X.bo (X.var (d := eI p_many) rfl)) (X.bo (X.add (X.bo (X.var (d := eI p_asked) rfl)) (X.bo (X.int 1))))) hv4)) (X.bo (X.var (d := eI p_asked) rfl)))) (X.bo (X.int 1)))) (X.bo (X.at (e := eI) (x := v5) (X.opZ (X.bo (X.int 1)) (X.bo (X.var (d := eI p_asked) rfl))) hv5))) (fun rv h => qR_ret h)))))))
def S_least_one_lie (p_many : Int) : Option Int := ((whlO (fun (s2 : Int) => (((S_is_enough_one p_many s2).bind fun v4 => some (!v4)) : Option Bool)) (fun (s2 : Int) => (some (Lp.nx (s2 + (1 : Int))) : Option (Lp Int Empty))) wF (0 : Int)).bind (lpK (fun (s3 : Int) => some s3) (fun r => nomatch r)))
theorem C_least_one_lie : ∀ (k : Nat), 2 ≤ k → ∀ (p_many : Int), Fk (callN fns wF k) 13 [.d (eI p_many)] ((S_least_one_lie p_many).map eI)
  | 0, hk, p_many => absurd hk (by omega)
  | k + 1, hk, p_many => by
    unfold S_least_one_lie
    refine Fk.of (e := eI) rfl rfl rfl ?_
    show W _ _ [.val (eI p_many), .un] _ _
    exact (W.asg (env1 := [.val (eI p_many), .val (eI (0 : Int))]) (X.int 0) rfl (W.whl (cn := (fun (s2 : Int) => (((S_is_enough_one p_many s2).bind fun v4 => some (!v4)) : Option Bool))) (g := (fun (s2 : Int) => (some (Lp.nx (s2 + (1 : Int))) : Option (Lp Int Empty)))) (qr := (fun r _ => nomatch r)) (kr := (fun r => nomatch r)) (enc := (fun (s2 : Int) => [.val (eI p_many), .val (eI s2)])) (s0 := (0 : Int)) (w := wF) rfl (fun s2 => (X.mbind fun v4 hv4 => (X.not (X.at (e := eB) (x := v4) (X.call (As.cons (d := (eI p_many)) (X.var (d := eI p_many) rfl) (As.cons (d := (eI s2)) (X.var (d := eI s2) rfl) As.nil)) (C_is_enough_one k (by omega) p_many s2)) hv4)))) (fun s2 => (W.augAdd (x := s2) (env1 := [.val (eI p_many), .val (eI (s2 + (1 : Int)))]) rfl (X.int 1) rfl (W.nil (x := (Lp.nx (s2 + (1 : Int)))) (qL_nx rfl)))) (fun r => nomatch r) fun s3 => (W.ret (x := s3) (X.var (d := eI s3) rfl) (fun rv h => qR_ret h))))
def S_bound_by_volume (p_state : (List Int)) : Option Int := ((whlO (fun (s2 : Int) => (((S_volume p_state s2).bind fun v4 => ((opZ .shl (1 : Int) s2).bind fun v5 => some (decide (v5 < v4)))) : Option Bool)) (fun (s2 : Int) => (some (Lp.nx (s2 + (1 : Int))) : Option (Lp Int Empty))) wF (0 : Int)).bind (lpK (fun (s3 : Int) => some s3) (fun r => nomatch r)))
theorem C_bound_by_volume : ∀ (k : Nat), 4 ≤ k → ∀ (p_state : (List Int)), Fk (callN fns wF k) 15 [.d ((eT eI) p_state)] ((S_bound_by_volume p_state).map eI)
  | 0, hk, p_state => absurd hk (by omega)
  | k + 1, hk, p_state => by
    unfold S_bound_by_volume
    refine Fk.of (e := eI) rfl rfl rfl ?_
    show W _ _ [.val ((eT eI) p_state), .un] _ _
    exact (W.asg (env1 := [.val ((eT eI) p_state), .val (eI (0 : Int))]) (X.int 0) rfl (W.whl (cn := (fun (s2 : Int) => (((S_volume p_state s2).bind fun v4 => ((opZ .shl (1 : Int) s2).bind fun v5 => some (decide (v5 < v4)))) : Option Bool))) (g := (fun (s2 : Int) => (some (Lp.nx (s2 + (1 : Int))) : Option (Lp Int Empty)))) (qr := (fun r _ => nomatch r)) (kr := (fun r => nomatch r)) (enc := (fun (s2 : Int) => [.val ((eT eI) p_state), .val (eI s2)])) (s0 := (0 : Int)) (w := wF) rfl (fun s2 => (X.mbind fun v4 hv4 => (X.mbind fun v5 hv5 => (X.gt (X.bo (X.at (e := eI) (x := v4) (X.call (As.cons (d := ((eT eI) p_state)) (X.var (d := (eT eI) p_state) rfl) (As.cons (d := (eI s2)) (X.var (d := eI s2) rfl) As.nil)) (C_volume k (by omega) p_state s2)) hv4)) (X.bo (X.at (e := eI) (x := v5) (X.opZ (X.bo (X.int 1)) (X.bo (X.var (d := eI s2) rfl))) hv5)))))) (fun s2 => (W.augAdd (x := s2) (env1 := [.val ((eT eI) p_state), .val (eI (s2 + (1 : Int)))]) rfl (X.int 1) rfl (W.nil (x := (Lp.nx (s2 + (1 : Int)))) (qL_nx rfl)))) (fun r => nomatch r) fun s3 => (W.ret (x := s3) (X.var (d := eI s3) rfl) (fun rv h => qR_ret h))))
def S_repeated (p_questions : Int) (p_lies : Int) : Option Int := ((opZ .mul (2 : Int) p_lies).bind fun v1 => ((opZ .mul p_questions (v1 + (1 : Int))).bind fun v2 => some v2))
theorem C_repeated : ∀ (k : Nat), 1 ≤ k → ∀ (p_questions : Int) (p_lies : Int), Fk (callN fns wF k) 16 [.d (eI p_questions), .d (eI p_lies)] ((S_repeated p_questions p_lies).map eI)
  | 0, hk, p_questions, p_lies => absurd hk (by omega)
  | k + 1, hk, p_questions, p_lies => by
    unfold S_repeated
    refine Fk.of (e := eI) rfl rfl rfl ?_
    show W _ _ [.val (eI p_questions), .val (eI p_lies)] _ _
    exact (W.bind fun v1 hv1 => (W.bind fun v2 hv2 => (W.ret (x := v2) (X.at (e := eI) (x := v2) (X.opZ (X.bo (X.var (d := eI p_questions) rfl)) (X.bo (X.add (X.bo (X.at (e := eI) (x := v1) (X.opZ (X.bo (X.int 2)) (X.bo (X.var (d := eI p_lies) rfl))) hv1)) (X.bo (X.int 1))))) hv2) (fun rv h => qR_ret h))))
def S_lies_told (p_state : (List Int)) (p_answers : (List Int)) (p_asked_rows : (List (List Int))) : Option (List Int) := ((foldO (fun (x1 : (Int × (List Int))) (s2 : (List Int)) => ((if decide (x1.1 = (1 : Int)) = true then S_behind_yes s2 x1.2 else S_behind_no s2 x1.2).bind fun v8 => some v8)) (List.zip p_answers p_asked_rows) p_state).bind fun (s3 : (List Int)) => some s3)
theorem C_lies_told : ∀ (k : Nat), 3 ≤ k → ∀ (p_state : (List Int)) (p_answers : (List Int)) (p_asked_rows : (List (List Int))), Fk (callN fns wF k) 17 [.d ((eT eI) p_state), .d ((eL eI) p_answers), .d ((eL (eT eI)) p_asked_rows)] ((S_lies_told p_state p_answers p_asked_rows).map (eT eI))
  | 0, hk, p_state, p_answers, p_asked_rows => absurd hk (by omega)
  | k + 1, hk, p_state, p_answers, p_asked_rows => by
    unfold S_lies_told
    refine Fk.of (e := (eT eI)) rfl rfl rfl ?_
    show W _ _ [.val ((eT eI) p_state), .val ((eL eI) p_answers), .val ((eL (eT eI)) p_asked_rows), .un, .un] _ _
    exact (W.fold (g := fun (x1 : (Int × (List Int))) (s2 : (List Int)) => ((if decide (x1.1 = (1 : Int)) = true then S_behind_yes s2 x1.2 else S_behind_no s2 x1.2).bind fun v8 => some v8)) (e := (eP eI (eT eI))) (enc := (fun (s2 : (List Int)) => [.val ((eT eI) s2), .val ((eL eI) p_answers), .val ((eL (eT eI)) p_asked_rows), .un, .un])) (xs := (List.zip p_answers p_asked_rows)) (s0 := p_state) (env1 := fun (x1 : (Int × (List Int))) (s2 : (List Int)) => [.val ((eT eI) s2), .val ((eL eI) p_answers), .val ((eL (eT eI)) p_asked_rows), .val (eI x1.1), .val ((eT eI) x1.2)]) (XI.zipLZ (e := eI) (f := (eT eI)) (X.var (d := (eL eI) p_answers) rfl) (X.var (d := (eL (eT eI)) p_asked_rows) rfl)) (fun _ _ => rfl) (fun x1 s2 => (W.bind fun v8 hv8 => (W.asg (env1 := [.val ((eT eI) v8), .val ((eL eI) p_answers), .val ((eL (eT eI)) p_asked_rows), .val (eI x1.1), .val ((eT eI) x1.2)]) (X.at (e := (eT eI)) (x := v8) (X.iteO (e := (eT eI)) (X.eq (e := eI) eqv_int (by decide) (X.bo (X.var (d := eI x1.1) rfl)) (X.bo (X.int 1))) (fun _ => (X.call (As.cons (d := ((eT eI) s2)) (X.var (d := (eT eI) s2) rfl) (As.cons (d := ((eT eI) x1.2)) (X.var (d := (eT eI) x1.2) rfl) As.nil)) (C_behind_yes k (by omega) s2 x1.2))) (fun _ => (X.call (As.cons (d := ((eT eI) s2)) (X.var (d := (eT eI) s2) rfl) (As.cons (d := ((eT eI) x1.2)) (X.var (d := (eT eI) x1.2) rfl) As.nil)) (C_behind_no k (by omega) s2 x1.2)))) hv8) rfl (W.fgt (env1 := [.val ((eT eI) v8), .val ((eL eI) p_answers), .val ((eL (eT eI)) p_asked_rows), .un, .val ((eT eI) x1.2)]) rfl (W.fgt (env1 := [.val ((eT eI) v8), .val ((eL eI) p_answers), .val ((eL (eT eI)) p_asked_rows), .un, .un]) rfl (W.nil (x := v8) (qN_nx rfl))))))) fun s3 => (W.ret (x := s3) (X.var (d := (eT eI) s3) rfl) (fun rv h => qR_ret h)))
def S__law_same : Nat → D → D → Option Bool
  | 0, _, _ => none
  | n + 1, p_told, p_due => if p_due.isNon = true then some p_told.isNon else ((isiO .bool (.d p_due)).bind fun v1 => if v1 = true then ((isiO .bool (.d p_told)).bind fun v2 => ((andO (some v2) (eqD p_told p_due)).bind fun v4 => some v4)) else ((isiO .int (.d p_due)).bind fun v5 => if v5 = true then ((isiO .int (.d p_told)).bind fun v6 => ((andO (some v6) (andO (((isiO .bool (.d p_told)).bind fun v7 => some (!v7))) (eqD p_told p_due))).bind fun v9 => some v9)) else ((isiO .str (.d p_due)).bind fun v10 => if v10 = true then ((isiO .str (.d p_told)).bind fun v11 => ((andO (some v11) (eqD p_told p_due)).bind fun v13 => some v13)) else ((isiO .lst (.d p_due)).bind fun v14 => ((andO (some v14) (((isiO .lst (.d p_told)).bind fun v15 => some (!v15)))).bind fun v16 => ((orO (some v16) (((isiO .tup (.d p_due)).bind fun v17 => andO (some v17) (((isiO .tup (.d p_told)).bind fun v18 => some (!v18)))))).bind fun v20 => if v20 = true then some false else ((lenD p_told).bind fun v21 => ((lenD p_due).bind fun v22 => ((andO (some (decide (v21 = v22))) (((lenD p_due).bind fun v23 => ((rngG 0 v23).bind fun v24 => ((lenZ (lcM (fun (x25 : Int) => oneO (((idxD p_told x25).bind fun v26 => ((idxD p_due x25).bind fun v27 => ((S__law_same n v26 v27).bind fun v28 => some (!v28))))) (some (1 : Int))) v24)).bind fun v29 => some (decide (v29 = ([] : List Int)))))))).bind fun v30 => some v30)))))))))
theorem C__law_same : ∀ (n k : Nat), 1 + n ≤ k → ∀ (p_told : D) (p_due : D), Fk (callN fns wF k) 20 [.d p_told, .d p_due] ((S__law_same n p_told p_due).map eB)
  | 0, k, hk, p_told, p_due => fun _ _ h => nomatch h
  | n + 1, 0, hk, p_told, p_due => absurd hk (by omega)
  | n + 1, k + 1, hk, p_told, p_due => by
    have ih := C__law_same n
    unfold S__law_same
    refine Fk.of (e := eB) rfl rfl rfl ?_
    show W _ _ [.val p_told, .val p_due, .un] _ _
    exact (W.ite (X.isND (XD.var rfl)) (fun _ => (W.ret (x := p_told.isNon) (X.isND (XD.var rfl)) (fun rv h => qR_ret h))) (fun _ => (W.bind fun v1 hv1 => (W.ite (X.at (e := eB) (x := v1) (X.isi (X.bo (X.var (d := p_due) rfl))) hv1) (fun _ => (W.bind fun v2 hv2 => (W.bind fun v4 hv4 => (W.ret (x := v4) (X.at (e := eB) (x := v4) (X.and (XA.cons (u := some v2) rfl (X.at (e := eB) (x := v2) (X.isi (X.bo (X.var (d := p_told) rfl))) hv2) (XA.one (u := eqD p_told p_due) (X.eqD (X.bo (X.var (d := p_told) rfl)) (X.bo (X.var (d := p_due) rfl)))))) hv4) (fun rv h => qR_ret h))))) (fun _ => (W.bind fun v5 hv5 => (W.ite (X.at (e := eB) (x := v5) (X.isi (X.bo (X.var (d := p_due) rfl))) hv5) (fun _ => (W.bind fun v6 hv6 => (W.bind fun v9 hv9 => (W.ret (x := v9) (X.at (e := eB) (x := v9) (X.and (XA.cons (u := some v6) rfl (X.at (e := eB) (x := v6) (X.isi (X.bo (X.var (d := p_told) rfl))) hv6) (XA.cons (u := ((isiO .bool (.d p_told)).bind fun v7 => some (!v7))) rfl (X.mbind fun v7 hv7 => (X.not (X.at (e := eB) (x := v7) (X.isi (X.bo (X.var (d := p_told) rfl))) hv7))) (XA.one (u := eqD p_told p_due) (X.eqD (X.bo (X.var (d := p_told) rfl)) (X.bo (X.var (d := p_due) rfl))))))) hv9) (fun rv h => qR_ret h))))) (fun _ => (W.bind fun v10 hv10 => (W.ite (X.at (e := eB) (x := v10) (X.isi (X.bo (X.var (d := p_due) rfl))) hv10) (fun _ => (W.bind fun v11 hv11 => (W.bind fun v13 hv13 => (W.ret (x := v13) (X.at (e := eB) (x := v13) (X.and (XA.cons (u := some v11) rfl (X.at (e := eB) (x := v11) (X.isi (X.bo (X.var (d := p_told) rfl))) hv11) (XA.one (u := eqD p_told p_due) (X.eqD (X.bo (X.var (d := p_told) rfl)) (X.bo (X.var (d := p_due) rfl)))))) hv13) (fun rv h => qR_ret h))))) (fun _ => (W.bind fun v14 hv14 => (W.bind fun v16 hv16 => (W.bind fun v20 hv20 => (W.ite (X.at (e := eB) (x := v20) (X.or (XO.cons (u := some v16) rfl (X.at (e := eB) (x := v16) (X.and (XA.cons (u := some v14) rfl (X.at (e := eB) (x := v14) (X.isi (X.bo (X.var (d := p_due) rfl))) hv14) (XA.one (u := ((isiO .lst (.d p_told)).bind fun v15 => some (!v15))) (X.mbind fun v15 hv15 => (X.not (X.at (e := eB) (x := v15) (X.isi (X.bo (X.var (d := p_told) rfl))) hv15)))))) hv16) (XO.one (u := ((isiO .tup (.d p_due)).bind fun v17 => andO (some v17) (((isiO .tup (.d p_told)).bind fun v18 => some (!v18))))) (X.mbind fun v17 hv17 => (X.and (XA.cons (u := some v17) rfl (X.at (e := eB) (x := v17) (X.isi (X.bo (X.var (d := p_due) rfl))) hv17) (XA.one (u := ((isiO .tup (.d p_told)).bind fun v18 => some (!v18))) (X.mbind fun v18 hv18 => (X.not (X.at (e := eB) (x := v18) (X.isi (X.bo (X.var (d := p_told) rfl))) hv18)))))))))) hv20) (fun _ => (W.ret (x := false) (X.bl false) (fun rv h => qR_ret h))) (fun _ => (W.bind fun v21 hv21 => (W.bind fun v22 hv22 => (W.bind fun v30 hv30 => (W.ret (x := v30) (X.at (e := eB) (x := v30) (X.and (XA.cons (u := some (decide (v21 = v22))) rfl (X.eq (e := eI) eqv_int (by decide) (X.bo (X.at (e := eI) (x := v21) (X.lenD (X.bo (X.var (d := p_told) rfl))) hv21)) (X.bo (X.at (e := eI) (x := v22) (X.lenD (X.bo (X.var (d := p_due) rfl))) hv22))) (XA.one (u := ((lenD p_due).bind fun v23 => ((rngG 0 v23).bind fun v24 => ((lenZ (lcM (fun (x25 : Int) => oneO (((idxD p_told x25).bind fun v26 => ((idxD p_due x25).bind fun v27 => ((S__law_same n v26 v27).bind fun v28 => some (!v28))))) (some (1 : Int))) v24)).bind fun v29 => some (decide (v29 = ([] : List Int))))))) (X.mbind fun v23 hv23 => (X.mbind fun v24 hv24 => (X.mbind fun v29 hv29 => (X.eq (e := (eL eI)) (eqv_lst eqv_int) (by decide) (X.bo (XF.x1 (e := eI) (xs := v29) (XF.at (XF.lcO (u := fun (x25 : Int) => ((idxD p_told x25).bind fun v26 => ((idxD p_due x25).bind fun v27 => ((S__law_same n v26 v27).bind fun v28 => some (!v28))))) (g := fun (x25 : Int) => some (1 : Int)) (e := eI) (f := eI) (xs := v24) (env1 := (fun (x25 : Int) => [.val p_told, .val p_due, .val (eI x25)])) (XI.rngG1 hv24 (X.at (e := eI) (x := v23) (X.lenD (X.bo (X.var (d := p_due) rfl))) hv23)) (fun _ => rfl) (fun x25 => (XC.x (X.mbind fun v26 hv26 => (X.mbind fun v27 hv27 => (X.mbind fun v28 hv28 => (X.not (X.at (e := eB) (x := v28) (X.call (As.cons (d := v26) (X.idxD (X.bo (X.var (d := p_told) rfl)) (X.var (d := eI x25) rfl) hv26) (As.cons (d := v27) (X.idxD (X.bo (X.var (d := p_due) rfl)) (X.var (d := eI x25) rfl) hv27) As.nil)) (ih k (by omega) v26 v27)) hv28))))))) fun x25 _ => (X.int 1)) hv29))) (X.bo (XF.x1 (e := eI) (xs := ([] : List Int)) (XL.lst (XL.nil (e := eI)))))))))))) hv30) (fun rv h => qR_ret h)))))))))))))))))))))
def S__law_state (p_cases : (List (Int × Int))) (p_lies : Int) : Option (List Int) := ((rngG 0 (p_lies + (1 : Int))).bind fun v1 => ((lenZ (lcM (fun (x2 : Int) => oneO (some true) (((filtZ (fun (x3 : (Int × Int)) => decide (x3.2 = x2)) (fun (x3 : (Int × Int)) => x3) p_cases).bind fun v4 => some (v4.length : Int)))) v1)).bind fun v5 => some v5))
theorem C__law_state : ∀ (k : Nat), 1 ≤ k → ∀ (p_cases : (List (Int × Int))) (p_lies : Int), Fk (callN fns wF k) 21 [.d ((eL (eP eI eI)) p_cases), .d (eI p_lies)] ((S__law_state p_cases p_lies).map (eT eI))
  | 0, hk, p_cases, p_lies => absurd hk (by omega)
  | k + 1, hk, p_cases, p_lies => by
    unfold S__law_state
    refine Fk.of (e := (eT eI)) rfl rfl rfl ?_
    show W _ _ [.val ((eL (eP eI eI)) p_cases), .val (eI p_lies), .un, .un] _ _
    exact (W.bind fun v1 hv1 => (W.bind fun v5 hv5 => (W.ret (x := v5) (X.tuple (e := eI) (xs := v5) (sqL (e := eI) (xs := v5)) (X.bo (XF.x1 (e := eI) (xs := v5) (XF.at (XF.lcO (u := fun (x2 : Int) => some true) (g := fun (x2 : Int) => ((filtZ (fun (x3 : (Int × Int)) => decide (x3.2 = x2)) (fun (x3 : (Int × Int)) => x3) p_cases).bind fun v4 => some (v4.length : Int))) (e := eI) (f := eI) (xs := v1) (env1 := (fun (x2 : Int) => [.val ((eL (eP eI eI)) p_cases), .val (eI p_lies), .val (eI x2), .un])) (XI.rngG1 hv1 (X.add (X.bo (X.var (d := eI p_lies) rfl)) (X.bo (X.int 1)))) (fun _ => rfl) (fun x2 => XC.no) fun x2 _ => (X.mbind fun v4 hv4 => (X.len (e := (eP eI eI)) (xs := v4) (sqL (e := (eP eI eI)) (xs := v4)) (X.bo (XF.x1 (e := (eP eI eI)) (xs := v4) (XF.at (XF.filt (c := fun (x3 : (Int × Int)) => decide (x3.2 = x2)) (g := fun (x3 : (Int × Int)) => x3) (e := (eP eI eI)) (f := (eP eI eI)) (xs := p_cases) (env1 := (fun (x3 : (Int × Int)) => [.val ((eL (eP eI eI)) p_cases), .val (eI p_lies), .val (eI x2), .val ((eP eI eI) x3)])) (XI.seq (sqL (e := (eP eI eI)) (xs := p_cases)) (X.bo (X.var (d := (eL (eP eI eI)) p_cases) rfl))) (fun _ => rfl) (fun x3 => (X.eq (e := eI) eqv_int (by decide) (X.bo (X.p1 (e := eI) (f := eI) (p := x3) (X.bo (X.var (d := (eP eI eI) x3) rfl)))) (X.bo (X.var (d := eI x2) rfl)))) fun x3 => (X.var (d := (eP eI eI) x3) rfl)) hv4)))))) hv5)))) (fun rv h => qR_ret h))))
def S__law_after (p_cases : (List (Int × Int))) (p_some : (List Int)) (p_answer : Int) (p_lies : Int) : Option (List (Int × Int)) := ((foldO (fun (x1 : (Int × Int)) (s2 : (List (Int × Int))) => (if decide ((x1.2 + (if (decide (decide (x1.1 ∈ p_some) ≠ decide (p_answer = (1 : Int)))) = true then 1 else 0)) ≤ p_lies) = true then ((snocZ s2 (x1.1, (x1.2 + (if (decide (decide (x1.1 ∈ p_some) ≠ decide (p_answer = (1 : Int)))) = true then 1 else 0)))).bind fun l4 => some l4) else some s2).bind fun (s5 : (List (Int × Int))) => some s5) p_cases ([] : List (Int × Int))).bind fun (s3 : (List (Int × Int))) => some s3)
theorem C__law_after : ∀ (k : Nat), 1 ≤ k → ∀ (p_cases : (List (Int × Int))) (p_some : (List Int)) (p_answer : Int) (p_lies : Int), Fk (callN fns wF k) 22 [.d ((eL (eP eI eI)) p_cases), .d ((eL eI) p_some), .d (eI p_answer), .d (eI p_lies)] ((S__law_after p_cases p_some p_answer p_lies).map (eL (eP eI eI)))
  | 0, hk, p_cases, p_some, p_answer, p_lies => absurd hk (by omega)
  | k + 1, hk, p_cases, p_some, p_answer, p_lies => by
    unfold S__law_after
    refine Fk.of (e := (eL (eP eI eI))) rfl rfl rfl ?_
    show W _ _ [.val ((eL (eP eI eI)) p_cases), .val ((eL eI) p_some), .val (eI p_answer), .val (eI p_lies), .un, .un, .un, .un] _ _
    exact (W.asgO (env1 := [.val ((eL (eP eI eI)) p_cases), .val ((eL eI) p_some), .val (eI p_answer), .val (eI p_lies), .own (.lst (([] : List (Int × Int)).map (eP eI eI))), .un, .un, .un]) (XL.lst (XL.nil (e := (eP eI eI)))) rfl (W.fold (g := fun (x1 : (Int × Int)) (s2 : (List (Int × Int))) => (if decide ((x1.2 + (if (decide (decide (x1.1 ∈ p_some) ≠ decide (p_answer = (1 : Int)))) = true then 1 else 0)) ≤ p_lies) = true then ((snocZ s2 (x1.1, (x1.2 + (if (decide (decide (x1.1 ∈ p_some) ≠ decide (p_answer = (1 : Int)))) = true then 1 else 0)))).bind fun l4 => some l4) else some s2).bind fun (s5 : (List (Int × Int))) => some s5) (e := (eP eI eI)) (enc := (fun (s2 : (List (Int × Int))) => [.val ((eL (eP eI eI)) p_cases), .val ((eL eI) p_some), .val (eI p_answer), .val (eI p_lies), .own (.lst (s2.map (eP eI eI))), .un, .un, .un])) (xs := p_cases) (s0 := ([] : List (Int × Int))) (env1 := fun (x1 : (Int × Int)) (s2 : (List (Int × Int))) => [.val ((eL (eP eI eI)) p_cases), .val ((eL eI) p_some), .val (eI p_answer), .val (eI p_lies), .own (.lst (s2.map (eP eI eI))), .val (eI x1.1), .val (eI x1.2), .un]) (XI.seqZ (sqL (e := (eP eI eI)) (xs := p_cases)) (X.var (d := (eL (eP eI eI)) p_cases) rfl)) (fun _ _ => rfl) (fun x1 s2 => (W.asg (env1 := [.val ((eL (eP eI eI)) p_cases), .val ((eL eI) p_some), .val (eI p_answer), .val (eI p_lies), .own (.lst (s2.map (eP eI eI))), .val (eI x1.1), .val (eI x1.2), .val (eI (x1.2 + (if (decide (decide (x1.1 ∈ p_some) ≠ decide (p_answer = (1 : Int)))) = true then 1 else 0)))]) (X.add (X.bo (X.var (d := eI x1.2) rfl)) (X.bo (X.intB (X.bo (X.ne (e := eB) eqv_bool (by decide) (X.bo (X.isin (e := eI) eqv_int (by decide) (sqL (e := eI) (xs := p_some)) (fun _ k => k.i) (X.bo (X.var (d := eI x1.1) rfl)) (X.bo (X.var (d := (eL eI) p_some) rfl)))) (X.bo (X.eq (e := eI) eqv_int (by decide) (X.bo (X.var (d := eI p_answer) rfl)) (X.bo (X.int 1))))))))) rfl (W.join (enc := (fun (s5 : (List (Int × Int))) => [.val ((eL (eP eI eI)) p_cases), .val ((eL eI) p_some), .val (eI p_answer), .val (eI p_lies), .own (.lst (s5.map (eP eI eI))), .val (eI x1.1), .val (eI x1.2), .val (eI (x1.2 + (if (decide (decide (x1.1 ∈ p_some) ≠ decide (p_answer = (1 : Int)))) = true then 1 else 0)))])) (X.le (X.bo (X.var (d := eI (x1.2 + (if (decide (decide (x1.1 ∈ p_some) ≠ decide (p_answer = (1 : Int)))) = true then 1 else 0))) rfl)) (X.bo (X.var (d := eI p_lies) rfl))) (fun _ => (W.app (e := (eP eI eI)) (xs := s2) (x := (x1.1, (x1.2 + (if (decide (decide (x1.1 ∈ p_some) ≠ decide (p_answer = (1 : Int)))) = true then 1 else 0)))) (env1 := fun l4 => [.val ((eL (eP eI eI)) p_cases), .val ((eL eI) p_some), .val (eI p_answer), .val (eI p_lies), .own (.lst (l4.map (eP eI eI))), .val (eI x1.1), .val (eI x1.2), .val (eI (x1.2 + (if (decide (decide (x1.1 ∈ p_some) ≠ decide (p_answer = (1 : Int)))) = true then 1 else 0)))]) rfl (X.tup (Xs.cons (d := (eI x1.1)) (X.var (d := eI x1.1) rfl) (Xs.cons (d := (eI (x1.2 + (if (decide (decide (x1.1 ∈ p_some) ≠ decide (p_answer = (1 : Int)))) = true then 1 else 0)))) (X.var (d := eI (x1.2 + (if (decide (decide (x1.1 ∈ p_some) ≠ decide (p_answer = (1 : Int)))) = true then 1 else 0))) rfl) Xs.nil))) (fun _ => rfl) fun l4 hl4 => (W.nil (x := l4) (qN_nx rfl)))) (fun _ => (W.nil (x := s2) (qN_nx rfl))) fun s5 => (W.fgt (env1 := [.val ((eL (eP eI eI)) p_cases), .val ((eL eI) p_some), .val (eI p_answer), .val (eI p_lies), .own (.lst (s5.map (eP eI eI))), .un, .val (eI x1.2), .val (eI (x1.2 + (if (decide (decide (x1.1 ∈ p_some) ≠ decide (p_answer = (1 : Int)))) = true then 1 else 0)))]) rfl (W.fgt (env1 := [.val ((eL (eP eI eI)) p_cases), .val ((eL eI) p_some), .val (eI p_answer), .val (eI p_lies), .own (.lst (s5.map (eP eI eI))), .un, .un, .val (eI (x1.2 + (if (decide (decide (x1.1 ∈ p_some) ≠ decide (p_answer = (1 : Int)))) = true then 1 else 0)))]) rfl (W.fgt (env1 := [.val ((eL (eP eI eI)) p_cases), .val ((eL eI) p_some), .val (eI p_answer), .val (eI p_lies), .own (.lst (s5.map (eP eI eI))), .un, .un, .un]) rfl (W.nil (x := s5) (qN_nx rfl)))))))) fun s3 => (W.frz (ds := s3.map (eP eI eI)) (env1 := [.val ((eL (eP eI eI)) p_cases), .val ((eL eI) p_some), .val (eI p_answer), .val (eI p_lies), .val ((eL (eP eI eI)) s3), .un, .un, .un]) rfl rfl (W.ret (x := s3) (X.var (d := (eL (eP eI eI)) s3) rfl) (fun rv h => qR_ret h)))))
def S__law_can : Nat → (List Int) → Int → Option Bool
  | 0, _, _ => none
  | n + 1, p_state, p_many => if decide (p_state.sum < (2 : Int)) = true then some true else if decide (p_many = (0 : Int)) = true then some false else ((foldO (fun (x1 : Int) (s2 : (List (List Int))) => ((foldO (fun (x12 : (List Int)) (s13 : (List (List Int))) => ((rngG 0 (x1 + (1 : Int))).bind fun v15 => ((lenZ (lcM (fun (x16 : Int) => oneO (some true) (catZ x12 ([x16] : List Int))) v15)).bind fun v18 => ((catZ s13 v18).bind fun v19 => some v19)))) s2 ([] : List (List Int))).bind fun (s14 : (List (List Int))) => some s14)) p_state ([([] : List Int)] : List (List Int))).bind fun (s3 : (List (List Int))) => ((forO (fun (x4 : (List Int)) (s5 : Unit) => (((S_behind_yes p_state x4).bind fun v7 => ((S__law_can n v7 (p_many - (1 : Int))).bind fun v8 => ((andO (some v8) (((S_behind_no p_state x4).bind fun v9 => S__law_can n v9 (p_many - (1 : Int))))).bind fun v11 => some (if v11 = true then (Lp.ret true) else (Lp.nx ()))))) : Option (Lp Unit Bool))) s3 ()).bind (lpK (fun (s6 : Unit) => some false) (fun r => r))))
theorem C__law_can : ∀ (n k : Nat), 3 + n ≤ k → ∀ (p_state : (List Int)) (p_many : Int), Fk (callN fns wF k) 23 [.d ((eT eI) p_state), .d (eI p_many)] ((S__law_can n p_state p_many).map eB)
  | 0, k, hk, p_state, p_many => fun _ _ h => nomatch h
  | n + 1, 0, hk, p_state, p_many => absurd hk (by omega)
  | n + 1, k + 1, hk, p_state, p_many => by
    have ih := C__law_can n
    unfold S__law_can
    refine Fk.of (e := eB) rfl rfl rfl ?_
    show W _ _ [.val ((eT eI) p_state), .val (eI p_many), .un, .un, .un, .un, .un] _ _
    exact (W.ite (X.lt (X.bo (X.sumT (X.bo (X.var (d := (eT eI) p_state) rfl)))) (X.bo (X.int 2))) (fun _ => (W.ret (x := true) (X.bl true) (fun rv h => qR_ret h))) (fun _ => (W.ite (X.eq (e := eI) eqv_int (by decide) (X.bo (X.var (d := eI p_many) rfl)) (X.bo (X.int 0))) (fun _ => (W.ret (x := false) (X.bl false) (fun rv h => qR_ret h))) (fun _ => (W.asg (env1 := [.val ((eT eI) p_state), .val (eI p_many), .val ((eL (eT eI)) ([([] : List Int)] : List (List Int))), .un, .un, .un, .un]) (XF.x1 (e := (eT eI)) (xs := ([([] : List Int)] : List (List Int))) (XL.lst (XL.cons (e := (eT eI)) (x := ([] : List Int)) (XL.tup (XL.nil (e := eI))) (XL.nil (e := (eT eI)))))) rfl (W.fold (g := fun (x1 : Int) (s2 : (List (List Int))) => ((foldO (fun (x12 : (List Int)) (s13 : (List (List Int))) => ((rngG 0 (x1 + (1 : Int))).bind fun v15 => ((lenZ (lcM (fun (x16 : Int) => oneO (some true) (catZ x12 ([x16] : List Int))) v15)).bind fun v18 => ((catZ s13 v18).bind fun v19 => some v19)))) s2 ([] : List (List Int))).bind fun (s14 : (List (List Int))) => some s14)) (e := eI) (enc := (fun (s2 : (List (List Int))) => [.val ((eT eI) p_state), .val (eI p_many), .val ((eL (eT eI)) s2), .un, .un, .un, .un])) (xs := p_state) (s0 := ([([] : List Int)] : List (List Int))) (env1 := fun (x1 : Int) (s2 : (List (List Int))) => [.val ((eT eI) p_state), .val (eI p_many), .val ((eL (eT eI)) s2), .val (eI x1), .un, .un, .un]) (XI.seqZ (sqT (e := eI) (xs := p_state)) (X.var (d := (eT eI) p_state) rfl)) (fun _ _ => rfl) (fun x1 s2 => (W.asg (env1 := [.val ((eT eI) p_state), .val (eI p_many), .val ((eL (eT eI)) s2), .val (eI x1), .un, .val ((eL (eT eI)) ([] : List (List Int))), .un]) (XF.x1 (e := (eT eI)) (xs := ([] : List (List Int))) (XL.lst (XL.nil (e := (eT eI))))) rfl (W.fold (g := fun (x12 : (List Int)) (s13 : (List (List Int))) => ((rngG 0 (x1 + (1 : Int))).bind fun v15 => ((lenZ (lcM (fun (x16 : Int) => oneO (some true) (catZ x12 ([x16] : List Int))) v15)).bind fun v18 => ((catZ s13 v18).bind fun v19 => some v19)))) (e := (eT eI)) (enc := (fun (s13 : (List (List Int))) => [.val ((eT eI) p_state), .val (eI p_many), .val ((eL (eT eI)) s2), .val (eI x1), .un, .val ((eL (eT eI)) s13), .un])) (xs := s2) (s0 := ([] : List (List Int))) (env1 := fun (x12 : (List Int)) (s13 : (List (List Int))) => [.val ((eT eI) p_state), .val (eI p_many), .val ((eL (eT eI)) s2), .val (eI x1), .val ((eT eI) x12), .val ((eL (eT eI)) s13), .un]) (XI.seqZ (sqL (e := (eT eI)) (xs := s2)) (X.var (d := (eL (eT eI)) s2) rfl)) (fun _ _ => rfl) (fun x12 s13 => (W.bind fun v15 hv15 => (W.bind fun v18 hv18 => (W.bind fun v19 hv19 => (W.asg (env1 := [.val ((eT eI) p_state), .val (eI p_many), .val ((eL (eT eI)) s2), .val (eI x1), .val ((eT eI) x12), .val ((eL (eT eI)) v19), .un]) (XF.x1 (e := (eT eI)) (xs := v19) (XF.at (XF.cat (e := (eT eI)) (X.bo (X.var (d := (eL (eT eI)) s13) rfl)) (X.bo (XF.x1 (e := (eT eI)) (xs := v18) (XF.at (XF.lcO (u := fun (x16 : Int) => some true) (g := fun (x16 : Int) => catZ x12 ([x16] : List Int)) (e := eI) (f := (eT eI)) (xs := v15) (env1 := (fun (x16 : Int) => [.val ((eT eI) p_state), .val (eI p_many), .val ((eL (eT eI)) s2), .val (eI x1), .val ((eT eI) x12), .val ((eL (eT eI)) s13), .val (eI x16)])) (XI.rngG1 hv15 (X.add (X.bo (X.var (d := eI x1) rfl)) (X.bo (X.int 1)))) (fun _ => rfl) (fun x16 => XC.no) fun x16 _ => (X.catT (e := eI) (X.bo (X.var (d := (eT eI) x12) rfl)) (X.bo (XL.tup (XL.cons (e := eI) (x := x16) (X.var (d := eI x16) rfl) (XL.nil (e := eI))))))) hv18)))) hv19)) rfl (W.fgt (env1 := [.val ((eT eI) p_state), .val (eI p_many), .val ((eL (eT eI)) s2), .val (eI x1), .un, .val ((eL (eT eI)) v19), .un]) rfl (W.nil (x := v19) (qN_nx rfl)))))))) fun s14 => (W.asg (env1 := [.val ((eT eI) p_state), .val (eI p_many), .val ((eL (eT eI)) s14), .val (eI x1), .un, .val ((eL (eT eI)) s14), .un]) (X.var (d := (eL (eT eI)) s14) rfl) rfl (W.fgt (env1 := [.val ((eT eI) p_state), .val (eI p_many), .val ((eL (eT eI)) s14), .un, .un, .val ((eL (eT eI)) s14), .un]) rfl (W.fgt (env1 := [.val ((eT eI) p_state), .val (eI p_many), .val ((eL (eT eI)) s14), .un, .un, .un, .un]) rfl (W.nil (x := s14) (qN_nx rfl)))))))) fun s3 => (W.for (g := (fun (x4 : (List Int)) (s5 : Unit) => (((S_behind_yes p_state x4).bind fun v7 => ((S__law_can n v7 (p_many - (1 : Int))).bind fun v8 => ((andO (some v8) (((S_behind_no p_state x4).bind fun v9 => S__law_can n v9 (p_many - (1 : Int))))).bind fun v11 => some (if v11 = true then (Lp.ret true) else (Lp.nx ()))))) : Option (Lp Unit Bool)))) (qr := (qR eB)) (kr := (fun r => r)) (e := (eT eI)) (enc := (fun (s5 : Unit) => [.val ((eT eI) p_state), .val (eI p_many), .val ((eL (eT eI)) s3), .un, .un, .un, .un])) (xs := s3) (s0 := ()) (env1 := fun (x4 : (List Int)) (s5 : Unit) => [.val ((eT eI) p_state), .val (eI p_many), .val ((eL (eT eI)) s3), .un, .val ((eT eI) x4), .un, .un]) (XI.seqZ (sqL (e := (eT eI)) (xs := s3)) (X.var (d := (eL (eT eI)) s3) rfl)) (fun _ _ => rfl) (fun x4 s5 => (W.bind fun v7 hv7 => (W.bind fun v8 hv8 => (W.bind fun v11 hv11 => (W.iteT (X.at (e := eB) (x := v11) (X.and (XA.cons (u := some v8) rfl (X.at (e := eB) (x := v8) (X.call (As.cons (d := ((eT eI) v7)) (X.at (e := (eT eI)) (x := v7) (X.call (As.cons (d := ((eT eI) p_state)) (X.var (d := (eT eI) p_state) rfl) (As.cons (d := ((eT eI) x4)) (X.var (d := (eT eI) x4) rfl) As.nil)) (C_behind_yes k (by omega) p_state x4)) hv7) (As.cons (d := (eI (p_many - (1 : Int)))) (X.sub (X.bo (X.var (d := eI p_many) rfl)) (X.bo (X.int 1))) As.nil)) (ih k (by omega) v7 (p_many - (1 : Int)))) hv8) (XA.one (u := ((S_behind_no p_state x4).bind fun v9 => S__law_can n v9 (p_many - (1 : Int)))) (X.mbind fun v9 hv9 => (X.call (As.cons (d := ((eT eI) v9)) (X.at (e := (eT eI)) (x := v9) (X.call (As.cons (d := ((eT eI) p_state)) (X.var (d := (eT eI) p_state) rfl) (As.cons (d := ((eT eI) x4)) (X.var (d := (eT eI) x4) rfl) As.nil)) (C_behind_no k (by omega) p_state x4)) hv9) (As.cons (d := (eI (p_many - (1 : Int)))) (X.sub (X.bo (X.var (d := eI p_many) rfl)) (X.bo (X.int 1))) As.nil)) (ih k (by omega) v9 (p_many - (1 : Int)))))))) hv11) (fun _ => (W.ret (x := (Lp.ret true)) (X.bl true) (fun rv h => qL_ret (qR_ret h)))) (fun _ => (W.fgt (env1 := [.val ((eT eI) p_state), .val (eI p_many), .val ((eL (eT eI)) s3), .un, .un, .un, .un]) rfl (W.nil (x := (Lp.nx ())) (qL_nx rfl))))))))) (fun _ _ h => h) fun s6 => (W.ret (x := false) (X.bl false) (fun rv h => qR_ret h)))))))))
def S__law_ways (p_many : Int) (p_lies : Int) : Option Int := ((rngG 0 (p_lies + (1 : Int))).bind fun v1 => ((foldO (fun (x2 : Int) (s3 : Int) => ((rngG 0 x2).bind fun v5 => ((foldO (fun (x6 : Int) (s7 : Int) => ((opZ .mul s7 (p_many - x6)).bind fun v9 => ((opZ .fdiv v9 (x6 + (1 : Int))).bind fun v10 => some v10))) v5 (1 : Int)).bind fun (s8 : Int) => some (s3 + s8)))) v1 (0 : Int)).bind fun (s4 : Int) => some s4))
theorem C__law_ways : ∀ (k : Nat), 1 ≤ k → ∀ (p_many : Int) (p_lies : Int), Fk (callN fns wF k) 24 [.d (eI p_many), .d (eI p_lies)] ((S__law_ways p_many p_lies).map eI)
  | 0, hk, p_many, p_lies => absurd hk (by omega)
  | k + 1, hk, p_many, p_lies => by
    unfold S__law_ways
    refine Fk.of (e := eI) rfl rfl rfl ?_
    show W _ _ [.val (eI p_many), .val (eI p_lies), .un, .un, .un, .un] _ _
    exact (W.asg (env1 := [.val (eI p_many), .val (eI p_lies), .val (eI (0 : Int)), .un, .un, .un]) (X.int 0) rfl (W.bind fun v1 hv1 => (W.fold (g := fun (x2 : Int) (s3 : Int) => ((rngG 0 x2).bind fun v5 => ((foldO (fun (x6 : Int) (s7 : Int) => ((opZ .mul s7 (p_many - x6)).bind fun v9 => ((opZ .fdiv v9 (x6 + (1 : Int))).bind fun v10 => some v10))) v5 (1 : Int)).bind fun (s8 : Int) => some (s3 + s8)))) (e := eI) (enc := (fun (s3 : Int) => [.val (eI p_many), .val (eI p_lies), .val (eI s3), .un, .un, .un])) (xs := v1) (s0 := (0 : Int)) (env1 := fun (x2 : Int) (s3 : Int) => [.val (eI p_many), .val (eI p_lies), .val (eI s3), .val (eI x2), .un, .un]) (XI.rngG1 hv1 (X.add (X.bo (X.var (d := eI p_lies) rfl)) (X.bo (X.int 1)))) (fun _ _ => rfl) (fun x2 s3 => (W.asg (env1 := [.val (eI p_many), .val (eI p_lies), .val (eI s3), .val (eI x2), .val (eI (1 : Int)), .un]) (X.int 1) rfl (W.bind fun v5 hv5 => (W.fold (g := fun (x6 : Int) (s7 : Int) => ((opZ .mul s7 (p_many - x6)).bind fun v9 => ((opZ .fdiv v9 (x6 + (1 : Int))).bind fun v10 => some v10))) (e := eI) (enc := (fun (s7 : Int) => [.val (eI p_many), .val (eI p_lies), .val (eI s3), .val (eI x2), .val (eI s7), .un])) (xs := v5) (s0 := (1 : Int)) (env1 := fun (x6 : Int) (s7 : Int) => [.val (eI p_many), .val (eI p_lies), .val (eI s3), .val (eI x2), .val (eI s7), .val (eI x6)]) (XI.rngG1 hv5 (X.var (d := eI x2) rfl)) (fun _ _ => rfl) (fun x6 s7 => (W.bind fun v9 hv9 => (W.bind fun v10 hv10 => (W.asg (env1 := [.val (eI p_many), .val (eI p_lies), .val (eI s3), .val (eI x2), .val (eI v10), .val (eI x6)]) (X.at (e := eI) (x := v10) (X.opZ (X.bo (X.at (e := eI) (x := v9) (X.opZ (X.bo (X.var (d := eI s7) rfl)) (X.bo (X.sub (X.bo (X.var (d := eI p_many) rfl)) (X.bo (X.var (d := eI x6) rfl))))) hv9)) (X.bo (X.add (X.bo (X.var (d := eI x6) rfl)) (X.bo (X.int 1))))) hv10) rfl (W.fgt (env1 := [.val (eI p_many), .val (eI p_lies), .val (eI s3), .val (eI x2), .val (eI v10), .un]) rfl (W.nil (x := v10) (qN_nx rfl))))))) fun s8 => (W.asg (env1 := [.val (eI p_many), .val (eI p_lies), .val (eI (s3 + s8)), .val (eI x2), .val (eI s8), .un]) (X.add (X.bo (X.var (d := eI s3) rfl)) (X.bo (X.var (d := eI s8) rfl))) rfl (W.fgt (env1 := [.val (eI p_many), .val (eI p_lies), .val (eI (s3 + s8)), .un, .val (eI s8), .un]) rfl (W.fgt (env1 := [.val (eI p_many), .val (eI p_lies), .val (eI (s3 + s8)), .un, .un, .un]) rfl (W.nil (x := (s3 + s8)) (qN_nx rfl))))))))) fun s4 => (W.ret (x := s4) (X.var (d := eI s4) rfl) (fun rv h => qR_ret h)))))
end Ev
set_option linter.all false
set_option maxRecDepth 100000
namespace Ev
open PySem
def lt1 : List Nat := [0, 0, 1, 2, 2, 3, 3, 3, 3, 4, 4]
def lt2 : List (List Nat) := [[0, 0, 1, 2, 2, 3, 3, 3, 3, 4, 4], [0, 2, 3, 3, 3, 4, 4, 4, 4, 4], [3, 4, 4, 4, 4, 4, 4, 5, 5], [5, 5, 5, 5, 5, 5, 5, 5], [5, 5, 5, 5, 5, 5, 5], [6, 6, 6, 6, 6, 6], [6, 6, 6, 6, 6], [6, 6, 6, 6], [6, 6, 6], [7, 7], [7]]
def lt3 : List (List (List Nat)) := [[[0, 0, 1, 2, 2, 3, 3], [0, 2, 3, 3, 3, 4], [3, 4, 4, 4, 4], [5, 5, 5, 5], [5, 5, 5], [6, 6], [6]], [[0, 3, 4, 4, 4, 4], [4, 5, 5, 5, 5], [6, 6, 6, 6], [6, 6, 6], [6, 6], [7]], [[5, 6, 6, 6, 6], [7, 7, 7, 7], [7, 7, 7], [7, 7], [7]], [[8, 8, 8, 8], [8, 8, 8], [8, 8], [8]], [[8, 8, 8], [8, 8], [8]], [[9, 9], [9]], [[9]]]
/-- the least number of questions of a state -/
def Lt : List Int → Nat
  | [a] => lt1.getD a.toNat 99
  | [a, b] => (lt2.getD a.toNat []).getD b.toNat 99
  | [a, b, c] => ((lt3.getD a.toNat []).getD b.toNat []).getD c.toNat 99
  | _ => 99
/-- the states that are met -/
def Qs : List Int → Bool
  | [a] => decide (0 ≤ a ∧ a ≤ 10)
  | [a, b] => decide (0 ≤ a ∧ 0 ≤ b ∧ a + b ≤ 10)
  | [a, b, c] => decide (0 ≤ a ∧ 0 ≤ b ∧ 0 ≤ c ∧ a + b + c ≤ 6)
  | _ => false
def rowsT (s : List Int) : List (List Int) := (S_all_asked s).getD []
def yesT (s r : List Int) : List Int := (S_behind_yes s r).getD []
def noT (s r : List Int) : List Int := (S_behind_no s r).getD []
def volT (s : List Int) (m : Int) : Int := (S_volume s m).getD 0
def anyT (s : List Int) (m : Nat) : Bool := (rowsT s).any fun r => Nat.blt (Lt (yesT s r)) m && Nat.blt (Lt (noT s r)) m
def chkLevel (s : List Int) (m : Nat) : Bool :=
  (S_volume s m).isSome && (opZ .shl 1 m == some ((2 ^ m : Nat) : Int)) &&
    (if decide (((2 ^ m : Nat) : Int) < volT s m) then Nat.blt m (Lt s) else Nat.blt 0 m && (anyT s m == Nat.ble (Lt s) m))
def chkState (s : List Int) : Bool :=
  if decide (s.sum < 2) then Nat.beq (Lt s) 0 else
  (S_all_asked s).isSome && (rowsT s).all (fun r => (S_behind_yes s r).isSome && (S_behind_no s r).isSome && Qs (yesT s r) && Qs (noT s r)) && (List.range 10).all (chkLevel s)
def states1 : List (List Int) := (List.range 11).map fun (a : Nat) => [(a : Int)]
def states2 (a : Nat) : List (List Int) := (List.range (11 - a)).map fun (b : Nat) => [(a : Int), (b : Int)]
def states3 (a : Nat) : List (List Int) := (List.range (7 - a)).flatMap fun (b : Nat) => (List.range (7 - a - b)).map fun (c : Nat) => [(a : Int), (b : Int), (c : Int)]
theorem chk1 : states1.all chkState = true := by decide +kernel
theorem chk2 : (List.range 11).all (fun a => (states2 a).all chkState) = true := by decide +kernel
theorem chk3 : (List.range 7).all (fun a => (states3 a).all chkState) = true := by decide +kernel
theorem chk_of {s : List Int} (h : Qs s = true) : chkState s = true := by
  match s, h with
  | [a], h =>
    have h : decide (0 ≤ a ∧ a ≤ 10) = true := h
    simp only [decide_eq_true_eq] at h
    refine List.all_eq_true.mp chk1 _ (List.mem_map.mpr ⟨a.toNat, List.mem_range.mpr (by omega), ?_⟩)
    rw [Int.toNat_of_nonneg h.1]
  | [a, b], h =>
    have h : decide (0 ≤ a ∧ 0 ≤ b ∧ a + b ≤ 10) = true := h
    simp only [decide_eq_true_eq] at h
    have q := List.all_eq_true.mp chk2 a.toNat (List.mem_range.mpr (by omega))
    refine List.all_eq_true.mp q _ (List.mem_map.mpr ⟨b.toNat, List.mem_range.mpr (by omega), ?_⟩)
    rw [Int.toNat_of_nonneg h.1, Int.toNat_of_nonneg h.2.1]
  | [a, b, c], h =>
    have h : decide (0 ≤ a ∧ 0 ≤ b ∧ 0 ≤ c ∧ a + b + c ≤ 6) = true := h
    simp only [decide_eq_true_eq] at h
    have q := List.all_eq_true.mp chk3 a.toNat (List.mem_range.mpr (by omega))
    refine List.all_eq_true.mp q _ (List.mem_flatMap.mpr ⟨b.toNat, List.mem_range.mpr (by omega), List.mem_map.mpr ⟨c.toNat, List.mem_range.mpr (by omega), ?_⟩⟩)
    rw [Int.toNat_of_nonneg h.1, Int.toNat_of_nonneg h.2.1, Int.toNat_of_nonneg h.2.2.1]
theorem isSome_get {α : Type} {o : Option α} {d : α} (h : o.isSome = true) : o = some (o.getD d) := by
  cases o with
  | none => cases h
  | some x => rfl
/-- what holds of a state that is met, of two cases and more -/
structure StOk2 (s : List Int) : Prop where
  rows : S_all_asked s = some (rowsT s)
  yes : ∀ r ∈ rowsT s, S_behind_yes s r = some (yesT s r) ∧ S_behind_no s r = some (noT s r) ∧ Qs (yesT s r) = true ∧ Qs (noT s r) = true
  vol : ∀ m : Nat, m < 10 → S_volume s m = some (volT s m) ∧ opZ .shl 1 m = some ((2 ^ m : Nat) : Int)
  far : ∀ m : Nat, m < 10 → ((2 ^ m : Nat) : Int) < volT s m → m < Lt s
  near : ∀ m : Nat, m < 10 → ¬ ((2 ^ m : Nat) : Int) < volT s m → 0 < m ∧ anyT s m = decide (Lt s ≤ m)
theorem st_small {s : List Int} (h : Qs s = true) (hs : s.sum < 2) : Lt s = 0 := by
  have q := chk_of h
  unfold chkState at q
  rw [decide_eq_true hs, if_pos rfl] at q
  exact Nat.eq_of_beq_eq_true q
theorem st_ok {s : List Int} (h : Qs s = true) (hs : ¬ s.sum < 2) : StOk2 s := by
  have q := chk_of h
  unfold chkState at q
  rw [decide_eq_false hs, if_neg Bool.false_ne_true] at q
  simp only [Bool.and_eq_true] at q
  obtain ⟨⟨q1, q2⟩, q3⟩ := q
  have lv := fun (m : Nat) (hm : m < 10) => List.all_eq_true.mp q3 m (List.mem_range.mpr hm)
  refine ⟨isSome_get q1, fun r hr => ?_, fun m hm => ?_, fun m hm hv => ?_, fun m hm hv => ?_⟩
  · have z := List.all_eq_true.mp q2 r hr
    simp only [Bool.and_eq_true] at z
    exact ⟨isSome_get z.1.1.1, isSome_get z.1.1.2, z.1.2, z.2⟩
  · have z := lv m hm
    unfold chkLevel at z
    simp only [Bool.and_eq_true, beq_iff_eq] at z
    exact ⟨isSome_get z.1.1, z.1.2⟩
  · have z := lv m hm
    unfold chkLevel at z
    rw [decide_eq_true hv, if_pos rfl] at z
    simp only [Bool.and_eq_true] at z
    exact Nat.le_of_ble_eq_true z.2
  · have z := lv m hm
    unfold chkLevel at z
    rw [decide_eq_false hv, if_neg Bool.false_ne_true] at z
    simp only [Bool.and_eq_true, beq_iff_eq] at z
    refine ⟨Nat.le_of_ble_eq_true z.2.1, z.2.2.trans ?_⟩
    by_cases w : Lt s ≤ m
    · rw [decide_eq_true w]; exact Nat.ble_eq_true_of_le w
    · rw [decide_eq_false w]
      cases e : Nat.ble (Lt s) m with
      | false => rfl
      | true => exact absurd (Nat.le_of_ble_eq_true e) w
end Ev

set_option linter.all false
set_option maxRecDepth 100000
namespace Ev
open PySem
/-! a dict whose keys are tuples of ints -/
def AT (kvs : KV) : Prop := ∀ p ∈ kvs, ∃ l : List Int, p.1 = eT eI l
theorem beq_ints (x y : List Int) : D.beq (eT eI x) (eT eI y) = decide (x = y) := (eqv_tup eqv_int).eq x y
theorem dget_none : ∀ {kvs : KV}, AT kvs → ∀ y : List Int, (kvs.any fun p => D.beq p.1 (eT eI y)) = false → dget kvs (eT eI y) = none
  | [], _, _, _ => rfl
  | (k, w) :: r, h, y, q => by
    obtain ⟨l, e⟩ := h (k, w) List.mem_cons_self
    have e : k = eT eI l := e
    subst e
    have q' : (D.beq (eT eI l) (eT eI y) || r.any fun p => D.beq p.1 (eT eI y)) = false := q
    rw [Bool.or_eq_false_iff] at q'
    show (if D.beq (eT eI l) (eT eI y) = true then some w else dget r (eT eI y)) = none
    rw [q'.1, if_neg Bool.false_ne_true]
    exact dget_none (fun p hp => h p (List.mem_cons_of_mem _ hp)) y q'.2
theorem dget_map (x : List Int) (v : D) (y : List Int) : ∀ {kvs : KV}, AT kvs → dget (kvs.map fun p => if D.beq p.1 (eT eI x) = true then (p.1, v) else p) (eT eI y) = if x = y then (if (kvs.any fun p => D.beq p.1 (eT eI x)) = true then some v else none) else dget kvs (eT eI y)
  | [], _ => by
    show none = _
    by_cases h : x = y <;> simp [h, dget]
  | (k, w) :: r, h => by
    obtain ⟨l, e⟩ := h (k, w) List.mem_cons_self
    have e : k = eT eI l := e
    subst e
    have ih := dget_map x v y (fun p hp => h p (List.mem_cons_of_mem _ hp) : AT r)
    have e1 : ((eT eI l, w) :: r).map (fun p => if D.beq p.1 (eT eI x) = true then (p.1, v) else p) = (if l = x then (eT eI l, v) else (eT eI l, w)) :: r.map (fun p => if D.beq p.1 (eT eI x) = true then (p.1, v) else p) := by
      rw [List.map_cons, beq_ints]
      by_cases h1 : l = x <;> simp [h1]
    have e2 : (((eT eI l, w) :: r).any fun p => D.beq p.1 (eT eI x)) = (decide (l = x) || r.any fun p => D.beq p.1 (eT eI x)) := by
      rw [List.any_cons, beq_ints]
    have e3 : ∀ u : D, dget ((eT eI l, u) :: r.map (fun p => if D.beq p.1 (eT eI x) = true then (p.1, v) else p)) (eT eI y) = if l = y then some u else dget (r.map (fun p => if D.beq p.1 (eT eI x) = true then (p.1, v) else p)) (eT eI y) := fun u => by
      show (if D.beq (eT eI l) (eT eI y) = true then some u else _) = _
      rw [beq_ints]
      by_cases h1 : l = y <;> simp [h1]
    have e4 : dget ((eT eI l, w) :: r) (eT eI y) = if l = y then some w else dget r (eT eI y) := by
      show (if D.beq (eT eI l) (eT eI y) = true then some w else _) = _
      rw [beq_ints]
      by_cases h1 : l = y <;> simp [h1]
    rw [e1, e2, e4]
    by_cases h1 : l = x
    · rw [if_pos h1, e3, decide_eq_true h1, Bool.true_or, if_pos rfl]
      by_cases h2 : x = y
      · rw [if_pos (h1.trans h2), if_pos h2]
      · have h3 : ¬ l = y := fun z => h2 (h1.symm.trans z)
        rw [if_neg h3, if_neg h2, if_neg h3, ih, if_neg h2]
    · rw [if_neg h1, e3, decide_eq_false h1, Bool.false_or]
      by_cases h2 : l = y
      · have h3 : ¬ x = y := fun z => h1 (h2.trans z.symm)
        rw [if_pos h2, if_neg h3, if_pos h2]
      · rw [if_neg h2, if_neg h2, ih]
theorem dget_snoc (x : List Int) (v : D) (y : List Int) : ∀ {kvs : KV}, AT kvs → dget (kvs ++ [(eT eI x, v)]) (eT eI y) = match dget kvs (eT eI y) with | some w => some w | none => if x = y then some v else none
  | [], _ => by
    show (if D.beq (eT eI x) (eT eI y) = true then some v else none) = _
    rw [beq_ints]
    by_cases h : x = y <;> simp [h, dget]
  | (k, w) :: r, h => by
    obtain ⟨l, e⟩ := h (k, w) List.mem_cons_self
    have e : k = eT eI l := e
    subst e
    have ih := dget_snoc x v y (fun p hp => h p (List.mem_cons_of_mem _ hp) : AT r)
    show (if D.beq (eT eI l) (eT eI y) = true then some w else dget (r ++ [(eT eI x, v)]) (eT eI y)) = match (if D.beq (eT eI l) (eT eI y) = true then some w else dget r (eT eI y)) with | some w => some w | none => if x = y then some v else none
    rw [beq_ints]
    by_cases h1 : l = y
    · simp [h1]
    · simp [h1, ih]
theorem dget_dput {kvs : KV} (h : AT kvs) (x : List Int) (v : D) (y : List Int) : dget (dput kvs (eT eI x) v) (eT eI y) = if x = y then some v else dget kvs (eT eI y) := by
  unfold dput
  split
  · rename_i hq
    rw [dget_map x v y h, hq, if_pos rfl]
  · rename_i hq
    rw [dget_snoc x v y h]
    by_cases h1 : x = y
    · subst h1
      rw [dget_none h x (by simpa using hq), if_pos rfl]
    · rw [if_neg h1]
      cases dget kvs (eT eI y) <;> simp [h1]
theorem at_dput {kvs : KV} (h : AT kvs) (x : List Int) (v : D) : AT (dput kvs (eT eI x) v) := by
  unfold dput
  split
  · intro p hp
    obtain ⟨q, hq, rfl⟩ := List.mem_map.mp hp
    split
    · exact h q hq
    · exact h q hq
  · intro p hp
    rcases List.mem_append.mp hp with hp | hp
    · exact h p hp
    · rw [List.mem_singleton.mp hp]
      exact ⟨x, rfl⟩
theorem keys_dput {kvs : KV} (x : List Int) (v : D) (hn : (kvs.map (·.1)).Nodup) (h : AT kvs) : ((dput kvs (eT eI x) v).map (·.1)).Nodup ∧ ∀ k ∈ (dput kvs (eT eI x) v).map (·.1), k = eT eI x ∨ k ∈ kvs.map (·.1) := by
  unfold dput
  split
  · have e : ((kvs.map fun p => if D.beq p.1 (eT eI x) = true then (p.1, v) else p).map (·.1)) = kvs.map (·.1) := by
      rw [List.map_map]
      refine List.map_congr_left fun p _ => ?_
      show (if D.beq p.1 (eT eI x) = true then (p.1, v) else p).1 = p.1
      split <;> rfl
    rw [e]
    exact ⟨hn, fun k hk => .inr hk⟩
  · rename_i hq
    rw [List.map_append]
    refine ⟨?_, fun k hk => ?_⟩
    · refine List.nodup_append.mpr ⟨hn, by simp, fun a ha b hb => ?_⟩
      obtain ⟨p, hp, rfl⟩ := List.mem_map.mp ha
      have hb : b = eT eI x := by simpa using hb
      subst hb
      intro z
      refine hq (List.any_eq_true.mpr ⟨p, hp, ?_⟩)
      rw [z, beq_ints, decide_eq_true rfl]
    · rcases List.mem_append.mp hk with z | z
      · exact .inr z
      · exact .inl (by simpa using z)
theorem nodup_len {α : Type} [DecidableEq α] : ∀ (l u : List α), l.Nodup → (∀ x ∈ l, x ∈ u) → l.length ≤ u.length
  | [], u, _, _ => Nat.zero_le _
  | x :: l, u, hn, h => by
    have hx := h x List.mem_cons_self
    have := nodup_len l (u.erase x) (List.nodup_cons.mp hn).2 fun y hy => by
      have hne : y ≠ x := fun z => (List.nodup_cons.mp hn).1 (z ▸ hy)
      exact (List.mem_erase_of_ne hne).mpr (h y (List.mem_cons_of_mem _ hy))
    rw [List.length_erase_of_mem hx] at this
    have hp : 0 < u.length := List.length_pos_of_mem hx
    simp only [List.length_cons]
    omega
end Ev

set_option linter.all false
set_option maxRecDepth 100000
namespace Ev
open PySem
/-! what can_tell keeps in its dict -/
def allS : List (List Int) := states1 ++ (List.range 11).flatMap states2 ++ (List.range 7).flatMap states3
def uni : List (List Int) := allS.flatMap fun s => (List.range 10).map fun (m : Nat) => s ++ [(m : Int)]
theorem uni_len : uni.length < line := by decide +kernel
theorem mem_allS {s : List Int} (h : Qs s = true) : s ∈ allS := by
  unfold allS
  match s, h with
  | [a], h =>
    have h : decide (0 ≤ a ∧ a ≤ 10) = true := h
    simp only [decide_eq_true_eq] at h
    refine List.mem_append_left _ (List.mem_append_left _ (List.mem_map.mpr ⟨a.toNat, List.mem_range.mpr (by omega), ?_⟩))
    rw [Int.toNat_of_nonneg h.1]
  | [a, b], h =>
    have h : decide (0 ≤ a ∧ 0 ≤ b ∧ a + b ≤ 10) = true := h
    simp only [decide_eq_true_eq] at h
    refine List.mem_append_left _ (List.mem_append_right _ (List.mem_flatMap.mpr ⟨a.toNat, List.mem_range.mpr (by omega), List.mem_map.mpr ⟨b.toNat, List.mem_range.mpr (by omega), ?_⟩⟩))
    rw [Int.toNat_of_nonneg h.1, Int.toNat_of_nonneg h.2.1]
  | [a, b, c], h =>
    have h : decide (0 ≤ a ∧ 0 ≤ b ∧ 0 ≤ c ∧ a + b + c ≤ 6) = true := h
    simp only [decide_eq_true_eq] at h
    refine List.mem_append_right _ (List.mem_flatMap.mpr ⟨a.toNat, List.mem_range.mpr (by omega), List.mem_flatMap.mpr ⟨b.toNat, List.mem_range.mpr (by omega), List.mem_map.mpr ⟨c.toNat, List.mem_range.mpr (by omega), ?_⟩⟩⟩)
    rw [Int.toNat_of_nonneg h.1, Int.toNat_of_nonneg h.2.1, Int.toNat_of_nonneg h.2.2.1]
theorem mem_uni {s : List Int} (h : Qs s = true) {m : Nat} (hm : m < 10) : s ++ [(m : Int)] ∈ uni :=
  List.mem_flatMap.mpr ⟨s, mem_allS h, List.mem_map.mpr ⟨m, List.mem_range.mpr hm, rfl⟩⟩
def Kk (kvs : KV) : Prop := ∃ ls : List (List Int), kvs.map (·.1) = ls.map (eT eI) ∧ ls.Nodup ∧ ∀ l ∈ ls, l ∈ uni
theorem Kk.nil : Kk [] := ⟨[], rfl, List.nodup_nil, fun _ h => (nomatch h)⟩
theorem Kk.at {kvs : KV} (h : Kk kvs) : AT kvs := fun p hp => by
  obtain ⟨ls, e, _⟩ := h
  have : p.1 ∈ kvs.map (·.1) := List.mem_map.mpr ⟨p, hp, rfl⟩
  rw [e] at this
  obtain ⟨l, _, q⟩ := List.mem_map.mp this
  exact ⟨l, q.symm⟩
theorem Kk.len {kvs : KV} (h : Kk kvs) : kvs.length < line := by
  obtain ⟨ls, e, n, u⟩ := h
  have h1 := nodup_len ls uni n u
  have h2 := congrArg List.length e
  rw [List.length_map, List.length_map] at h2
  rw [h2]
  exact Nat.lt_of_le_of_lt h1 uni_len
theorem Kk.put {kvs : KV} (h : Kk kvs) {x : List Int} (hx : x ∈ uni) (v : D) : Kk (dput kvs (eT eI x) v) := by
  have at_ := h.at
  obtain ⟨ls, e, n, u⟩ := h
  unfold dput
  split
  · refine ⟨ls, ?_, n, u⟩
    rw [← e, List.map_map]
    refine List.map_congr_left fun p _ => ?_
    show (if D.beq p.1 (eT eI x) = true then (p.1, v) else p).1 = p.1
    split <;> rfl
  · rename_i hq
    refine ⟨ls ++ [x], by rw [List.map_append, List.map_append, e]; rfl, ?_, fun l hl => ?_⟩
    · refine List.nodup_append.mpr ⟨n, by simp, fun a ha b hb => ?_⟩
      have hb : b = x := by simpa using hb
      subst hb
      intro z
      subst z
      have : eT eI a ∈ kvs.map (·.1) := by rw [e]; exact List.mem_map.mpr ⟨a, ha, rfl⟩
      obtain ⟨p, hp, q⟩ := List.mem_map.mp this
      refine hq (List.any_eq_true.mpr ⟨p, hp, ?_⟩)
      have q : p.1 = eT eI a := q
      rw [q, beq_ints, decide_eq_true rfl]
    · rcases List.mem_append.mp hl with z | z
      · exact u l z
      · rw [List.mem_singleton.mp z]; exact hx
abbrev ky (s : List Int) (m : Int) : D := eT eI (s ++ [m])
theorem ky_ok (s : List Int) (m : Int) : keyOk true (ky s m) = true := by
  show (isTup (.tup ((s ++ [m]).map eI)) && tupKey (.tup ((s ++ [m]).map eI)) 8) = true
  have : ∀ l : List Int, tupKeys (l.map eI) 7 = true := fun l => by
    induction l with
    | nil => rfl
    | cons x l ih => exact ih
  exact this _
theorem ky_inj {s s' : List Int} {m m' : Int} (h : s ++ [m] = s' ++ [m']) : s = s' ∧ m = m' := by
  have := List.append_inj_left' h rfl
  subst this
  exact ⟨rfl, by simpa using h⟩
/-- entries below b are right -/
def Rt (b : Int) (kvs : KV) : Prop := ∀ (s : List Int) (m : Int) (v : D), m < b → dget kvs (ky s m) = some v → 0 ≤ m ∧ v = eB (decide ((Lt s : Int) ≤ m))
structure Ik (b : Int) (kvs : KV) : Prop where
  k : Kk kvs
  r : Rt b kvs
theorem Ik.down {b b' : Int} {kvs : KV} (h : Ik b kvs) (hb : b' ≤ b) : Ik b' kvs := ⟨h.k, fun s m v hm e => h.r s m v (by omega) e⟩
theorem Ik.nil (b : Int) : Ik b [] := ⟨Kk.nil, fun _ _ _ _ e => (nomatch e)⟩
/-- above b nothing changed -/
def Ab (b : Int) (kvs kvs' : KV) : Prop := ∀ (s : List Int) (m : Int), b ≤ m → dget kvs' (ky s m) = dget kvs (ky s m)
theorem Ab.refl {b : Int} {kvs : KV} : Ab b kvs kvs := fun _ _ _ => rfl
theorem Ab.trans {b b' : Int} {k1 k2 k3 : KV} (h : Ab b k1 k2) (g : Ab b' k2 k3) (hb : b' ≤ b) : Ab b k1 k3 := fun s m hm => (g s m (by omega)).trans (h s m hm)
theorem putM_ok {d v : D} {kvs : KV} {k : Unit → KV → Prop} (h1 : keyOk true d = true) (h2 : kvs.length < line) (h3 : k () (dput kvs d v)) : putM d v kvs k := ⟨h1, h2, h3⟩
theorem bind_ok {σ α β : Type} {n : M σ α} {f : α → M σ β} {s : σ} {k : β → σ → Prop} (h : n s fun x s' => f x s' k) : M.bind n f s k := h
theorem opt_ok {σ α : Type} {x : α} {s : σ} {k : α → σ → Prop} (h : k x s) : M.opt (some x) s k := ⟨x, rfl, h⟩
theorem lift_ok {σ α β : Type} {u : Option α} {x : α} {f : α → M σ β} {s : σ} {k : β → σ → Prop} (hx : u = some x) (h : f x s k) : M.lift u f s k := ⟨x, hx, h⟩
theorem ret_ok {σ α : Type} {x : α} {s : σ} {k : α → σ → Prop} (h : k x s) : M.ret x s k := h
theorem inM_ok {d : D} {kvs : KV} {k : Bool → KV → Prop} (b : Bool) (h1 : keyOk true d = true) (h3 : (dget kvs d).isSome = b) (h2 : k b kvs) : inM d kvs k := ⟨h1, h3.symm ▸ h2⟩
theorem getM_ok {β : Type} {f : β → D} {d : D} {kvs : KV} {k : β → KV → Prop} (x : β) (h1 : keyOk true d = true) (h2 : dget kvs d = some (f x)) (h3 : k x kvs) : getM f d kvs k := ⟨h1, x, h2, h3⟩
theorem if_ok {σ α : Type} {c : Prop} [Decidable c] {n1 n2 : M σ α} {s : σ} {k : α → σ → Prop} (h : if c then n1 s k else n2 s k) : (if c then n1 else n2) s k := by
  by_cases q : c
  · rw [if_pos q] at h ⊢; exact h
  · rw [if_neg q] at h ⊢; exact h
theorem ift_ok {σ α : Type} {t : Bool} {n1 n2 : M σ α} {s : σ} {k : α → σ → Prop} (q : t = true) (h : n1 s k) : (if t = true then n1 else n2) s k := by
  rw [if_pos q]; exact h
theorem iff_ok {σ α : Type} {t : Bool} {n1 n2 : M σ α} {s : σ} {k : α → σ → Prop} (q : t = false) (h : n2 s k) : (if t = true then n1 else n2) s k := by
  rw [q, if_neg Bool.false_ne_true]; exact h
theorem forM_cons {σ α τ ρ : Type} {g : α → τ → M σ (Lp τ ρ)} {x : α} {xs : List α} {t : τ} {s : σ} {k : Lp τ ρ → σ → Prop}
    (h : g x t s fun l s' => match l with | .nx t' => forM g xs t' s' k | .brk t' => k (.brk t') s' | .ret r => k (.ret r) s') : forM g (x :: xs) t s k := by
  have e : (fun (l : Lp τ ρ) (s' : σ) => match l with | .nx t' => forM g xs t' s' k | .brk t' => k (.brk t') s' | .ret r => k (.ret r) s') = fun l s' => (match l with | .nx t' => forM g xs t' | .brk t' => M.ret (.brk t') | .ret r => M.ret (.ret r) : M σ (Lp τ ρ)) s' k := by
    funext l s'
    cases l <;> rfl
  rw [e] at h
  exact h
/-- one turn of can_tell's loop -/
def canTurn (n : Nat) (p_state v3 : List Int) (p_many : Int) (x7 : List Int) (_ : Unit) : M KV (Lp Unit Empty) :=
  M.lift (S_behind_yes p_state x7) fun v10 => M.lift (S_behind_no p_state x7) fun v11 => M.bind (M.bind (S_can_tell n v10 (p_many - (1 : Int))) fun x12 => if x12 = true then (S_can_tell n v11 (p_many - (1 : Int))) else (M.ret false)) fun t13 =>
    if t13 = true then (M.bind (putM ((eT eI) v3) (eB true)) fun _ => (M.opt (some (Lp.brk ())))) else (M.opt (some (Lp.nx ())))
/-- what is promised of can_tell -/
def Can (n : Nat) : Prop := ∀ (s : List Int) (m : Nat), Qs s = true → m < n → m < 10 → ∀ (kvs : KV) (k : Bool → KV → Prop), Ik (m + 1) kvs → (∀ kvs', Ik (m + 1) kvs' → Ab (m + 1) kvs kvs' → k (decide (Lt s ≤ m)) kvs') → S_can_tell n s m kvs k
theorem turn_ok {n : Nat} (ih : Can n) {s : List Int} (hs : StOk2 s) {m : Nat} (h0 : 0 < m) (hm : m < 10) (hn : m - 1 < n) {r : List Int} (hr : r ∈ rowsT s) {kvs : KV} (I : Ik m kvs) {K : Lp Unit Empty → KV → Prop}
    (hb : ∀ kvs', Ik m kvs' → Ab m kvs kvs' → (Nat.blt (Lt (yesT s r)) m && Nat.blt (Lt (noT s r)) m) = true → K (.brk ()) (dput kvs' (ky s m) (eB true)))
    (hK : ∀ kvs', Ik m kvs' → Ab m kvs kvs' → (Nat.blt (Lt (yesT s r)) m && Nat.blt (Lt (noT s r)) m) = false → K (.nx ()) kvs') : canTurn n s (s ++ [(m : Int)]) m r () kvs K := by
  obtain ⟨y1, y2, y3, y4⟩ := hs.yes r hr
  have e1 : (m : Int) - 1 = ((m - 1 : Nat) : Int) := by omega
  have e2 : ((m - 1 : Nat) : Int) + 1 = (m : Int) := by omega
  have lt : ∀ x : Nat, decide (x ≤ m - 1) = Nat.blt x m := fun x => by
    by_cases h : x ≤ m - 1
    · rw [decide_eq_true h]; exact (Nat.ble_eq_true_of_le (by omega : x + 1 ≤ m)).symm
    · rw [decide_eq_false h]
      cases q : Nat.blt x m with
      | false => rfl
      | true => exact absurd (Nat.le_of_ble_eq_true q) (by omega)
  have ih' : ∀ (s' : List Int) (kv : KV) (k : Bool → KV → Prop), Qs s' = true → Ik m kv → (∀ kv', Ik m kv' → Ab m kv kv' → k (Nat.blt (Lt s') m) kv') → S_can_tell n s' ((m : Int) - 1) kv k := fun s' kv k hq I' hk => by
    rw [e1]
    refine ih s' (m - 1) hq hn (by omega) kv k (by rw [e2]; exact I') fun k1 I1 A1 => ?_
    rw [lt]
    rw [e2] at I1 A1
    exact hk k1 I1 A1
  unfold canTurn
  refine lift_ok y1 (lift_ok y2 (bind_ok (bind_ok (ih' _ _ _ y3 I fun k1 I1 A1 => ?_))))
  cases hy : Nat.blt (Lt (yesT s r)) m with
  | false =>
    refine iff_ok rfl (ret_ok (iff_ok rfl (opt_ok (hK k1 I1 A1 ?_))))
    rw [hy]; rfl
  | true =>
    refine ift_ok rfl (ih' _ _ _ y4 I1 fun k2 I2 A2 => ?_)
    have A := A1.trans A2 (Int.le_refl _)
    cases hz : Nat.blt (Lt (noT s r)) m with
    | false =>
      refine iff_ok rfl (opt_ok (hK k2 I2 A ?_))
      rw [hy, hz]; rfl
    | true =>
      refine ift_ok rfl (bind_ok (putM_ok (ky_ok s m) I2.k.len (opt_ok (hb k2 I2 A ?_))))
      rw [hy, hz]; rfl
theorem turns_ok {n : Nat} (ih : Can n) {s : List Int} (hs : StOk2 s) {m : Nat} (h0 : 0 < m) (hm : m < 10) (hn : m - 1 < n) : ∀ (rs : List (List Int)), (∀ r ∈ rs, r ∈ rowsT s) → ∀ (kvs : KV), Ik m kvs → ∀ {K : Lp Unit Empty → KV → Prop},
    (∀ kvs', Ik m kvs' → Ab m kvs kvs' → (rs.any fun r => Nat.blt (Lt (yesT s r)) m && Nat.blt (Lt (noT s r)) m) = true → K (.brk ()) (dput kvs' (ky s m) (eB true))) →
    (∀ kvs', Ik m kvs' → Ab m kvs kvs' → (rs.any fun r => Nat.blt (Lt (yesT s r)) m && Nat.blt (Lt (noT s r)) m) = false → K (.nx ()) kvs') →
    forM (canTurn n s (s ++ [(m : Int)]) m) rs () kvs K
  | [], _, kvs, I, K, _, hK => hK kvs I Ab.refl rfl
  | r :: rs, hr, kvs, I, K, hb, hK => by
    refine forM_cons (turn_ok ih hs h0 hm hn (hr r List.mem_cons_self) I (fun k1 I1 A1 q => ?_) fun k1 I1 A1 q => ?_)
    · refine hb k1 I1 A1 ?_
      rw [List.any_cons, q, Bool.true_or]
    · refine turns_ok ih hs h0 hm hn rs (fun x hx => hr x (List.mem_cons_of_mem _ hx)) k1 I1 (fun k2 I2 A2 z => ?_) fun k2 I2 A2 z => ?_
      · refine hb k2 I2 (A1.trans A2 (Int.le_refl _)) ?_
        rw [List.any_cons, z, Bool.or_true]
      · refine hK k2 I2 (A1.trans A2 (Int.le_refl _)) ?_
        rw [List.any_cons, q, z, Bool.or_false]
theorem can_len {s : List Int} (h : Qs s = true) : s.length ≤ 3 := by
  match s, h with
  | [_], _ => exact by simp
  | [_, _], _ => exact by simp
  | [_, _, _], _ => exact by simp
theorem can_ok : ∀ n : Nat, Can n
  | 0, s, m, _, hn, _, _, _, _, _ => absurd hn (by omega)
  | n + 1, s, m, hq, hn, hm, kvs, k, I, hk => by
    unfold S_can_tell
    by_cases hs : s.sum < 2
    · refine ift_ok (decide_eq_true hs) (opt_ok ?_)
      have := hk kvs I Ab.refl
      rw [st_small hq hs, decide_eq_true (Nat.zero_le _)] at this
      exact this
    · refine iff_ok (decide_eq_false hs) ?_
      have ok := st_ok hq hs
      obtain ⟨v1, v2⟩ := ok.vol m hm
      refine lift_ok v1 (lift_ok v2 ?_)
      by_cases hv : ((2 ^ m : Nat) : Int) < volT s m
      · refine ift_ok (decide_eq_true hv) (opt_ok ?_)
        have := hk kvs I Ab.refl
        rw [decide_eq_false (by have := ok.far m hm hv; omega)] at this
        exact this
      · refine iff_ok (decide_eq_false hv) ?_
        obtain ⟨h0, near⟩ := ok.near m hm hv
        have hc : catZ s ([(m : Int)] : List Int) = some (s ++ [(m : Int)]) := gd_true _ (by
          have := can_len hq
          exact decide_eq_true (Nat.le_trans (Nat.add_le_add_right this 1) (by decide)))
        refine lift_ok hc ?_
        cases hd : dget kvs (ky s m) with
        | some v =>
          obtain ⟨_, rfl⟩ := I.r s m v (by omega) hd
          refine bind_ok (bind_ok (inM_ok true (ky_ok s m) (by rw [hd]; rfl) (ret_ok (bind_ok (iff_ok rfl (opt_ok (bind_ok (getM_ok (decide (Lt s ≤ m)) (ky_ok s m) ?_ (ret_ok (hk kvs I Ab.refl))))))))))
          rw [hd]
          congr 2
          by_cases z : Lt s ≤ m
          · rw [decide_eq_true z, decide_eq_true (by omega)]
          · rw [decide_eq_false z, decide_eq_false (by omega)]
        | none =>
          have K0 := I.k.put (mem_uni hq hm) (eB false)
          have g0 := dget_dput I.k.at (s ++ [(m : Int)]) (eB false)
          have I0 : Ik m (dput kvs (ky s m) (eB false)) := ⟨K0, fun s' m' v hm' e => by
            have e := (g0 (s' ++ [m'])).symm.trans e
            rw [if_neg (fun z => by have := (ky_inj z).2; omega)] at e
            exact I.r s' m' v (by omega) e⟩
          have near' : (rowsT s).any (fun r => Nat.blt (Lt (yesT s r)) m && Nat.blt (Lt (noT s r)) m) = decide (Lt s ≤ m) := near
          have same : ∀ (k1 : KV), Ab m (dput kvs (ky s m) (eB false)) k1 → ∀ (s' : List Int) (m' : Int), (m : Int) ≤ m' → ¬ (s = s' ∧ (m : Int) = m') → dget k1 (ky s' m') = dget kvs (ky s' m') := fun k1 A1 s' m' hm' ne => by
            rw [A1 s' m' hm', g0 (s' ++ [m']), if_neg (fun z => ne (ky_inj z))]
          have here : ∀ (k1 : KV), Ab m (dput kvs (ky s m) (eB false)) k1 → dget k1 (ky s m) = some (eB false) := fun k1 A1 => by
            rw [A1 s m (Int.le_refl _), g0, if_pos rfl]
          refine bind_ok (bind_ok (inM_ok false (ky_ok s m) (by rw [hd]; rfl) (ret_ok (bind_ok (ift_ok rfl (bind_ok (putM_ok (ky_ok s m) I.k.len (lift_ok ok.rows (bind_ok ?_)))))))))
          refine turns_ok (can_ok n) ok h0 hm (by omega) (rowsT s) (fun r hr => hr) _ I0 (fun k1 I1 A1 z => ?_) fun k1 I1 A1 z => ?_
          · have z : Lt s ≤ m := of_decide_eq_true (near'.symm.trans z)
            have g1 := dget_dput I1.k.at (s ++ [(m : Int)]) (eB true)
            refine opt_ok (bind_ok (getM_ok true (ky_ok s m) (by rw [g1, if_pos rfl]) (ret_ok ?_)))
            have := hk (dput k1 (ky s m) (eB true)) ⟨I1.k.put (mem_uni hq hm) _, fun s' m' v hm' e => ?_⟩ fun s' m' hm' => ?_
            · rw [decide_eq_true z] at this
              exact this
            · have e' := (g1 (s' ++ [m'])).symm.trans e
              by_cases w : s ++ [(m : Int)] = s' ++ [m']
              · rw [if_pos w] at e'
                clear e
                obtain ⟨w1, w3⟩ := ky_inj w
                have e' : eB true = v := Option.some.inj e'
                rw [← e', ← w1, ← w3]
                exact ⟨by omega, by rw [decide_eq_true (by omega)]⟩
              · rw [if_neg w] at e'
                by_cases w2 : m' < m
                · exact I1.r s' m' v w2 e'
                · rw [same k1 A1 s' m' (by omega) (fun x => w (by rw [x.1, x.2]))] at e'
                  exact I.r s' m' v hm' e'
            · rw [g1 (s' ++ [m']), if_neg (fun x => by have := (ky_inj x).2; omega)]
              exact same k1 A1 s' m' (by omega) (fun x => by omega)
          · have z : ¬ Lt s ≤ m := of_decide_eq_false (near'.symm.trans z)
            refine opt_ok (bind_ok (getM_ok false (ky_ok s m) (here k1 A1) (ret_ok ?_)))
            have := hk k1 ⟨I1.k, fun s' m' v hm' e => ?_⟩ fun s' m' hm' => same k1 A1 s' m' (by omega) (fun x => by omega)
            · rw [decide_eq_false z] at this
              exact this
            · by_cases w2 : m' < m
              · exact I1.r s' m' v w2 e
              · by_cases w : s = s' ∧ (m : Int) = m'
                · obtain ⟨rfl, rfl⟩ := w
                  rw [here k1 A1] at e
                  cases e
                  exact ⟨by omega, by rw [decide_eq_false (by omega)]⟩
                · rw [same k1 A1 s' m' (by omega) w] at e
                  exact I.r s' m' v hm' e
theorem Ik.up {b b' : Int} {kvs kvs' : KV} (h : Ik b kvs) (g : Ik b' kvs') (a : Ab b' kvs kvs') : Ik b kvs' := ⟨g.k, fun s m v hm e => by
  by_cases w : m < b'
  · exact g.r s m v w e
  · rw [a s m (by omega)] at e
    exact h.r s m v hm e⟩
/-- told once for all: the dict stays right -/
theorem can_all {s : List Int} {m : Nat} (hq : Qs s = true) (hm : m < 10) {kvs : KV} {k : Bool → KV → Prop} (I : Ik 100 kvs) (hk : ∀ kvs', Ik 100 kvs' → k (decide (Lt s ≤ m)) kvs') : S_can_tell 12 s m kvs k :=
  can_ok 12 s m hq (by omega) hm kvs k (I.down (by omega)) fun kvs' I' A' => hk kvs' (I.up I' A')
end Ev

set_option linter.all false
set_option maxRecDepth 100000
namespace Ev
open PySem
def N_can_tell (s : List Int) (many : Int) : Option Bool := if (Qs s && decide (0 ≤ many ∧ many < 10)) = true then some (decide (Lt s ≤ many.toNat)) else none
theorem CN_can_tell : ∀ (k : Nat), 16 ≤ k → ∀ (s : List Int) (many : Int), FkN (callN fns wF k) 8 [.d (eT eI s), .d (eI many)] ((N_can_tell s many).map eB) := fun k hk s many => by
  unfold N_can_tell
  by_cases h : (Qs s && decide (0 ≤ many ∧ many < 10)) = true
  · rw [if_pos h]
    rw [Bool.and_eq_true, decide_eq_true_eq] at h
    obtain ⟨hq, h0, h1⟩ := h
    refine FkN.of (e := eB) (n := S_can_tell 12 s many) (fun m0 j => C_can_tell 12 k (by omega) s many) ?_
    have e : many = ((many.toNat : Nat) : Int) := by omega
    rw [e]
    exact can_all hq (by omega) (Ik.nil 100) fun kvs' _ => by rw [Int.toNat_natCast]
  · rw [if_neg h]
    exact fun m d hd => nomatch hd
theorem rngOk_small : (List.range 101).all (fun n => rngOk 0 (n : Int)) = true := by decide +kernel
/-- the numbers below n -/
def nums (n : Nat) : List Int := (List.range n).map fun (i : Nat) => (i : Int)
theorem rngG_nat {n : Nat} (h : n ≤ 100) : rngG 0 (n : Int) = some (nums n) := by
  unfold rngG
  rw [gd_true _ (List.all_eq_true.mp rngOk_small n (List.mem_range.mpr (by omega)))]
  congr 1
  unfold rangeZ nums
  rw [show ((n : Int) - 0).toNat = n by omega]
  refine List.map_congr_left fun i _ => ?_
  omega
def N_least_asked (s : List Int) (most : Int) : Option (Option Int) := if (Qs s && decide (0 ≤ most ∧ most < 10)) = true then some (if (Lt s : Int) ≤ most then some (Lt s) else none) else none
theorem least_loop {s : List Int} (hq : Qs s = true) : ∀ (l a : Nat), a + l ≤ 10 → ∀ (kvs : KV), Ik 100 kvs → a ≤ Lt s → ∀ (K : Lp Unit (Option Int) → KV → Prop), (∀ kvs', Ik 100 kvs' → if Lt s < a + l then K (.ret (some (Lt s : Int))) kvs' else K (.nx ()) kvs') →
    forM (fun (x2 : Int) (_ : Unit) => ((M.bind (S_can_tell 12 s x2) fun t5 => if t5 = true then (M.opt (some (Lp.ret (some x2)))) else (M.opt (some (Lp.nx ())))) : M KV (Lp Unit (Option Int)))) ((List.range' a l).map fun (i : Nat) => (i : Int)) () kvs K
  | 0, a, _, kvs, I, ha, K, hK => by
    have := hK kvs I
    rw [if_neg (by omega)] at this
    exact this
  | l + 1, a, hl, kvs, I, ha, K, hK => by
    rw [List.range'_succ, List.map_cons]
    refine forM_cons (bind_ok (can_all hq (by omega) I fun k1 I1 => ?_))
    by_cases z : Lt s ≤ a
    · refine ift_ok (decide_eq_true z) (opt_ok ?_)
      have := hK k1 I1
      rw [if_pos (by omega), show Lt s = a by omega] at this
      exact this
    · refine iff_ok (decide_eq_false z) (opt_ok ?_)
      refine least_loop hq l (a + 1) (by omega) k1 I1 (by omega) K fun k2 I2 => ?_
      have := hK k2 I2
      rw [show a + 1 + l = a + (l + 1) by omega]
      exact this
theorem CN_least_asked : ∀ (k : Nat), 17 ≤ k → ∀ (s : List Int) (many : Int), Fk (callN fns wF k) 9 [.d (eT eI s), .d (eI many)] ((N_least_asked s many).map (eO eI)) := fun k hk s most => by
  unfold N_least_asked
  by_cases h : (Qs s && decide (0 ≤ most ∧ most < 10)) = true
  · rw [if_pos h]
    rw [Bool.and_eq_true, decide_eq_true_eq] at h
    obtain ⟨hq, h0, h1⟩ := h
    refine fun m d hd => ?_
    cases hd
    refine C_least_asked k hk s most _ ?_ m
    unfold S_least_asked
    obtain ⟨n, hn⟩ : ∃ n : Nat, most = (n : Int) := ⟨most.toNat, by omega⟩
    subst hn
    have hr : rngG 0 ((n : Int) + 1) = some ((List.range' 0 (n + 1)).map fun (i : Nat) => (i : Int)) := by
      have := rngG_nat (n := n + 1) (by omega)
      rw [← List.range_eq_range']
      exact this
    refine lift_ok hr (bind_ok (least_loop hq (n + 1) 0 (by omega) [] (Ik.nil 100) (Nat.zero_le _) _ fun k1 I1 => ?_))
    by_cases z : Lt s < 0 + (n + 1)
    · rw [if_pos z, if_pos (by omega)]
      exact ret_ok rfl
    · rw [if_neg z, if_neg (by omega)]
      exact opt_ok rfl
  · rw [if_neg h]
    exact fun m d hd => nomatch hd
def bothT (s r : List Int) (m : Nat) : Bool := Nat.blt (Lt (yesT s r)) m && Nat.blt (Lt (noT s r)) m
def toldD : D := .tup [eS ⟨#[116, 111, 108, 100]⟩]
def treeT : Nat → List Int → Nat → D
  | 0, _, _ => .non
  | n + 1, s, m => if s.sum < 2 then toldD else match (rowsT s).find? fun r => bothT s r m with
    | none => .non
    | some r => .tup [eS ⟨#[97, 115, 107]⟩, eT eI r, treeT n (yesT s r) (m - 1), treeT n (noT s r) (m - 1)]
def treeTurn (n : Nat) (p_state : List Int) (p_many : Int) (x2 : List Int) (s3 : Unit) : M KV (Lp Unit D) :=
  (M.lift (S_behind_yes p_state x2) fun v5 => (M.lift (S_behind_no p_state x2) fun v6 => (M.bind (M.bind (S_can_tell 12 v5 (p_many - (1 : Int))) fun x17 => if x17 = true then (S_can_tell 12 v6 (p_many - (1 : Int))) else (M.ret false)) fun t18 => if t18 = true then (M.bind (M.bind (M.bind (M.ret (eS (⟨#[97, 115, 107]⟩ : Str))) fun x13 => M.bind (M.bind (M.ret ((eT eI) x2)) fun x11 => M.bind (M.bind (S_lie_tree_from n v5 (p_many - (1 : Int))) fun x9 => M.bind (M.bind (S_lie_tree_from n v6 (p_many - (1 : Int))) fun x7 => M.bind (M.ret ()) fun y8 => M.ret (x7, y8)) fun y10 => M.ret (x9, y10)) fun y12 => M.ret (x11, y12)) fun y14 => M.ret (x13, y14)) fun y15 => M.ret (D.tup [y15.1, y15.2.1, y15.2.2.1, y15.2.2.2.1])) fun x16 => M.ret (Lp.ret x16)) else (M.opt (some (Lp.nx ()))))))
def Tree (n : Nat) : Prop := ∀ (s : List Int) (m : Nat), Qs s = true → Lt s ≤ m → m < n → m < 10 → ∀ (kvs : KV) (k : D → KV → Prop), Ik 100 kvs → (∀ kvs', Ik 100 kvs' → k (treeT n s m) kvs') → S_lie_tree_from n s m kvs k
theorem lt_sub {x m : Nat} (h0 : 0 < m) : decide (x ≤ m - 1) = Nat.blt x m := by
  by_cases h : x ≤ m - 1
  · rw [decide_eq_true h]; exact (Nat.ble_eq_true_of_le (by omega : x + 1 ≤ m)).symm
  · rw [decide_eq_false h]
    cases q : Nat.blt x m with
    | false => rfl
    | true => exact absurd (Nat.le_of_ble_eq_true q) (by omega)
def askD (n : Nat) (s r : List Int) (m : Nat) : D := .tup [eS ⟨#[97, 115, 107]⟩, eT eI r, treeT n (yesT s r) (m - 1), treeT n (noT s r) (m - 1)]
theorem treeTurn_ok {n : Nat} (ih : Tree n) {s : List Int} (hs : StOk2 s) {m : Nat} (h0 : 0 < m) (hm : m < 10) (hn : m - 1 < n) {r : List Int} (hr : r ∈ rowsT s) {kvs : KV} (I : Ik 100 kvs) {K : Lp Unit D → KV → Prop}
    (ht : bothT s r m = true → ∀ kvs', Ik 100 kvs' → K (.ret (askD n s r m)) kvs') (hf : bothT s r m = false → ∀ kvs', Ik 100 kvs' → K (.nx ()) kvs') : treeTurn n s m r () kvs K := by
  obtain ⟨y1, y2, y3, y4⟩ := hs.yes r hr
  have e1 : (m : Int) - 1 = ((m - 1 : Nat) : Int) := by omega
  unfold treeTurn
  rw [e1]
  refine lift_ok y1 (lift_ok y2 (bind_ok (bind_ok (can_all y3 (by omega) I fun k1 I1 => ?_))))
  rw [lt_sub h0]
  cases hy : Nat.blt (Lt (yesT s r)) m with
  | false => exact iff_ok rfl (ret_ok (iff_ok rfl (opt_ok (hf (by unfold bothT; rw [hy]; rfl) k1 I1))))
  | true =>
    refine ift_ok rfl (can_all y4 (by omega) I1 fun k2 I2 => ?_)
    rw [lt_sub h0]
    cases hz : Nat.blt (Lt (noT s r)) m with
    | false => exact iff_ok rfl (opt_ok (hf (by unfold bothT; rw [hy, hz]; rfl) k2 I2))
    | true =>
      have l1 := Nat.le_of_ble_eq_true hy
      have l2 := Nat.le_of_ble_eq_true hz
      have b : bothT s r m = true := by unfold bothT; rw [hy, hz]; rfl
      refine ift_ok rfl (bind_ok (bind_ok (bind_ok (ret_ok (bind_ok (bind_ok (ret_ok (bind_ok (bind_ok ?_)))))))))
      refine ih (yesT s r) (m - 1) y3 (by omega) hn (by omega) k2 _ I2 fun k3 I3 => ?_
      refine bind_ok (bind_ok ?_)
      refine ih (noT s r) (m - 1) y4 (by omega) hn (by omega) k3 _ I3 fun k4 I4 => ?_
      exact ht b k4 I4
theorem find_t {α : Type} {p : α → Bool} {x : α} {xs : List α} (q : p x = true) : (x :: xs).find? p = some x := by rw [List.find?_cons, q]
theorem find_f {α : Type} {p : α → Bool} {x : α} {xs : List α} (q : p x = false) : (x :: xs).find? p = xs.find? p := by rw [List.find?_cons, q]
/-- the first that stops the loop -/
theorem forM_find {σ α ρ : Type} {g : α → Unit → M σ (Lp Unit ρ)} {p : α → Bool} {w : α → ρ} {I : σ → Prop} {K : Lp Unit ρ → σ → Prop} : ∀ (xs : List α)
    (_ : ∀ x ∈ xs, ∀ s (K' : Lp Unit ρ → σ → Prop), I s → (p x = true → ∀ s', I s' → K' (.ret (w x)) s') → (p x = false → ∀ s', I s' → K' (.nx ()) s') → g x () s K')
    (_ : ∀ x, xs.find? p = some x → ∀ s', I s' → K (.ret (w x)) s') (_ : xs.find? p = none → ∀ s', I s' → K (.nx ()) s') (s : σ) (_ : I s), forM g xs () s K
  | [], _, _, hK, s, i => hK rfl s i
  | x :: xs, h, hs, hK, s, i => forM_cons (h x List.mem_cons_self s _ i (fun q s' i' => hs x (find_t q) s' i') fun q s' i' =>
      forM_find xs (fun y hy => h y (List.mem_cons_of_mem _ hy)) (fun y e => hs y ((find_f q).trans e)) (fun e => hK ((find_f q).trans e)) s' i')
theorem trees_ok {n : Nat} (ih : Tree n) {s : List Int} (hs : StOk2 s) {m : Nat} (h0 : 0 < m) (hm : m < 10) (hn : m - 1 < n) {kvs : KV} (I : Ik 100 kvs) {K : Lp Unit D → KV → Prop}
    (ht : ∀ r, (rowsT s).find? (fun r => bothT s r m) = some r → ∀ kvs', Ik 100 kvs' → K (.ret (askD n s r m)) kvs')
    (hf : (rowsT s).find? (fun r => bothT s r m) = none → ∀ kvs', Ik 100 kvs' → K (.nx ()) kvs') :
    forM (treeTurn n s m) (rowsT s) () kvs K :=
  forM_find (p := fun r => bothT s r m) (w := fun r => askD n s r m) (I := Ik 100) (rowsT s) (fun r hr kv K' i a b => treeTurn_ok ih hs h0 hm hn hr i a b) ht hf kvs I
theorem tree_ok : ∀ n : Nat, Tree n
  | 0, s, m, _, _, hn, _, _, _, _, _ => absurd hn (by omega)
  | n + 1, s, m, hq, hl, hn, hm, kvs, k, I, hk => by
    unfold S_lie_tree_from
    by_cases hs : s.sum < 2
    · refine ift_ok (decide_eq_true hs) (opt_ok ?_)
      have := hk kvs I
      unfold treeT at this
      rw [if_pos hs] at this
      exact this
    · refine iff_ok (decide_eq_false hs) ?_
      have ok := st_ok hq hs
      have hv : ¬ ((2 ^ m : Nat) : Int) < volT s m := fun h => absurd (ok.far m hm h) (by omega)
      obtain ⟨h0, _⟩ := ok.near m hm hv
      refine lift_ok ok.rows (bind_ok (trees_ok (tree_ok n) ok h0 hm (by omega) I (fun r q k1 I1 => ret_ok ?_) fun q k1 I1 => opt_ok ?_))
      · have := hk k1 I1
        unfold treeT at this
        rw [if_neg hs, q] at this
        exact this
      · have := hk k1 I1
        unfold treeT at this
        rw [if_neg hs, q] at this
        exact this
def N_lie_tree (s : List Int) (many : Int) : Option D := if (Qs s && decide (0 ≤ many ∧ many < 10)) = true then some (if (Lt s : Int) ≤ many then treeT 12 s many.toNat else .non) else none
theorem CN_lie_tree : ∀ (k : Nat), 30 ≤ k → ∀ (s : List Int) (many : Int), Fk (callN fns wF k) 10 [.d (eT eI s), .d (eI many)] ((N_lie_tree s many).map eD) := fun k hk s many => by
  unfold N_lie_tree
  by_cases h : (Qs s && decide (0 ≤ many ∧ many < 10)) = true
  · rw [if_pos h]
    rw [Bool.and_eq_true, decide_eq_true_eq] at h
    obtain ⟨hq, h0, h1⟩ := h
    refine fun m d hd => ?_
    cases hd
    refine C_lie_tree k hk s many _ ?_ m
    unfold S_lie_tree
    obtain ⟨n, hn⟩ : ∃ n : Nat, many = (n : Int) := ⟨many.toNat, by omega⟩
    subst hn
    refine bind_ok (bind_ok (can_all hq (by omega) (Ik.nil 100) fun k1 I1 => ?_))
    by_cases z : Lt s ≤ n
    · refine ift_ok (decide_eq_true z) (tree_ok 12 s n hq z (by omega) (by omega) k1 _ I1 fun k2 I2 => ret_ok ?_)
      rw [if_pos (by omega), Int.toNat_natCast]
    · refine iff_ok (decide_eq_false z) (ret_ok (ret_ok ?_))
      rw [if_neg (by omega)]
  · rw [if_neg h]
    exact fun m d hd => nomatch hd
end Ev

set_option linter.all false
set_option maxRecDepth 100000
namespace Ev
open L2 (ixN)
open HT (sIx lexLt)
/-- the law's state -/
def stC (L : List D) (a b c : Int) : Ct := .lst [.lst L, .int a, .int b, .int c]
def p1 : St := match f__law_pick.body with | .cons s _ => s | _ => .pass
def p2 : St := match f__law_pick.body with | .cons _ (.cons s _) => s | _ => .pass
def p3 : Sts := match f__law_pick.body with | .cons _ (.cons _ s) => s | _ => .nil
theorem log_small {n k : Nat} (h : n < 2 ^ k) (hk : 0 < k) : n.log2 < k := by
  by_cases h0 : n = 0
  · subst h0; simpa using hk
  · exact (Nat.log2_lt h0).mpr h
theorem mul_small {c : Int} (h0 : 0 ≤ c) (h1 : c < 2 ^ 32) : mulOk c 48271 = true := by
  unfold mulOk
  have : c.natAbs.log2 < 32 := log_small (by omega) (by decide)
  exact decide_eq_true (by have e : (48271 : Int).natAbs.log2 = 15 := by decide +kernel
                           omega)
theorem pick_keep (cs : Cs) (L : List D) (a b c l : Int) (h : ¬ (b = 0 ∧ a < L.length)) :
    evS cs p1 [.cell 0, .val (.int l), .un, .un] [stC L a b c] = .ok (.nx [.cell 0, .val (.int l), .un, .un]) [stC L a b c] := by
  by_cases hb : b = 0
  · subst hb
    have ha : ¬ a < L.length := fun z => h ⟨rfl, z⟩
    simp [p1, f__law_pick, evS, evSs, evX, evAnd, evVs, varOf, bor, look, asD, asB, opt, Vw.at, stC, idxV, Vw.seq, ixN, Rv.vw, Rv.dat, cmpD, eqD, okD, D.ok, D.oks, D.beq, Vw.dat, biV, lenV, isNil, ha]
  · simp [p1, f__law_pick, evS, evSs, evX, evAnd, evVs, varOf, bor, look, asD, asB, opt, Vw.at, stC, idxV, Vw.seq, ixN, Rv.vw, Rv.dat, cmpD, eqD, okD, D.ok, D.oks, D.beq, Vw.dat, biV, lenV, isNil, hb]
theorem pick_take (cs : Cs) (L : List D) (a : Nat) (c l z : Int) (ha : a < L.length) (hz : L[a]? = some (.int z)) (h0 : 0 ≤ c) (h1 : c < 2 ^ 32) :
    ∃ (b c' : Int) (y : Sl), evS cs p1 [.cell 0, .val (.int l), .un, .un] [stC L a 0 c] = .ok (.nx [.cell 0, .val (.int l), y, .un]) [stC L ((a : Int) + 1) b c'] ∧ 0 ≤ b ∧ 0 ≤ c' ∧ c' < 2 ^ 32 := by
  have hm := mul_small h0 h1
  have hg : L[a] = .int z := by
    have := List.getElem?_eq_some_iff.mp hz
    exact this.2
  generalize hq : (if z < 0 then -z else z) = q
  have hq0 : 0 ≤ q := by rw [← hq]; split <;> omega
  by_cases hb : 1000000000000000000 ≤ q
  · refine ⟨q, c, .val (.int q), ?_, hq0, h0, h1⟩
    simp [p1, f__law_pick, evS, evSs, evX, evAnd, evVs, varOf, bor, look, asD, asB, opt, Vw.at, stC, idxV, Vw.seq, ixN, Rv.vw, Rv.dat, cmpD, eqD, okD, D.ok, D.oks, D.beq, Vw.dat, biV, lenV, isNil, ha, hz, hg, hq, hb, getC, setC, putC, binV, intOp, powOk]
  · refine ⟨0, (c * 48271 + q) % 2147483646 + 1, .val (.int q), ?_, by omega, by omega, by omega⟩
    simp [p1, f__law_pick, evS, evSs, evX, evAnd, evVs, varOf, bor, look, asD, asB, opt, Vw.at, stC, idxV, Vw.seq, ixN, Rv.vw, Rv.dat, cmpD, eqD, okD, D.ok, D.oks, D.beq, Vw.dat, biV, lenV, isNil, ha, hz, hg, hq, hb, getC, setC, putC, binV, intOp, powOk, hm]
theorem pick_big (cs : Cs) (L : List D) (a b c l : Int) (y : Sl) (hb : 0 < b) (hl : 0 < l) (hd : divOk l = true) :
    evS cs p2 [.cell 0, .val (.int l), y, .un] [stC L a b c] = .ok (.ret (.d (.int (b % l)))) [stC L a (b / l) c] := by
  simp [p2, f__law_pick, evS, evSs, evX, evVs, varOf, bor, look, asD, asB, opt, Vw.at, stC, idxV, Vw.seq, ixN, Rv.vw, Rv.dat, cmpD, biV, getC, setC, putC, binV, intOp, hb, hl, hd]
theorem pick_skip (cs : Cs) (L : List D) (a c l : Int) (b : Int) (y : Sl) (hb : ¬ 0 < b) :
    evS cs p2 [.cell 0, .val (.int l), y, .un] [stC L a b c] = .ok (.nx [.cell 0, .val (.int l), y, .un]) [stC L a b c] := by
  simp [p2, f__law_pick, evS, evSs, evX, varOf, bor, look, asD, asB, opt, Vw.at, stC, idxV, Vw.seq, ixN, Rv.vw, Rv.dat, cmpD, hb]
theorem pick_end (cs : Cs) (L : List D) (a b c l : Int) (y : Sl) (hl : 0 < l) (h0 : 0 ≤ c) (h1 : c < 2 ^ 32) :
    ∃ d c' : Int, evSs cs p3 [.cell 0, .val (.int l), y, .un] [stC L a b c] = .ok (.ret (.d (.int d))) [stC L a b c'] ∧ 0 ≤ d ∧ d < l ∧ 0 ≤ c' ∧ c' < 2 ^ 32 := by
  have hm := mul_small h0 h1
  generalize hc : c * 48271 % 2147483647 = c'
  have c0 : 0 ≤ c' := by omega
  have c1 : c' < 2 ^ 32 := by omega
  have hm2 : mulOk c' c' = true := by
    unfold mulOk
    have : c'.natAbs.log2 < 32 := log_small (by omega) (by decide)
    exact decide_eq_true (by omega)
  have hd5 : divOk 5 = true := by decide +kernel
  refine ⟨(c' / 5 + c' * c' % 2147483629) % l, c', ?_, Int.emod_nonneg _ (by omega), Int.emod_lt_of_pos _ hl, c0, c1⟩
  simp [p3, f__law_pick, evS, evSs, evX, evVs, varOf, bor, look, asD, asB, opt, Vw.at, stC, idxV, Vw.seq, ixN, Rv.vw, Rv.dat, biV, getC, setC, putC, binV, intOp, hl, hm, hc, hm2, hd5]
/-- the memory at the law's level: its state alone -/
def StG (L : List D) (m : Mem) : Prop := ∃ (a : Nat) (b c : Int), m = [stC L a b c] ∧ 0 ≤ b ∧ 0 ≤ c ∧ c < 2 ^ 32
theorem run_ret' {cs : Cs} {fn : Fn} {as : List Ar} {m m1 : Mem} {v : Rv} (hi : fn.ini = false) (hl : as.length = fn.np) (h : evSs cs fn.body (entry fn as) m = .ok (.ret v) m1) (hm : m1.length = m.length) : runF cs fn as m = .ok v m1 := by
  unfold runF
  rw [if_pos (by rw [hi]; simpa using hl), h, hi]
  show R.ok v (m1.take m.length) = _
  rw [← hm, List.take_length]
theorem pick_tail (cs : Cs) (L : List D) (a : Nat) (b c l : Int) (y : Sl) (hb : 0 ≤ b) (hl : 0 < l) (hd : divOk l = true) (h0 : 0 ≤ c) (h1 : c < 2 ^ 32) :
    ∃ d m', evSs cs (.cons p2 p3) [.cell 0, .val (.int l), y, .un] [stC L a b c] = .ok (.ret (.d (.int d))) m' ∧ 0 ≤ d ∧ d < l ∧ StG L m' := by
  by_cases h : 0 < b
  · refine ⟨b % l, _, ?_, Int.emod_nonneg _ (by omega), Int.emod_lt_of_pos _ hl, a, b / l, c, rfl, Int.ediv_nonneg hb (by omega), h0, h1⟩
    show (evS cs p2 _ _).bind _ = _
    rw [pick_big cs L a b c l y h hl hd]
    rfl
  · obtain ⟨d, c', e, h2, h3, h4, h5⟩ := pick_end cs L a b c l y hl h0 h1
    refine ⟨d, _, ?_, h2, h3, a, b, c', rfl, hb, h4, h5⟩
    show (evS cs p2 _ _).bind _ = _
    rw [pick_skip cs L a c l b y h]
    exact e
theorem pick_run (cs : Cs) {ns : List Int} {m : Mem} (hm : StG (ns.map .int) m) {l : Int} (hl : 0 < l) (hd : divOk l = true) :
    ∃ d m', runF cs f__law_pick [.c 0, .d (.int l)] m = .ok (.d (.int d)) m' ∧ 0 ≤ d ∧ d < l ∧ StG (ns.map .int) m' := by
  obtain ⟨a, b, c, rfl, hb, h0, h1⟩ := hm
  have len : ∀ {m'}, StG (ns.map .int) m' → m'.length = ([stC (ns.map .int) a b c] : Mem).length := fun {m'} ⟨a, b, c, e, _⟩ => by rw [e]; rfl
  by_cases h : b = 0 ∧ a < ns.length
  · obtain ⟨rfl, ha⟩ := h
    obtain ⟨b', c', y, e, g1, g2, g3⟩ := pick_take cs (ns.map .int) a c l ns[a] (by simpa using ha) (by simp [ha]) h0 h1
    obtain ⟨d, m', e2, k1, k2, k3⟩ := pick_tail cs (ns.map .int) (a + 1) b' c' l y g1 hl hd g2 g3
    refine ⟨d, m', run_ret' rfl rfl ?_ (len k3), k1, k2, k3⟩
    show (evS cs p1 [.cell 0, .val (.int l), .un, .un] [stC (ns.map .int) a 0 c]).bind _ = _
    rw [e]
    exact e2
  · obtain ⟨d, m', e2, k1, k2, k3⟩ := pick_tail cs (ns.map .int) a b c l .un hb hl hd h0 h1
    refine ⟨d, m', run_ret' rfl rfl ?_ (len k3), k1, k2, k3⟩
    show (evS cs p1 [.cell 0, .val (.int l), .un, .un] [stC (ns.map .int) a b c]).bind _ = _
    rw [pick_keep cs (ns.map .int) a b c l (by simpa using h)]
    exact e2
end Ev
namespace Ev
/-- the law's memory: its state alone -/
def StU (ns : List Int) (_ : Unit) (m : Mem) : Prop := StG (ns.map .int) m
theorem stu_len {ns : List Int} (s s' : Unit) (m m' : Mem) (h : StU ns s m) (h' : StU ns s' m') : m'.length = m.length := by
  obtain ⟨_, _, _, rfl, _⟩ := h
  obtain ⟨_, _, _, rfl, _⟩ := h'
  rfl
theorem C_pick {fns : List Fn} {w i : Nat} (hf : fns[i]? = some f__law_pick) {L : List Int} : ∀ (k : Nat), 3 ≤ k → ∀ (l : Int), FM (StU L) (callN fns w k) i [.c 0, .d (eI l)] eI (pickM l)
  | 0, hk, l => absurd hk (by omega)
  | k + 1, hk, l => fun s k' ⟨h1, h2, h3⟩ m hm => by
    obtain ⟨d, m', e, d0, d1, hm'⟩ := pick_run ⟨callN fns w k, callN fns w (k - 1), w⟩ hm h1 h2
    exact ⟨.d (.int d), m', d, (), (call_eq hf _ _).trans e, stu_len (ns := L) () () m m' hm hm', hm', rfl, h3 d d0 d1⟩
end Ev

namespace Ev
open PySem
open L2 (ixN)
open HT (sIx lexLt)
theorem C__law_pick {L : List Int} : ∀ (k : Nat), 3 ≤ k → ∀ (l : Int), FM (StU L) (callN fns wF k) 19 [.c 0, .d (eI l)] eI (pickM l) := C_pick rfl
def S__law_numbers (p_here : (List Int)) (p_bound : Int) : M Unit Bool := (M.opt (((N_least_asked p_here (7 : Int)).bind fun v1 => ((rngG 0 (5 : Int)).bind fun v2 => ((forO (fun (x3 : Int) (s4 : Unit) => (((N_can_tell p_here x3).bind fun v9 => ((andO (some v1.isSome) (((v1).bind fun v10 => some (decide (v10 ≤ x3))))).bind fun v11 => if (decide (v9 ≠ v11) || (v9 && (decide ((1 : Int) < p_here.sum) && decide (x3 < p_bound)))) = true then some (Lp.ret false) else ((andO (some (decide (p_here.sum < (4 : Int)))) (andO (some (decide (x3 < (4 : Int)))) (((S__law_can 12 p_here x3).bind fun v12 => some (decide (v9 ≠ v12)))))).bind fun v13 => some (if v13 = true then (Lp.ret false) else (Lp.nx ()))))) : Option (Lp Unit Bool))) v2 ()).bind (lpK (fun (s5 : Unit) => if (decide ((p_here.length : Int) = (1 : Int)) && (decide ((0 : Int) < p_here.sum) && decide (v1 ≠ (some p_bound)))) = true then some false else ((orO (some v1.isNone) (orO (some (decide (v1 = (some (0 : Int))))) (((v1).bind fun v6 => ((N_least_asked p_here (v6 - (1 : Int))).bind fun v7 => some v7.isNone))))).bind fun v8 => some v8)) (fun r => r)))))))
theorem C__law_numbers {L : List Int} : ∀ (k : Nat), 18 ≤ k → ∀ (p_here : (List Int)) (p_bound : Int), FM (StU L) (callN fns wF k) 25 [.c 0, .d ((eT eI) p_here), .d (eI p_bound)] eB (S__law_numbers p_here p_bound)
  | 0, hk, p_here, p_bound => absurd hk (by omega)
  | k + 1, hk, p_here, p_bound => by
    unfold S__law_numbers
    refine FM.of (e := eB) rfl rfl rfl stu_len ?_
    show WM _ _ _ [.cell 0, .val ((eT eI) p_here), .val (eI p_bound), .un, .un, .un] _ _
    exact (WM.of (W.bind fun v1 hv1 => (W.asg (env1 := [.cell 0, .val ((eT eI) p_here), .val (eI p_bound), .val ((eO eI) v1), .un, .un]) (X.at (e := (eO eI)) (x := v1) (X.call (As.cons (d := ((eT eI) p_here)) (X.var (d := (eT eI) p_here) rfl) (As.cons (d := (eI (7 : Int))) (X.int 7) As.nil)) (CN_least_asked k (by omega) p_here (7 : Int))) hv1) rfl (W.bind fun v2 hv2 => (W.for (g := (fun (x3 : Int) (s4 : Unit) => (((N_can_tell p_here x3).bind fun v9 => ((andO (some v1.isSome) (((v1).bind fun v10 => some (decide (v10 ≤ x3))))).bind fun v11 => if (decide (v9 ≠ v11) || (v9 && (decide ((1 : Int) < p_here.sum) && decide (x3 < p_bound)))) = true then some (Lp.ret false) else ((andO (some (decide (p_here.sum < (4 : Int)))) (andO (some (decide (x3 < (4 : Int)))) (((S__law_can 12 p_here x3).bind fun v12 => some (decide (v9 ≠ v12)))))).bind fun v13 => some (if v13 = true then (Lp.ret false) else (Lp.nx ()))))) : Option (Lp Unit Bool)))) (qr := (qR eB)) (kr := (fun r => r)) (e := eI) (enc := (fun (s4 : Unit) => [.cell 0, .val ((eT eI) p_here), .val (eI p_bound), .val ((eO eI) v1), .un, .un])) (xs := v2) (s0 := ()) (env1 := fun (x3 : Int) (s4 : Unit) => [.cell 0, .val ((eT eI) p_here), .val (eI p_bound), .val ((eO eI) v1), .val (eI x3), .un]) (XI.rngG1 hv2 (X.int 5)) (fun _ _ => rfl) (fun x3 s4 => (W.bind fun v9 hv9 => (W.asg (env1 := [.cell 0, .val ((eT eI) p_here), .val (eI p_bound), .val ((eO eI) v1), .val (eI x3), .val (eB v9)]) (X.at (e := eB) (x := v9) (X.callNew (AsN.cons (d := ((eT eI) p_here)) (X.var (d := (eT eI) p_here) rfl) (AsN.cons (d := (eI x3)) (X.var (d := eI x3) rfl) AsN.last)) (CN_can_tell k (by omega) p_here x3)) hv9) rfl (W.bind fun v11 hv11 => (W.ite (X.orT (XO.consT rfl (X.ne (e := eB) eqv_bool (by decide) (X.bo (X.var (d := eB v9) rfl)) (X.bo (X.at (e := eB) (x := v11) (X.and (XA.cons (u := some v1.isSome) rfl (X.notN (e := eI) (fun _ => rfl) (fun _ => (fun _ k => k.i)) (X.bo (X.var (d := (eO eI) v1) rfl))) (XA.one (u := ((v1).bind fun v10 => some (decide (v10 ≤ x3)))) (X.mbind fun v10 hv10 => (X.le (X.bo (X.unO (e := eI) (X.var (d := (eO eI) v1) rfl) hv10)) (X.bo (X.var (d := eI x3) rfl))))))) hv11))) (XO.oneT (X.andT (XA.consT rfl (X.var (d := eB v9) rfl) (XA.consT rfl (X.gt (X.bo (X.sumT (X.bo (X.var (d := (eT eI) p_here) rfl)))) (X.bo (X.int 1))) (XA.oneT (X.lt (X.bo (X.var (d := eI x3) rfl)) (X.bo (X.var (d := eI p_bound) rfl)))))))))) (fun _ => (W.ret (x := (Lp.ret false)) (X.bl false) (fun rv h => qL_ret (qR_ret h)))) (fun _ => (W.bind fun v13 hv13 => (W.iteT (X.at (e := eB) (x := v13) (X.and (XA.cons (u := some (decide (p_here.sum < (4 : Int)))) rfl (X.lt (X.bo (X.sumT (X.bo (X.var (d := (eT eI) p_here) rfl)))) (X.bo (X.int 4))) (XA.cons (u := some (decide (x3 < (4 : Int)))) rfl (X.lt (X.bo (X.var (d := eI x3) rfl)) (X.bo (X.int 4))) (XA.one (u := ((S__law_can 12 p_here x3).bind fun v12 => some (decide (v9 ≠ v12)))) (X.mbind fun v12 hv12 => (X.ne (e := eB) eqv_bool (by decide) (X.bo (X.var (d := eB v9) rfl)) (X.bo (X.at (e := eB) (x := v12) (X.call (As.cons (d := ((eT eI) p_here)) (X.var (d := (eT eI) p_here) rfl) (As.cons (d := (eI x3)) (X.var (d := eI x3) rfl) As.nil)) (C__law_can 12 k (by omega) p_here x3)) hv12)))))))) hv13) (fun _ => (W.ret (x := (Lp.ret false)) (X.bl false) (fun rv h => qL_ret (qR_ret h)))) (fun _ => (W.fgt (env1 := [.cell 0, .val ((eT eI) p_here), .val (eI p_bound), .val ((eO eI) v1), .un, .val (eB v9)]) rfl (W.fgt (env1 := [.cell 0, .val ((eT eI) p_here), .val (eI p_bound), .val ((eO eI) v1), .un, .un]) rfl (W.nil (x := (Lp.nx ())) (qL_nx rfl))))))))))))) (fun _ _ h => h) fun s5 => (W.ite (X.andT (XA.consT rfl (X.eq (e := eI) eqv_int (by decide) (X.bo (X.len (e := eI) (xs := p_here) (sqT (e := eI) (xs := p_here)) (X.bo (X.var (d := (eT eI) p_here) rfl)))) (X.bo (X.int 1))) (XA.consT rfl (X.gt (X.bo (X.sumT (X.bo (X.var (d := (eT eI) p_here) rfl)))) (X.bo (X.int 0))) (XA.oneT (X.ne (e := (eO eI)) eqv_optI (by decide) (X.bo (X.var (d := (eO eI) v1) rfl)) (X.bo (X.toO (e := eI) (x := p_bound) (X.var (d := eI p_bound) rfl)))))))) (fun _ => (W.ret (x := false) (X.bl false) (fun rv h => qR_ret h))) (fun _ => (W.bind fun v8 hv8 => (W.ret (x := v8) (X.at (e := eB) (x := v8) (X.or (XO.cons (u := some v1.isNone) rfl (X.isN (e := eI) (fun _ => rfl) (fun _ => (fun _ k => k.i)) (X.bo (X.var (d := (eO eI) v1) rfl))) (XO.cons (u := some (decide (v1 = (some (0 : Int))))) rfl (X.eq (e := (eO eI)) eqv_optI (by decide) (X.bo (X.var (d := (eO eI) v1) rfl)) (X.bo (X.toO (e := eI) (x := (0 : Int)) (X.int 0)))) (XO.one (u := ((v1).bind fun v6 => ((N_least_asked p_here (v6 - (1 : Int))).bind fun v7 => some v7.isNone))) (X.mbind fun v6 hv6 => (X.mbind fun v7 hv7 => (X.isN (e := eI) (fun _ => rfl) (fun _ => (fun _ k => k.i)) (X.bo (X.at (e := (eO eI)) (x := v7) (X.call (As.cons (d := ((eT eI) p_here)) (X.var (d := (eT eI) p_here) rfl) (As.cons (d := (eI (v6 - (1 : Int)))) (X.sub (X.bo (X.unO (e := eI) (X.var (d := (eO eI) v1) rfl) hv6)) (X.bo (X.int 1))) As.nil)) (CN_least_asked k (by omega) p_here (v6 - (1 : Int)))) hv7))))))))) hv8) (fun rv h => qR_ret h))))))))))
def S__law_trees (p_here : (List Int)) : M Unit Bool := (M.bind (M.bind (M.ret (2 : Int)) fun x1 => M.bind (pickM (5 : Int)) fun y2 => M.opt ((fun x y => some (x + y)) x1 y2)) fun (d3 : Int) => (M.opt (((N_lie_tree p_here d3).bind fun v4 => ((N_can_tell p_here d3).bind fun v5 => if decide (v4.isNon = v5) = true then some false else if (!v4.isNon) = true then ((S_is_lie_tree 12 p_here d3 v4).bind fun v6 => ((orO (some (!decide (v6 = true))) (((S_is_lie_tree 12 p_here (d3 + (1 : Int)) v4).bind fun v7 => some (!decide (v7 = true))))).bind fun v8 => if v8 = true then some false else ((eqD v4 ((eT eS) ([(⟨#[116, 111, 108, 100]⟩ : Str)] : List Str))).bind fun v9 => if (!v9) = true then ((rngG 0 (p_here.length : Int)).bind fun v10 => ((lenZ (lcM (fun (x11 : Int) => oneO (some true) (((idxZ p_here x11).bind fun v13 => some (v13 + (1 : Int))))) v10)).bind fun v14 => ((toT v4).bind fun v27 => ((toT v4).bind fun v28 => ((catZ v28 ([(eI (0 : Int))] : List D)).bind fun v29 => ((toT v4).bind fun v30 => ((idxD v4 (1 : Int)).bind fun v31 => ((toT v31).bind fun v32 => ((idxD v4 (2 : Int)).bind fun v33 => ((idxD v4 (3 : Int)).bind fun v34 => ((idxD v4 (2 : Int)).bind fun v35 => ((idxD v4 (3 : Int)).bind fun v36 => ((toT v4).bind fun v37 => ((catZ ([(eS (⟨#[110, 111]⟩ : Str))] : List D) (cutL v37 (some (1 : Int)) none)).bind fun v38 => ((lenZ (lcM (fun (x39 : D) => oneO (some true) (S_is_lie_tree 12 p_here d3 x39)) ([((eT eD) (cutL v27 none (some (3 : Int)))), ((eT eD) v29), ((eL eD) v30), (D.tup [(eS (⟨#[97, 115, 107]⟩ : Str)), ((eL eD) v32), v33, v34]), (D.tup [(eS (⟨#[97, 115, 107]⟩ : Str)), ((eT eI) v14), v35, v36]), ((eT eD) v38)] : List D))).bind fun v42 => ((repL ([false] : List Bool) (6 : Int)).bind fun v43 => ((orO (some (decide (v42 ≠ v43))) (((S_is_lie_tree 12 p_here (0 : Int) v4).bind fun v44 => some (!decide (v44 = false))))).bind fun v45 => if v45 = true then some false else ((S_all_asked p_here).bind fun v46 => ((idxD v4 (1 : Int)).bind fun v47 => ((toTI v47).bind fun v48 => if decide (v48 ∉ v46) = true then some false else ((lenZ (lcM (fun (x49 : D) => oneO (some true) (S_is_lie_tree 12 ([(2 : Int)] : List Int) (3 : Int) x49)) ([(eU ()), (D.tup []), ((eL eS) ([(⟨#[116, 111, 108, 100]⟩ : Str)] : List Str)), (D.tup [(eS (⟨#[116, 111, 108, 100]⟩ : Str))]), (D.tup [(eS (⟨#[97, 115, 107]⟩ : Str)), (D.tup [(eB true)]), (D.tup [(eS (⟨#[116, 111, 108, 100]⟩ : Str))]), (D.tup [(eS (⟨#[116, 111, 108, 100]⟩ : Str))])])] : List D))).bind fun v52 => ((repL ([false] : List Bool) (5 : Int)).bind fun v53 => some (decide (v52 = v53)))))))))))))))))))))))) else ((lenZ (lcM (fun (x54 : D) => oneO (some true) (S_is_lie_tree 12 ([(2 : Int)] : List Int) (3 : Int) x54)) ([(eU ()), (D.tup []), ((eL eS) ([(⟨#[116, 111, 108, 100]⟩ : Str)] : List Str)), (D.tup [(eS (⟨#[116, 111, 108, 100]⟩ : Str))]), (D.tup [(eS (⟨#[97, 115, 107]⟩ : Str)), (D.tup [(eB true)]), (D.tup [(eS (⟨#[116, 111, 108, 100]⟩ : Str))]), (D.tup [(eS (⟨#[116, 111, 108, 100]⟩ : Str))])])] : List D))).bind fun v57 => ((repL ([false] : List Bool) (5 : Int)).bind fun v58 => some (decide (v57 = v58))))))) else ((lenZ (lcM (fun (x59 : D) => oneO (some true) (S_is_lie_tree 12 ([(2 : Int)] : List Int) (3 : Int) x59)) ([(eU ()), (D.tup []), ((eL eS) ([(⟨#[116, 111, 108, 100]⟩ : Str)] : List Str)), (D.tup [(eS (⟨#[116, 111, 108, 100]⟩ : Str))]), (D.tup [(eS (⟨#[97, 115, 107]⟩ : Str)), (D.tup [(eB true)]), (D.tup [(eS (⟨#[116, 111, 108, 100]⟩ : Str))]), (D.tup [(eS (⟨#[116, 111, 108, 100]⟩ : Str))])])] : List D))).bind fun v62 => ((repL ([false] : List Bool) (5 : Int)).bind fun v63 => some (decide (v62 = v63)))))))))
theorem C__law_trees {L : List Int} : ∀ (k : Nat), 31 ≤ k → ∀ (p_here : (List Int)), FM (StU L) (callN fns wF k) 26 [.c 0, .d ((eT eI) p_here)] eB (S__law_trees p_here)
  | 0, hk, p_here => absurd hk (by omega)
  | k + 1, hk, p_here => by
    unfold S__law_trees
    refine FM.of (e := eB) rfl rfl rfl stu_len ?_
    show WM _ _ _ [.cell 0, .val ((eT eI) p_here), .un, .un, .un, .un, .un, .un] _ _
    exact (WM.asgM (e := eI) (env1 := fun d3 => [.cell 0, .val ((eT eI) p_here), .val (eI d3), .un, .un, .un, .un, .un]) (XM.bin (r := (fun x y => some (x + y))) (fun _ _ => rfl) (BM.pure (e := eI) (x := (2 : Int)) (X.bo (X.int 2))) (XM.bo rfl (XM.call (As.cell rfl (As.cons (d := (eI (5 : Int))) (X.int 5) As.nil)) (C__law_pick k (by omega) (5 : Int))))) (fun _ => rfl) fun d3 => (WM.of (W.bind fun v4 hv4 => (W.asg (env1 := [.cell 0, .val ((eT eI) p_here), .val (eI d3), .val v4, .un, .un, .un, .un]) (X.at (e := eD) (x := v4) (X.call (As.cons (d := ((eT eI) p_here)) (X.var (d := (eT eI) p_here) rfl) (As.cons (d := (eI d3)) (X.var (d := eI d3) rfl) As.nil)) (CN_lie_tree k (by omega) p_here d3)) hv4) rfl (W.bind fun v5 hv5 => (W.ite (X.eq (e := eB) eqv_bool (by decide) (X.bo (X.isND (XD.var rfl))) (X.bo (X.at (e := eB) (x := v5) (X.callNew (AsN.cons (d := ((eT eI) p_here)) (X.var (d := (eT eI) p_here) rfl) (AsN.cons (d := (eI d3)) (X.var (d := eI d3) rfl) AsN.last)) (CN_can_tell k (by omega) p_here d3)) hv5))) (fun _ => (W.ret (x := false) (X.bl false) (fun rv h => qR_ret h))) (fun _ => (W.ite (X.notND (XD.var rfl)) (fun _ => (W.bind fun v6 hv6 => (W.bind fun v8 hv8 => (W.ite (X.at (e := eB) (x := v8) (X.or (XO.cons (u := some (!decide (v6 = true))) rfl (X.notB (X.bo (X.at (e := eB) (x := v6) (X.call (As.cons (d := ((eT eI) p_here)) (X.var (d := (eT eI) p_here) rfl) (As.cons (d := (eI d3)) (X.var (d := eI d3) rfl) (As.cons (d := v4) (X.var (d := v4) rfl) As.nil))) (C_is_lie_tree 12 k (by omega) p_here d3 v4)) hv6)) (X.bo (X.bl true))) (XO.one (u := ((S_is_lie_tree 12 p_here (d3 + (1 : Int)) v4).bind fun v7 => some (!decide (v7 = true)))) (X.mbind fun v7 hv7 => (X.notB (X.bo (X.at (e := eB) (x := v7) (X.call (As.cons (d := ((eT eI) p_here)) (X.var (d := (eT eI) p_here) rfl) (As.cons (d := (eI (d3 + (1 : Int)))) (X.add (X.bo (X.var (d := eI d3) rfl)) (X.bo (X.int 1))) (As.cons (d := v4) (X.var (d := v4) rfl) As.nil))) (C_is_lie_tree 12 k (by omega) p_here (d3 + (1 : Int)) v4)) hv7)) (X.bo (X.bl true))))))) hv8) (fun _ => (W.ret (x := false) (X.bl false) (fun rv h => qR_ret h))) (fun _ => (W.bind fun v9 hv9 => (W.ite (X.neD (X.bo (X.var (d := v4) rfl)) (X.bo (XL.tup (XL.cons (e := eS) (x := (⟨#[116, 111, 108, 100]⟩ : Str)) (X.str ⟨#[116, 111, 108, 100]⟩) (XL.nil (e := eS))))) hv9) (fun _ => (W.bind fun v10 hv10 => (W.bind fun v14 hv14 => (W.asg (env1 := [.cell 0, .val ((eT eI) p_here), .val (eI d3), .val v4, .val ((eT eI) v14), .un, .un, .un]) (X.tuple (e := eI) (xs := v14) (sqL (e := eI) (xs := v14)) (X.bo (XF.x1 (e := eI) (xs := v14) (XF.at (XF.lcO (u := fun (x11 : Int) => some true) (g := fun (x11 : Int) => ((idxZ p_here x11).bind fun v13 => some (v13 + (1 : Int)))) (e := eI) (f := eI) (xs := v10) (env1 := (fun (x11 : Int) => [.cell 0, .val ((eT eI) p_here), .val (eI d3), .val v4, .un, .un, .un, .val (eI x11)])) (XI.rngG1 hv10 (X.len (e := eI) (xs := p_here) (sqT (e := eI) (xs := p_here)) (X.bo (X.var (d := (eT eI) p_here) rfl)))) (fun _ => rfl) (fun x11 => XC.no) fun x11 _ => (X.mbind fun v13 hv13 => (X.add (X.bo (X.at (e := eI) (x := v13) (X.idx (e := eI) (sqT (e := eI) (xs := p_here)) (X.bo (X.var (d := (eT eI) p_here) rfl)) (X.var (d := eI x11) rfl)) hv13)) (X.bo (X.int 1))))) hv14)))) rfl (W.bind fun v27 hv27 => (W.bind fun v28 hv28 => (W.bind fun v29 hv29 => (W.bind fun v30 hv30 => (W.bind fun v31 hv31 => (W.bind fun v32 hv32 => (W.bind fun v33 hv33 => (W.bind fun v34 hv34 => (W.bind fun v35 hv35 => (W.bind fun v36 hv36 => (W.bind fun v37 hv37 => (W.bind fun v38 hv38 => (W.asg (env1 := [.cell 0, .val ((eT eI) p_here), .val (eI d3), .val v4, .val ((eT eI) v14), .val ((eL eD) ([((eT eD) (cutL v27 none (some (3 : Int)))), ((eT eD) v29), ((eL eD) v30), (D.tup [(eS (⟨#[97, 115, 107]⟩ : Str)), ((eL eD) v32), v33, v34]), (D.tup [(eS (⟨#[97, 115, 107]⟩ : Str)), ((eT eI) v14), v35, v36]), ((eT eD) v38)] : List D)), .un, .un]) (XF.x1 (e := eD) (xs := ([((eT eD) (cutL v27 none (some (3 : Int)))), ((eT eD) v29), ((eL eD) v30), (D.tup [(eS (⟨#[97, 115, 107]⟩ : Str)), ((eL eD) v32), v33, v34]), (D.tup [(eS (⟨#[97, 115, 107]⟩ : Str)), ((eT eI) v14), v35, v36]), ((eT eD) v38)] : List D)) (XL.lst (XL.cons (e := eD) (x := ((eT eD) (cutL v27 none (some (3 : Int))))) (X.slcT (e := eD) (xs := v27) (X.bo (X.toT (X.var (d := v4) rfl) hv27)) XP.no (XP.x (X.int 3))) (XL.cons (e := eD) (x := ((eT eD) v29)) (X.at (e := (eT eD)) (x := v29) (X.catT (e := eD) (X.bo (X.toT (X.var (d := v4) rfl) hv28)) (X.bo (XL.tup (XL.cons (e := eD) (x := (eI (0 : Int))) (X.int 0) (XL.nil (e := eD)))))) hv29) (XL.cons (e := eD) (x := ((eL eD) v30)) (XF.x1 (e := eD) (xs := v30) (XF.list (e := eD) (xs := v30) (sqT (e := eD) (xs := v30)) (X.bo (X.toT (X.var (d := v4) rfl) hv30)))) (XL.cons (e := eD) (x := (D.tup [(eS (⟨#[97, 115, 107]⟩ : Str)), ((eL eD) v32), v33, v34])) (X.tup (Xs.cons (X.str ⟨#[97, 115, 107]⟩) (Xs.cons (XF.x1 (e := eD) (xs := v32) (XF.list (e := eD) (xs := v32) (sqT (e := eD) (xs := v32)) (X.bo (X.toT (X.idxD (X.bo (X.var (d := v4) rfl)) (X.int 1) hv31) hv32)))) (Xs.cons (X.idxD (X.bo (X.var (d := v4) rfl)) (X.int 2) hv33) (Xs.cons (X.idxD (X.bo (X.var (d := v4) rfl)) (X.int 3) hv34) Xs.nil))))) (XL.cons (e := eD) (x := (D.tup [(eS (⟨#[97, 115, 107]⟩ : Str)), ((eT eI) v14), v35, v36])) (X.tup (Xs.cons (X.str ⟨#[97, 115, 107]⟩) (Xs.cons (X.var (d := (eT eI) v14) rfl) (Xs.cons (X.idxD (X.bo (X.var (d := v4) rfl)) (X.int 2) hv35) (Xs.cons (X.idxD (X.bo (X.var (d := v4) rfl)) (X.int 3) hv36) Xs.nil))))) (XL.cons (e := eD) (x := ((eT eD) v38)) (X.at (e := (eT eD)) (x := v38) (X.catT (e := eD) (X.bo (XL.tup (XL.cons (e := eD) (x := (eS (⟨#[110, 111]⟩ : Str))) (X.str ⟨#[110, 111]⟩) (XL.nil (e := eD))))) (X.bo (X.slcT (e := eD) (xs := v37) (X.bo (X.toT (X.var (d := v4) rfl) hv37)) (XP.x (X.int 1)) XP.no))) hv38) (XL.nil (e := eD)))))))))) rfl (W.bind fun v42 hv42 => (W.bind fun v43 hv43 => (W.bind fun v45 hv45 => (W.ite (X.at (e := eB) (x := v45) (X.or (XO.cons (u := some (decide (v42 ≠ v43))) rfl (X.ne (e := (eL eB)) (eqv_lst eqv_bool) (by decide) (X.bo (XF.x1 (e := eB) (xs := v42) (XF.at (XF.lcO (u := fun (x39 : D) => some true) (g := fun (x39 : D) => S_is_lie_tree 12 p_here d3 x39) (e := eD) (f := eB) (xs := ([((eT eD) (cutL v27 none (some (3 : Int)))), ((eT eD) v29), ((eL eD) v30), (D.tup [(eS (⟨#[97, 115, 107]⟩ : Str)), ((eL eD) v32), v33, v34]), (D.tup [(eS (⟨#[97, 115, 107]⟩ : Str)), ((eT eI) v14), v35, v36]), ((eT eD) v38)] : List D)) (env1 := (fun (x39 : D) => [.cell 0, .val ((eT eI) p_here), .val (eI d3), .val v4, .val ((eT eI) v14), .val ((eL eD) ([((eT eD) (cutL v27 none (some (3 : Int)))), ((eT eD) v29), ((eL eD) v30), (D.tup [(eS (⟨#[97, 115, 107]⟩ : Str)), ((eL eD) v32), v33, v34]), (D.tup [(eS (⟨#[97, 115, 107]⟩ : Str)), ((eT eI) v14), v35, v36]), ((eT eD) v38)] : List D)), .val x39, .un])) (XI.seq (sqL (e := eD) (xs := ([((eT eD) (cutL v27 none (some (3 : Int)))), ((eT eD) v29), ((eL eD) v30), (D.tup [(eS (⟨#[97, 115, 107]⟩ : Str)), ((eL eD) v32), v33, v34]), (D.tup [(eS (⟨#[97, 115, 107]⟩ : Str)), ((eT eI) v14), v35, v36]), ((eT eD) v38)] : List D))) (X.bo (X.var (d := (eL eD) ([((eT eD) (cutL v27 none (some (3 : Int)))), ((eT eD) v29), ((eL eD) v30), (D.tup [(eS (⟨#[97, 115, 107]⟩ : Str)), ((eL eD) v32), v33, v34]), (D.tup [(eS (⟨#[97, 115, 107]⟩ : Str)), ((eT eI) v14), v35, v36]), ((eT eD) v38)] : List D)) rfl))) (fun _ => rfl) (fun x39 => XC.no) fun x39 _ => (X.call (As.cons (d := ((eT eI) p_here)) (X.var (d := (eT eI) p_here) rfl) (As.cons (d := (eI d3)) (X.var (d := eI d3) rfl) (As.cons (d := x39) (X.var (d := x39) rfl) As.nil))) (C_is_lie_tree 12 k (by omega) p_here d3 x39))) hv42))) (X.bo (XF.x1 (e := eB) (xs := v43) (XF.at (XF.repL (e := eB) (XL.lst (XL.cons (e := eB) (x := false) (X.bl false) (XL.nil (e := eB)))) rfl (X.bo (X.int 6))) hv43)))) (XO.one (u := ((S_is_lie_tree 12 p_here (0 : Int) v4).bind fun v44 => some (!decide (v44 = false)))) (X.mbind fun v44 hv44 => (X.notB (X.bo (X.at (e := eB) (x := v44) (X.call (As.cons (d := ((eT eI) p_here)) (X.var (d := (eT eI) p_here) rfl) (As.cons (d := (eI (0 : Int))) (X.int 0) (As.cons (d := v4) (X.var (d := v4) rfl) As.nil))) (C_is_lie_tree 12 k (by omega) p_here (0 : Int) v4)) hv44)) (X.bo (X.bl false))))))) hv45) (fun _ => (W.ret (x := false) (X.bl false) (fun rv h => qR_ret h))) (fun _ => (W.bind fun v46 hv46 => (W.bind fun v47 hv47 => (W.bind fun v48 hv48 => (W.ite (X.notin (e := (eT eI)) (eqv_tup eqv_int) (by decide) (sqL (e := (eT eI)) (xs := v46)) (fun _ k => k.tup) (X.bo (X.toTI (X.idxD (X.bo (X.var (d := v4) rfl)) (X.int 1) hv47) hv48)) (X.bo (X.at (e := (eL (eT eI))) (x := v46) (X.call (As.cons (d := ((eT eI) p_here)) (X.var (d := (eT eI) p_here) rfl) As.nil) (C_all_asked k (by omega) p_here)) hv46))) (fun _ => (W.ret (x := false) (X.bl false) (fun rv h => qR_ret h))) (fun _ => (W.fgt (env1 := [.cell 0, .val ((eT eI) p_here), .val (eI d3), .val v4, .un, .val ((eL eD) ([((eT eD) (cutL v27 none (some (3 : Int)))), ((eT eD) v29), ((eL eD) v30), (D.tup [(eS (⟨#[97, 115, 107]⟩ : Str)), ((eL eD) v32), v33, v34]), (D.tup [(eS (⟨#[97, 115, 107]⟩ : Str)), ((eT eI) v14), v35, v36]), ((eT eD) v38)] : List D)), .un, .un]) rfl (W.fgt (env1 := [.cell 0, .val ((eT eI) p_here), .val (eI d3), .val v4, .un, .un, .un, .un]) rfl (W.bind fun v52 hv52 => (W.bind fun v53 hv53 => (W.ret (x := decide (v52 = v53)) (X.eq (e := (eL eB)) (eqv_lst eqv_bool) (by decide) (X.bo (XF.x1 (e := eB) (xs := v52) (XF.at (XF.lcO (u := fun (x49 : D) => some true) (g := fun (x49 : D) => S_is_lie_tree 12 ([(2 : Int)] : List Int) (3 : Int) x49) (e := eD) (f := eB) (xs := ([(eU ()), (D.tup []), ((eL eS) ([(⟨#[116, 111, 108, 100]⟩ : Str)] : List Str)), (D.tup [(eS (⟨#[116, 111, 108, 100]⟩ : Str))]), (D.tup [(eS (⟨#[97, 115, 107]⟩ : Str)), (D.tup [(eB true)]), (D.tup [(eS (⟨#[116, 111, 108, 100]⟩ : Str))]), (D.tup [(eS (⟨#[116, 111, 108, 100]⟩ : Str))])])] : List D)) (env1 := (fun (x49 : D) => [.cell 0, .val ((eT eI) p_here), .val (eI d3), .val v4, .un, .un, .val x49, .un])) (XI.seq (sqL (e := eD) (xs := ([(eU ()), (D.tup []), ((eL eS) ([(⟨#[116, 111, 108, 100]⟩ : Str)] : List Str)), (D.tup [(eS (⟨#[116, 111, 108, 100]⟩ : Str))]), (D.tup [(eS (⟨#[97, 115, 107]⟩ : Str)), (D.tup [(eB true)]), (D.tup [(eS (⟨#[116, 111, 108, 100]⟩ : Str))]), (D.tup [(eS (⟨#[116, 111, 108, 100]⟩ : Str))])])] : List D))) (X.bo (XF.x1 (e := eD) (xs := ([(eU ()), (D.tup []), ((eL eS) ([(⟨#[116, 111, 108, 100]⟩ : Str)] : List Str)), (D.tup [(eS (⟨#[116, 111, 108, 100]⟩ : Str))]), (D.tup [(eS (⟨#[97, 115, 107]⟩ : Str)), (D.tup [(eB true)]), (D.tup [(eS (⟨#[116, 111, 108, 100]⟩ : Str))]), (D.tup [(eS (⟨#[116, 111, 108, 100]⟩ : Str))])])] : List D)) (XL.lst (XL.cons (e := eD) (x := (eU ())) X.non (XL.cons (e := eD) (x := (D.tup [])) (X.tup Xs.nil) (XL.cons (e := eD) (x := ((eL eS) ([(⟨#[116, 111, 108, 100]⟩ : Str)] : List Str))) (XF.x1 (e := eS) (xs := ([(⟨#[116, 111, 108, 100]⟩ : Str)] : List Str)) (XL.lst (XL.cons (e := eS) (x := (⟨#[116, 111, 108, 100]⟩ : Str)) (X.str ⟨#[116, 111, 108, 100]⟩) (XL.nil (e := eS))))) (XL.cons (e := eD) (x := (D.tup [(eS (⟨#[116, 111, 108, 100]⟩ : Str))])) (X.tup (Xs.cons (X.str ⟨#[116, 111, 108, 100]⟩) Xs.nil)) (XL.cons (e := eD) (x := (D.tup [(eS (⟨#[97, 115, 107]⟩ : Str)), (D.tup [(eB true)]), (D.tup [(eS (⟨#[116, 111, 108, 100]⟩ : Str))]), (D.tup [(eS (⟨#[116, 111, 108, 100]⟩ : Str))])])) (X.tup (Xs.cons (X.str ⟨#[97, 115, 107]⟩) (Xs.cons (X.tup (Xs.cons (X.bl true) Xs.nil)) (Xs.cons (X.tup (Xs.cons (X.str ⟨#[116, 111, 108, 100]⟩) Xs.nil)) (Xs.cons (X.tup (Xs.cons (X.str ⟨#[116, 111, 108, 100]⟩) Xs.nil)) Xs.nil))))) (XL.nil (e := eD))))))))))) (fun _ => rfl) (fun x49 => XC.no) fun x49 _ => (X.call (As.cons (d := ((eT eI) ([(2 : Int)] : List Int))) (XL.tup (XL.cons (e := eI) (x := (2 : Int)) (X.int 2) (XL.nil (e := eI)))) (As.cons (d := (eI (3 : Int))) (X.int 3) (As.cons (d := x49) (X.var (d := x49) rfl) As.nil))) (C_is_lie_tree 12 k (by omega) ([(2 : Int)] : List Int) (3 : Int) x49))) hv52))) (X.bo (XF.x1 (e := eB) (xs := v53) (XF.at (XF.repL (e := eB) (XL.lst (XL.cons (e := eB) (x := false) (X.bl false) (XL.nil (e := eB)))) rfl (X.bo (X.int 5))) hv53)))) (fun rv h => qR_ret h))))))))))))))))))))))))))))))))) (fun _ => (W.bind fun v57 hv57 => (W.bind fun v58 hv58 => (W.ret (x := decide (v57 = v58)) (X.eq (e := (eL eB)) (eqv_lst eqv_bool) (by decide) (X.bo (XF.x1 (e := eB) (xs := v57) (XF.at (XF.lcO (u := fun (x54 : D) => some true) (g := fun (x54 : D) => S_is_lie_tree 12 ([(2 : Int)] : List Int) (3 : Int) x54) (e := eD) (f := eB) (xs := ([(eU ()), (D.tup []), ((eL eS) ([(⟨#[116, 111, 108, 100]⟩ : Str)] : List Str)), (D.tup [(eS (⟨#[116, 111, 108, 100]⟩ : Str))]), (D.tup [(eS (⟨#[97, 115, 107]⟩ : Str)), (D.tup [(eB true)]), (D.tup [(eS (⟨#[116, 111, 108, 100]⟩ : Str))]), (D.tup [(eS (⟨#[116, 111, 108, 100]⟩ : Str))])])] : List D)) (env1 := (fun (x54 : D) => [.cell 0, .val ((eT eI) p_here), .val (eI d3), .val v4, .un, .un, .val x54, .un])) (XI.seq (sqL (e := eD) (xs := ([(eU ()), (D.tup []), ((eL eS) ([(⟨#[116, 111, 108, 100]⟩ : Str)] : List Str)), (D.tup [(eS (⟨#[116, 111, 108, 100]⟩ : Str))]), (D.tup [(eS (⟨#[97, 115, 107]⟩ : Str)), (D.tup [(eB true)]), (D.tup [(eS (⟨#[116, 111, 108, 100]⟩ : Str))]), (D.tup [(eS (⟨#[116, 111, 108, 100]⟩ : Str))])])] : List D))) (X.bo (XF.x1 (e := eD) (xs := ([(eU ()), (D.tup []), ((eL eS) ([(⟨#[116, 111, 108, 100]⟩ : Str)] : List Str)), (D.tup [(eS (⟨#[116, 111, 108, 100]⟩ : Str))]), (D.tup [(eS (⟨#[97, 115, 107]⟩ : Str)), (D.tup [(eB true)]), (D.tup [(eS (⟨#[116, 111, 108, 100]⟩ : Str))]), (D.tup [(eS (⟨#[116, 111, 108, 100]⟩ : Str))])])] : List D)) (XL.lst (XL.cons (e := eD) (x := (eU ())) X.non (XL.cons (e := eD) (x := (D.tup [])) (X.tup Xs.nil) (XL.cons (e := eD) (x := ((eL eS) ([(⟨#[116, 111, 108, 100]⟩ : Str)] : List Str))) (XF.x1 (e := eS) (xs := ([(⟨#[116, 111, 108, 100]⟩ : Str)] : List Str)) (XL.lst (XL.cons (e := eS) (x := (⟨#[116, 111, 108, 100]⟩ : Str)) (X.str ⟨#[116, 111, 108, 100]⟩) (XL.nil (e := eS))))) (XL.cons (e := eD) (x := (D.tup [(eS (⟨#[116, 111, 108, 100]⟩ : Str))])) (X.tup (Xs.cons (X.str ⟨#[116, 111, 108, 100]⟩) Xs.nil)) (XL.cons (e := eD) (x := (D.tup [(eS (⟨#[97, 115, 107]⟩ : Str)), (D.tup [(eB true)]), (D.tup [(eS (⟨#[116, 111, 108, 100]⟩ : Str))]), (D.tup [(eS (⟨#[116, 111, 108, 100]⟩ : Str))])])) (X.tup (Xs.cons (X.str ⟨#[97, 115, 107]⟩) (Xs.cons (X.tup (Xs.cons (X.bl true) Xs.nil)) (Xs.cons (X.tup (Xs.cons (X.str ⟨#[116, 111, 108, 100]⟩) Xs.nil)) (Xs.cons (X.tup (Xs.cons (X.str ⟨#[116, 111, 108, 100]⟩) Xs.nil)) Xs.nil))))) (XL.nil (e := eD))))))))))) (fun _ => rfl) (fun x54 => XC.no) fun x54 _ => (X.call (As.cons (d := ((eT eI) ([(2 : Int)] : List Int))) (XL.tup (XL.cons (e := eI) (x := (2 : Int)) (X.int 2) (XL.nil (e := eI)))) (As.cons (d := (eI (3 : Int))) (X.int 3) (As.cons (d := x54) (X.var (d := x54) rfl) As.nil))) (C_is_lie_tree 12 k (by omega) ([(2 : Int)] : List Int) (3 : Int) x54))) hv57))) (X.bo (XF.x1 (e := eB) (xs := v58) (XF.at (XF.repL (e := eB) (XL.lst (XL.cons (e := eB) (x := false) (X.bl false) (XL.nil (e := eB)))) rfl (X.bo (X.int 5))) hv58)))) (fun rv h => qR_ret h)))))))))))) (fun _ => (W.bind fun v62 hv62 => (W.bind fun v63 hv63 => (W.ret (x := decide (v62 = v63)) (X.eq (e := (eL eB)) (eqv_lst eqv_bool) (by decide) (X.bo (XF.x1 (e := eB) (xs := v62) (XF.at (XF.lcO (u := fun (x59 : D) => some true) (g := fun (x59 : D) => S_is_lie_tree 12 ([(2 : Int)] : List Int) (3 : Int) x59) (e := eD) (f := eB) (xs := ([(eU ()), (D.tup []), ((eL eS) ([(⟨#[116, 111, 108, 100]⟩ : Str)] : List Str)), (D.tup [(eS (⟨#[116, 111, 108, 100]⟩ : Str))]), (D.tup [(eS (⟨#[97, 115, 107]⟩ : Str)), (D.tup [(eB true)]), (D.tup [(eS (⟨#[116, 111, 108, 100]⟩ : Str))]), (D.tup [(eS (⟨#[116, 111, 108, 100]⟩ : Str))])])] : List D)) (env1 := (fun (x59 : D) => [.cell 0, .val ((eT eI) p_here), .val (eI d3), .val v4, .un, .un, .val x59, .un])) (XI.seq (sqL (e := eD) (xs := ([(eU ()), (D.tup []), ((eL eS) ([(⟨#[116, 111, 108, 100]⟩ : Str)] : List Str)), (D.tup [(eS (⟨#[116, 111, 108, 100]⟩ : Str))]), (D.tup [(eS (⟨#[97, 115, 107]⟩ : Str)), (D.tup [(eB true)]), (D.tup [(eS (⟨#[116, 111, 108, 100]⟩ : Str))]), (D.tup [(eS (⟨#[116, 111, 108, 100]⟩ : Str))])])] : List D))) (X.bo (XF.x1 (e := eD) (xs := ([(eU ()), (D.tup []), ((eL eS) ([(⟨#[116, 111, 108, 100]⟩ : Str)] : List Str)), (D.tup [(eS (⟨#[116, 111, 108, 100]⟩ : Str))]), (D.tup [(eS (⟨#[97, 115, 107]⟩ : Str)), (D.tup [(eB true)]), (D.tup [(eS (⟨#[116, 111, 108, 100]⟩ : Str))]), (D.tup [(eS (⟨#[116, 111, 108, 100]⟩ : Str))])])] : List D)) (XL.lst (XL.cons (e := eD) (x := (eU ())) X.non (XL.cons (e := eD) (x := (D.tup [])) (X.tup Xs.nil) (XL.cons (e := eD) (x := ((eL eS) ([(⟨#[116, 111, 108, 100]⟩ : Str)] : List Str))) (XF.x1 (e := eS) (xs := ([(⟨#[116, 111, 108, 100]⟩ : Str)] : List Str)) (XL.lst (XL.cons (e := eS) (x := (⟨#[116, 111, 108, 100]⟩ : Str)) (X.str ⟨#[116, 111, 108, 100]⟩) (XL.nil (e := eS))))) (XL.cons (e := eD) (x := (D.tup [(eS (⟨#[116, 111, 108, 100]⟩ : Str))])) (X.tup (Xs.cons (X.str ⟨#[116, 111, 108, 100]⟩) Xs.nil)) (XL.cons (e := eD) (x := (D.tup [(eS (⟨#[97, 115, 107]⟩ : Str)), (D.tup [(eB true)]), (D.tup [(eS (⟨#[116, 111, 108, 100]⟩ : Str))]), (D.tup [(eS (⟨#[116, 111, 108, 100]⟩ : Str))])])) (X.tup (Xs.cons (X.str ⟨#[97, 115, 107]⟩) (Xs.cons (X.tup (Xs.cons (X.bl true) Xs.nil)) (Xs.cons (X.tup (Xs.cons (X.str ⟨#[116, 111, 108, 100]⟩) Xs.nil)) (Xs.cons (X.tup (Xs.cons (X.str ⟨#[116, 111, 108, 100]⟩) Xs.nil)) Xs.nil))))) (XL.nil (e := eD))))))))))) (fun _ => rfl) (fun x59 => XC.no) fun x59 _ => (X.call (As.cons (d := ((eT eI) ([(2 : Int)] : List Int))) (XL.tup (XL.cons (e := eI) (x := (2 : Int)) (X.int 2) (XL.nil (e := eI)))) (As.cons (d := (eI (3 : Int))) (X.int 3) (As.cons (d := x59) (X.var (d := x59) rfl) As.nil))) (C_is_lie_tree 12 k (by omega) ([(2 : Int)] : List Int) (3 : Int) x59))) hv62))) (X.bo (XF.x1 (e := eB) (xs := v63) (XF.at (XF.repL (e := eB) (XL.lst (XL.cons (e := eB) (x := false) (X.bl false) (XL.nil (e := eB)))) rfl (X.bo (X.int 5))) hv63)))) (fun rv h => qR_ret h)))))))))))))
def S__law_one : M Unit Bool := (M.bind (M.bind (M.ret (2 : Int)) fun x1 => M.bind (pickM (5000 : Int)) fun y2 => M.opt ((fun x y => some (x + y)) x1 y2)) fun (d3 : Int) => (M.bind (pickM (20 : Int)) fun (d4 : Int) => (M.lift (opZ .mul d3 (d4 + (1 : Int))) fun v5 => (M.lift (opZ .shl (1 : Int) d4) fun v6 => (M.lift (opZ .band d3 (1 : Int)) fun v7 => (M.lift (if decide (v7 = (1 : Int)) = true then ((opZ .mul d3 (d4 + (1 : Int))).bind fun v26 => ((opZ .shl (1 : Int) d4).bind fun v27 => some (decide (((v26 + d4) - (1 : Int)) ≤ v27)))) else some (decide (v5 ≤ v6))) fun (s8 : Bool) => (M.lift (S_is_enough_one d3 d4) fun v9 => (M.lift (S__law_same 12 (eB v9) (eB s8)) fun v10 => (if (!v10) = true then (M.opt (some false)) else (M.lift (S_least_one_lie d3) fun v11 => (M.lift (S_is_enough_one d3 v11) fun v12 => (M.lift (orO (some (!decide (v12 = true))) (((S_is_enough_one d3 (v11 - (1 : Int))).bind fun v13 => some (!decide (v13 = false))))) fun v14 => (if v14 = true then (M.opt (some false)) else (M.bind (M.bind (M.ret (2 : Int)) fun x15 => M.bind (pickM (9 : Int)) fun y16 => M.opt ((fun x y => some (x + y)) x15 y16)) fun (d17 : Int) => (M.lift (S_least_one_lie d17) fun v18 => (M.lift (N_least_asked ([d17, (0 : Int)] : List Int) (9 : Int)) fun v19 => (if decide ((some v18) ≠ v19) = true then (M.opt (some false)) else (M.bind (pickM (9 : Int)) fun (d20 : Int) => (M.bind (pickM (5 : Int)) fun (d21 : Int) => (M.opt (((S_repeated d20 d21).bind fun v22 => ((opZ .mul (2 : Int) d21).bind fun v23 => ((opZ .mul d20 (v23 + (1 : Int))).bind fun v24 => ((S__law_same 12 (eI v22) (eI v24)).bind fun v25 => some v25)))))))))))))))))))))))))
theorem C__law_one {L : List Int} : ∀ (k : Nat), 18 ≤ k → FM (StU L) (callN fns wF k) 27 [.c 0] eB (S__law_one)
  | 0, hk => absurd hk (by omega)
  | k + 1, hk => by
    unfold S__law_one
    refine FM.of (e := eB) rfl rfl rfl stu_len ?_
    show WM _ _ _ [.cell 0, .un, .un, .un, .un, .un, .un, .un] _ _
    exact (WM.asgM (e := eI) (env1 := fun d3 => [.cell 0, .val (eI d3), .un, .un, .un, .un, .un, .un]) (XM.bin (r := (fun x y => some (x + y))) (fun _ _ => rfl) (BM.pure (e := eI) (x := (2 : Int)) (X.bo (X.int 2))) (XM.bo rfl (XM.call (As.cell rfl (As.cons (d := (eI (5000 : Int))) (X.int 5000) As.nil)) (C__law_pick k (by omega) (5000 : Int))))) (fun _ => rfl) fun d3 => (WM.asgM (e := eI) (env1 := fun d4 => [.cell 0, .val (eI d3), .val (eI d4), .un, .un, .un, .un, .un]) (XM.call (As.cell rfl (As.cons (d := (eI (20 : Int))) (X.int 20) As.nil)) (C__law_pick k (by omega) (20 : Int))) (fun _ => rfl) fun d4 => (WM.lift fun v5 hv5 => (WM.lift fun v6 hv6 => (WM.asg (env1 := [.cell 0, .val (eI d3), .val (eI d4), .val (eB (decide (v5 ≤ v6))), .un, .un, .un, .un]) (X.le (X.bo (X.at (e := eI) (x := v5) (X.opZ (X.bo (X.var (d := eI d3) rfl)) (X.bo (X.add (X.bo (X.var (d := eI d4) rfl)) (X.bo (X.int 1))))) hv5)) (X.bo (X.at (e := eI) (x := v6) (X.opZ (X.bo (X.int 1)) (X.bo (X.var (d := eI d4) rfl))) hv6))) rfl (WM.lift fun v7 hv7 => (WM.joinP (enc := (fun (s8 : Bool) => [.cell 0, .val (eI d3), .val (eI d4), .val (eB s8), .un, .un, .un, .un])) (X.eq (e := eI) eqv_int (by decide) (X.bo (X.at (e := eI) (x := v7) (X.opZ (X.bo (X.var (d := eI d3) rfl)) (X.bo (X.int 1))) hv7)) (X.bo (X.int 1))) (fun _ => (W.bind fun v26 hv26 => (W.bind fun v27 hv27 => (W.asg (env1 := [.cell 0, .val (eI d3), .val (eI d4), .val (eB (decide (((v26 + d4) - (1 : Int)) ≤ v27))), .un, .un, .un, .un]) (X.le (X.bo (X.sub (X.bo (X.add (X.bo (X.at (e := eI) (x := v26) (X.opZ (X.bo (X.var (d := eI d3) rfl)) (X.bo (X.add (X.bo (X.var (d := eI d4) rfl)) (X.bo (X.int 1))))) hv26)) (X.bo (X.var (d := eI d4) rfl)))) (X.bo (X.int 1)))) (X.bo (X.at (e := eI) (x := v27) (X.opZ (X.bo (X.int 1)) (X.bo (X.var (d := eI d4) rfl))) hv27))) rfl (W.nil (x := decide (((v26 + d4) - (1 : Int)) ≤ v27)) (qN_nx rfl)))))) (fun _ => (W.nil (x := decide (v5 ≤ v6)) (qN_nx rfl))) fun s8 => (WM.lift fun v9 hv9 => (WM.lift fun v10 hv10 => (WM.ite (X.not (X.at (e := eB) (x := v10) (X.call (As.cons (d := (eB v9)) (X.at (e := eB) (x := v9) (X.call (As.cons (d := (eI d3)) (X.var (d := eI d3) rfl) (As.cons (d := (eI d4)) (X.var (d := eI d4) rfl) As.nil)) (C_is_enough_one k (by omega) d3 d4)) hv9) (As.cons (d := (eB s8)) (X.var (d := eB s8) rfl) As.nil)) (C__law_same 12 k (by omega) (eB v9) (eB s8))) hv10)) (WM.of (W.ret (x := false) (X.bl false) (fun rv h => qR_ret h))) (WM.lift fun v11 hv11 => (WM.asg (env1 := [.cell 0, .val (eI d3), .val (eI d4), .val (eB s8), .val (eI v11), .un, .un, .un]) (X.at (e := eI) (x := v11) (X.call (As.cons (d := (eI d3)) (X.var (d := eI d3) rfl) As.nil) (C_least_one_lie k (by omega) d3)) hv11) rfl (WM.lift fun v12 hv12 => (WM.lift fun v14 hv14 => (WM.ite (X.at (e := eB) (x := v14) (X.or (XO.cons (u := some (!decide (v12 = true))) rfl (X.notB (X.bo (X.at (e := eB) (x := v12) (X.call (As.cons (d := (eI d3)) (X.var (d := eI d3) rfl) (As.cons (d := (eI v11)) (X.var (d := eI v11) rfl) As.nil)) (C_is_enough_one k (by omega) d3 v11)) hv12)) (X.bo (X.bl true))) (XO.one (u := ((S_is_enough_one d3 (v11 - (1 : Int))).bind fun v13 => some (!decide (v13 = false)))) (X.mbind fun v13 hv13 => (X.notB (X.bo (X.at (e := eB) (x := v13) (X.call (As.cons (d := (eI d3)) (X.var (d := eI d3) rfl) (As.cons (d := (eI (v11 - (1 : Int)))) (X.sub (X.bo (X.var (d := eI v11) rfl)) (X.bo (X.int 1))) As.nil)) (C_is_enough_one k (by omega) d3 (v11 - (1 : Int)))) hv13)) (X.bo (X.bl false))))))) hv14) (WM.of (W.ret (x := false) (X.bl false) (fun rv h => qR_ret h))) (WM.asgM (e := eI) (env1 := fun d17 => [.cell 0, .val (eI d3), .val (eI d4), .val (eB s8), .val (eI v11), .val (eI d17), .un, .un]) (XM.bin (r := (fun x y => some (x + y))) (fun _ _ => rfl) (BM.pure (e := eI) (x := (2 : Int)) (X.bo (X.int 2))) (XM.bo rfl (XM.call (As.cell rfl (As.cons (d := (eI (9 : Int))) (X.int 9) As.nil)) (C__law_pick k (by omega) (9 : Int))))) (fun _ => rfl) fun d17 => (WM.lift fun v18 hv18 => (WM.lift fun v19 hv19 => (WM.ite (X.ne (e := (eO eI)) eqv_optI (by decide) (X.bo (X.toO (e := eI) (x := v18) (X.at (e := eI) (x := v18) (X.call (As.cons (d := (eI d17)) (X.var (d := eI d17) rfl) As.nil) (C_least_one_lie k (by omega) d17)) hv18))) (X.bo (X.at (e := (eO eI)) (x := v19) (X.call (As.cons (d := ((eT eI) ([d17, (0 : Int)] : List Int))) (XL.tup (XL.cons (e := eI) (x := d17) (X.var (d := eI d17) rfl) (XL.cons (e := eI) (x := (0 : Int)) (X.int 0) (XL.nil (e := eI))))) (As.cons (d := (eI (9 : Int))) (X.int 9) As.nil)) (CN_least_asked k (by omega) ([d17, (0 : Int)] : List Int) (9 : Int))) hv19))) (WM.of (W.ret (x := false) (X.bl false) (fun rv h => qR_ret h))) (WM.asgM (e := eI) (env1 := fun d20 => [.cell 0, .val (eI d3), .val (eI d4), .val (eB s8), .val (eI v11), .val (eI d17), .val (eI d20), .un]) (XM.call (As.cell rfl (As.cons (d := (eI (9 : Int))) (X.int 9) As.nil)) (C__law_pick k (by omega) (9 : Int))) (fun _ => rfl) fun d20 => (WM.asgM (e := eI) (env1 := fun d21 => [.cell 0, .val (eI d3), .val (eI d4), .val (eB s8), .val (eI v11), .val (eI d17), .val (eI d20), .val (eI d21)]) (XM.call (As.cell rfl (As.cons (d := (eI (5 : Int))) (X.int 5) As.nil)) (C__law_pick k (by omega) (5 : Int))) (fun _ => rfl) fun d21 => (WM.of (W.bind fun v22 hv22 => (W.bind fun v23 hv23 => (W.bind fun v24 hv24 => (W.bind fun v25 hv25 => (W.ret (x := v25) (X.at (e := eB) (x := v25) (X.call (As.cons (d := (eI v22)) (X.at (e := eI) (x := v22) (X.call (As.cons (d := (eI d20)) (X.var (d := eI d20) rfl) (As.cons (d := (eI d21)) (X.var (d := eI d21) rfl) As.nil)) (C_repeated k (by omega) d20 d21)) hv22) (As.cons (d := (eI v24)) (X.at (e := eI) (x := v24) (X.opZ (X.bo (X.var (d := eI d20) rfl)) (X.bo (X.add (X.bo (X.at (e := eI) (x := v23) (X.opZ (X.bo (X.int 2)) (X.bo (X.var (d := eI d21) rfl))) hv23)) (X.bo (X.int 1))))) hv24) As.nil)) (C__law_same 12 k (by omega) (eI v22) (eI v24))) hv25) (fun rv h => qR_ret h))))))))))))))))))))))))))))
def S_law : M Unit Bool := (M.bind (pickM (3 : Int)) fun (d1 : Int) => (M.bind (M.bind (M.bind (pickM (7 : Int)) fun j2 => M.opt (rngG 0 j2)) fun z9 => lenM (mapM (fun (x3 : Int) => oneM (M.ret true) (M.bind (M.bind (M.ret x3) fun x6 => M.bind (M.bind (pickM (d1 + (1 : Int))) fun x4 => M.bind (M.ret ()) fun y5 => M.ret (x4, y5)) fun y7 => M.ret (x6, y7)) fun y8 => M.ret (y8.1, y8.2.1))) z9)) fun (d10 : (List (Int × Int))) => (M.lift (S__law_state d10 d1) fun v11 => (M.bind (M.bind (M.ret d10) fun z15 => lenM (mapM (fun (x12 : (Int × Int)) => oneM (M.bind (pickM (2 : Int)) fun x13 => M.bind (M.ret (0 : Int)) fun y14 => M.opt (some (decide (x13 = y14)))) (M.ret x12.1)) z15)) fun (d16 : (List Int)) => (M.lift (filtZ (fun (x17 : (Int × Int)) => decide (x17.1 ∈ d16)) (fun (x17 : (Int × Int)) => x17) d10) fun v18 => (M.lift (S__law_state v18 d1) fun v19 => (M.lift (S__law_after d10 d16 (1 : Int) d1) fun v20 => (M.lift (S__law_state v20 d1) fun v21 => (M.lift (S__law_after d10 d16 (0 : Int) d1) fun v22 => (M.lift (S__law_state v22 d1) fun v23 => (M.lift (S_behind_yes v11 v19) fun v24 => (M.lift (S__law_same 12 ((eT eI) v24) ((eT eI) v21)) fun v25 => (M.lift (orO (some (!v25)) (orO (((S_behind_no v11 v19).bind fun v26 => ((S__law_same 12 ((eT eI) v26) ((eT eI) v23)).bind fun v27 => some (!v27)))) (((S_start_state (5 : Int) d1).bind fun v28 => ((repT ([(0 : Int)] : List Int) d1).bind fun v29 => ((catZ ([(5 : Int)] : List Int) v29).bind fun v30 => some (decide (v28 ≠ v30)))))))) fun v31 => (if v31 = true then (M.opt (some false)) else (M.bind (pickM (6 : Int)) fun (d32 : Int) => (M.lift (rngG 0 (d1 + (1 : Int))) fun v33 => (M.lift (lenZ (lcM (fun (x34 : Int) => oneO (some true) (((idxZ v11 x34).bind fun v38 => ((S__law_ways d32 (d1 - x34)).bind fun v39 => opZ .mul v38 v39)))) v33)) fun v41 => (M.lift (S_volume v11 d32) fun v42 => (M.lift (S__law_same 12 (eI v42) (eI v41.sum)) fun v43 => (M.lift (orO (some (!v43)) (((S_volume v11 (d32 + (1 : Int))).bind fun v44 => ((S_volume v21 d32).bind fun v45 => ((S_volume v23 d32).bind fun v46 => some (decide (v44 ≠ (v45 + v46)))))))) fun v47 => (if v47 = true then (M.opt (some false)) else (M.lift (S_balls d32 d1) fun v48 => (M.lift (S__law_ways d32 d1) fun v49 => (M.lift (S__law_same 12 (eI v48) (eI v49)) fun v50 => (M.lift (orO (some (!v50)) (((S_choose d32 d1).bind fun v51 => ((S__law_ways d32 d1).bind fun v52 => ((S__law_ways d32 (d1 - (1 : Int))).bind fun v54 => ((S__law_same 12 (eI v51) (eI (v52 - (if decide ((0 : Int) < d1) = true then v54 else (0 : Int))))).bind fun v55 => some (!v55))))))) fun v56 => (if v56 = true then (M.opt (some false)) else (M.lift (S_all_asked v11) fun v57 => (M.lift (foldO (fun (x58 : Int) (s59 : (List (List Int))) => ((foldO (fun (x97 : (List Int)) (s98 : (List (List Int))) => ((rngG 0 (x58 + (1 : Int))).bind fun v100 => ((lenZ (lcM (fun (x101 : Int) => oneO (some true) (catZ x97 ([x101] : List Int))) v100)).bind fun v103 => ((catZ s98 v103).bind fun v104 => some v104)))) s59 ([] : List (List Int))).bind fun (s99 : (List (List Int))) => some s99)) v11 ([([] : List Int)] : List (List Int))) fun (s60 : (List (List Int))) => (M.lift (lenZ (lcM (fun (x61 : (List Int)) => oneO (((rngG 0 (d1 + (1 : Int))).bind fun v62 => ((lenZ (lcM (fun (x63 : Int) => oneO (some true) (((idxZ v11 x63).bind fun v64 => ((idxZ x61 x63).bind fun v65 => some (v64 - v65))))) v62)).bind fun v66 => some (lexLe x61 v66)))) (some x61)) s60)) fun v67 => (if decide (v57 ≠ v67) = true then (M.opt (some false)) else (M.lift (S_bound_by_volume v11) fun v68 => (M.lift (S_volume v11 v68) fun v69 => (M.lift (opZ .shl (1 : Int) v68) fun v70 => (M.lift (orO (some (decide (v70 < v69))) (andO (some (decide ((0 : Int) < v68))) (((S_volume v11 (v68 - (1 : Int))).bind fun v71 => ((opZ .shl (1 : Int) (v68 - (1 : Int))).bind fun v72 => some (decide (v71 ≤ v72))))))) fun v74 => (if v74 = true then (M.opt (some false)) else (M.bind (M.bind (M.bind (pickM (4 : Int)) fun j75 => M.opt (rngG 0 j75)) fun z77 => lenM (mapM (fun (x76 : Int) => oneM (M.ret true) (pickM (2 : Int))) z77)) fun (d78 : (List Int)) => (M.bind (forM (fun (x79 : Int) (s80 : ((List (Int × Int)) × (List (List Int)))) => ((M.bind (M.bind (M.ret s80.1) fun z90 => lenM (mapM (fun (x87 : (Int × Int)) => oneM (M.bind (pickM (2 : Int)) fun x88 => M.bind (M.ret (0 : Int)) fun y89 => M.opt (some (decide (x88 = y89)))) (M.ret x87.1)) z90)) fun (d91 : (List Int)) => (M.opt (((filtZ (fun (x92 : (Int × Int)) => decide (x92.1 ∈ d91)) (fun (x92 : (Int × Int)) => x92) s80.1).bind fun v93 => ((S__law_state v93 d1).bind fun v94 => ((snocZ s80.2 v94).bind fun l95 => ((S__law_after s80.1 d91 x79 d1).bind fun v96 => some (Lp.nx (v96, l95))))))))) : M Unit (Lp ((List (Int × Int)) × (List (List Int))) Empty))) d78 (d10, ([] : List (List Int)))) (lpM (fun (s81 : ((List (Int × Int)) × (List (List Int)))) => (M.lift (S_lies_told v11 d78 s81.2) fun v82 => (M.lift (S__law_state s81.1 d1) fun v83 => (if decide (v82 ≠ v83) = true then (M.opt (some false)) else (M.bind (M.bind (S__law_numbers v11 v68) fun x85 => if x85 = true then (M.bind (S__law_trees v11) fun x84 => if x84 = true then S__law_one else (M.ret false)) else (M.ret false)) fun x86 => M.ret x86))))) (fun r => nomatch r)))))))))))))))))))))))))))))))))))))))
theorem C_law (L : List Int) (k : Nat) (hk : 32 ≤ k + 1) : WM (StU L) ⟨callN fns wF k, callN fns wF (k - 1), wF⟩ (stDrop 2 f_law.body) [.un, .cell 0, .un, .un, .un, .un, .un, .un, .un, .un, .un, .un, .un, .un, .un, .un, .un, .un, .un, .un, .un, .un, .un, .un, .un] S_law (qR eB) := by
  unfold S_law
  show WM _ _ _ [.un, .cell 0, .un, .un, .un, .un, .un, .un, .un, .un, .un, .un, .un, .un, .un, .un, .un, .un, .un, .un, .un, .un, .un, .un, .un] _ _
  exact (WM.asgM (e := eI) (env1 := fun d1 => [.un, .cell 0, .val (eI d1), .un, .un, .un, .un, .un, .un, .un, .un, .un, .un, .un, .un, .un, .un, .un, .un, .un, .un, .un, .un, .un, .un]) (XM.call (As.cell rfl (As.cons (d := (eI (3 : Int))) (X.int 3) As.nil)) (C__law_pick k (by omega) (3 : Int))) (fun _ => rfl) fun d1 => (WM.asgM (e := (eL (eP eI eI))) (env1 := fun d10 => [.un, .cell 0, .val (eI d1), .val ((eL (eP eI eI)) d10), .un, .un, .un, .un, .un, .un, .un, .un, .un, .un, .un, .un, .un, .un, .un, .un, .un, .un, .un, .un, .un]) (XMF.x (XMF.lc (e := eI) (f := (eP eI eI)) (env1 := fun (x3 : Int) => [.un, .cell 0, .val (eI d1), .un, .un, .un, .un, .un, .un, .un, .un, .un, .un, .un, .un, .un, .un, .un, .un, .un, .un, .un, .val (eI x3), .un, .un]) (u := fun (x3 : Int) => (M.ret true)) (g := fun (x3 : Int) => (M.bind (M.bind (M.ret x3) fun x6 => M.bind (M.bind (pickM (d1 + (1 : Int))) fun x4 => M.bind (M.ret ()) fun y5 => M.ret (x4, y5)) fun y7 => M.ret (x6, y7)) fun y8 => M.ret (y8.1, y8.2.1))) (IM.rng1 (XM.call (As.cell rfl (As.cons (d := (eI (7 : Int))) (X.int 7) As.nil)) (C__law_pick k (by omega) (7 : Int)))) (fun _ => rfl) (fun x3 => CM.no) fun x3 => (XM.tup (e := (eP eI eI)) (v := fun y8 => (y8.1, y8.2.1)) (XsM.cons (e := eI) (XM.pure (e := eI) (x := x3) (X.var (d := eI x3) rfl)) (XsM.cons (e := eI) (XM.call (As.cell rfl (As.cons (d := (eI (d1 + (1 : Int)))) (X.add (X.bo (X.var (d := eI d1) rfl)) (X.bo (X.int 1))) As.nil)) (C__law_pick k (by omega) (d1 + (1 : Int)))) XsM.nil)) (fun _ => rfl)))) (fun _ => rfl) fun d10 => (WM.lift fun v11 hv11 => (WM.asg (env1 := [.un, .cell 0, .val (eI d1), .val ((eL (eP eI eI)) d10), .val ((eT eI) v11), .un, .un, .un, .un, .un, .un, .un, .un, .un, .un, .un, .un, .un, .un, .un, .un, .un, .un, .un, .un]) (X.at (e := (eT eI)) (x := v11) (X.call (As.cons (d := ((eL (eP eI eI)) d10)) (X.var (d := (eL (eP eI eI)) d10) rfl) (As.cons (d := (eI d1)) (X.var (d := eI d1) rfl) As.nil)) (C__law_state k (by omega) d10 d1)) hv11) rfl (WM.asgM (e := (eL eI)) (env1 := fun d16 => [.un, .cell 0, .val (eI d1), .val ((eL (eP eI eI)) d10), .val ((eT eI) v11), .val ((eL eI) d16), .un, .un, .un, .un, .un, .un, .un, .un, .un, .un, .un, .un, .un, .un, .un, .un, .un, .un, .un]) (XMF.x (XMF.lc (e := (eP eI eI)) (f := eI) (env1 := fun (x12 : (Int × Int)) => [.un, .cell 0, .val (eI d1), .val ((eL (eP eI eI)) d10), .val ((eT eI) v11), .un, .un, .un, .un, .un, .un, .un, .un, .un, .un, .un, .un, .un, .un, .un, .un, .un, .val (eI x12.1), .un, .val (eI x12.2)]) (u := fun (x12 : (Int × Int)) => (M.bind (pickM (2 : Int)) fun x13 => M.bind (M.ret (0 : Int)) fun y14 => M.opt (some (decide (x13 = y14))))) (g := fun (x12 : (Int × Int)) => (M.ret x12.1)) (IM.pure (e := (eP eI eI)) (xs := d10) (XI.seq (sqL (e := (eP eI eI)) (xs := d10)) (X.bo (X.var (d := (eL (eP eI eI)) d10) rfl)))) (fun _ => rfl) (fun x12 => (CM.x rfl (XM.eqI (XM.bo rfl (XM.call (As.cell rfl (As.cons (d := (eI (2 : Int))) (X.int 2) As.nil)) (C__law_pick k (by omega) (2 : Int)))) (BM.pure (e := eI) (x := (0 : Int)) (X.bo (X.int 0)))))) fun x12 => (XM.pure (e := eI) (x := x12.1) (X.var (d := eI x12.1) rfl)))) (fun _ => rfl) fun d16 => (WM.lift fun v18 hv18 => (WM.lift fun v19 hv19 => (WM.asg (env1 := [.un, .cell 0, .val (eI d1), .val ((eL (eP eI eI)) d10), .val ((eT eI) v11), .val ((eL eI) d16), .val ((eT eI) v19), .un, .un, .un, .un, .un, .un, .un, .un, .un, .un, .un, .un, .un, .un, .un, .un, .un, .un]) (X.at (e := (eT eI)) (x := v19) (X.call (As.cons (d := ((eL (eP eI eI)) v18)) (XF.x1 (e := (eP eI eI)) (xs := v18) (XF.at (XF.filt (c := fun (x17 : (Int × Int)) => decide (x17.1 ∈ d16)) (g := fun (x17 : (Int × Int)) => x17) (e := (eP eI eI)) (f := (eP eI eI)) (xs := d10) (env1 := (fun (x17 : (Int × Int)) => [.un, .cell 0, .val (eI d1), .val ((eL (eP eI eI)) d10), .val ((eT eI) v11), .val ((eL eI) d16), .un, .un, .un, .un, .un, .un, .un, .val ((eP eI eI) x17), .un, .un, .un, .un, .un, .un, .un, .un, .un, .un, .un])) (XI.seq (sqL (e := (eP eI eI)) (xs := d10)) (X.bo (X.var (d := (eL (eP eI eI)) d10) rfl))) (fun _ => rfl) (fun x17 => (X.isin (e := eI) eqv_int (by decide) (sqL (e := eI) (xs := d16)) (fun _ k => k.i) (X.bo (X.p0 (e := eI) (f := eI) (p := x17) (X.bo (X.var (d := (eP eI eI) x17) rfl)))) (X.bo (X.var (d := (eL eI) d16) rfl)))) fun x17 => (X.var (d := (eP eI eI) x17) rfl)) hv18)) (As.cons (d := (eI d1)) (X.var (d := eI d1) rfl) As.nil)) (C__law_state k (by omega) v18 d1)) hv19) rfl (WM.lift fun v20 hv20 => (WM.lift fun v21 hv21 => (WM.asg (env1 := [.un, .cell 0, .val (eI d1), .val ((eL (eP eI eI)) d10), .val ((eT eI) v11), .val ((eL eI) d16), .val ((eT eI) v19), .val ((eT eI) v21), .un, .un, .un, .un, .un, .un, .un, .un, .un, .un, .un, .un, .un, .un, .un, .un, .un]) (X.at (e := (eT eI)) (x := v21) (X.call (As.cons (d := ((eL (eP eI eI)) v20)) (X.at (e := (eL (eP eI eI))) (x := v20) (X.call (As.cons (d := ((eL (eP eI eI)) d10)) (X.var (d := (eL (eP eI eI)) d10) rfl) (As.cons (d := ((eL eI) d16)) (X.var (d := (eL eI) d16) rfl) (As.cons (d := (eI (1 : Int))) (X.int 1) (As.cons (d := (eI d1)) (X.var (d := eI d1) rfl) As.nil)))) (C__law_after k (by omega) d10 d16 (1 : Int) d1)) hv20) (As.cons (d := (eI d1)) (X.var (d := eI d1) rfl) As.nil)) (C__law_state k (by omega) v20 d1)) hv21) rfl (WM.lift fun v22 hv22 => (WM.lift fun v23 hv23 => (WM.asg (env1 := [.un, .cell 0, .val (eI d1), .val ((eL (eP eI eI)) d10), .val ((eT eI) v11), .val ((eL eI) d16), .val ((eT eI) v19), .val ((eT eI) v21), .val ((eT eI) v23), .un, .un, .un, .un, .un, .un, .un, .un, .un, .un, .un, .un, .un, .un, .un, .un]) (X.at (e := (eT eI)) (x := v23) (X.call (As.cons (d := ((eL (eP eI eI)) v22)) (X.at (e := (eL (eP eI eI))) (x := v22) (X.call (As.cons (d := ((eL (eP eI eI)) d10)) (X.var (d := (eL (eP eI eI)) d10) rfl) (As.cons (d := ((eL eI) d16)) (X.var (d := (eL eI) d16) rfl) (As.cons (d := (eI (0 : Int))) (X.int 0) (As.cons (d := (eI d1)) (X.var (d := eI d1) rfl) As.nil)))) (C__law_after k (by omega) d10 d16 (0 : Int) d1)) hv22) (As.cons (d := (eI d1)) (X.var (d := eI d1) rfl) As.nil)) (C__law_state k (by omega) v22 d1)) hv23) rfl (WM.fgt (env1 := [.un, .cell 0, .val (eI d1), .val ((eL (eP eI eI)) d10), .val ((eT eI) v11), .un, .val ((eT eI) v19), .val ((eT eI) v21), .val ((eT eI) v23), .un, .un, .un, .un, .un, .un, .un, .un, .un, .un, .un, .un, .un, .un, .un, .un]) rfl (WM.lift fun v24 hv24 => (WM.lift fun v25 hv25 => (WM.lift fun v31 hv31 => (WM.ite (X.at (e := eB) (x := v31) (X.or (XO.cons (u := some (!v25)) rfl (X.not (X.at (e := eB) (x := v25) (X.call (As.cons (d := ((eT eI) v24)) (X.at (e := (eT eI)) (x := v24) (X.call (As.cons (d := ((eT eI) v11)) (X.var (d := (eT eI) v11) rfl) (As.cons (d := ((eT eI) v19)) (X.var (d := (eT eI) v19) rfl) As.nil)) (C_behind_yes k (by omega) v11 v19)) hv24) (As.cons (d := ((eT eI) v21)) (X.var (d := (eT eI) v21) rfl) As.nil)) (C__law_same 12 k (by omega) ((eT eI) v24) ((eT eI) v21))) hv25)) (XO.cons (u := ((S_behind_no v11 v19).bind fun v26 => ((S__law_same 12 ((eT eI) v26) ((eT eI) v23)).bind fun v27 => some (!v27)))) rfl (X.mbind fun v26 hv26 => (X.mbind fun v27 hv27 => (X.not (X.at (e := eB) (x := v27) (X.call (As.cons (d := ((eT eI) v26)) (X.at (e := (eT eI)) (x := v26) (X.call (As.cons (d := ((eT eI) v11)) (X.var (d := (eT eI) v11) rfl) (As.cons (d := ((eT eI) v19)) (X.var (d := (eT eI) v19) rfl) As.nil)) (C_behind_no k (by omega) v11 v19)) hv26) (As.cons (d := ((eT eI) v23)) (X.var (d := (eT eI) v23) rfl) As.nil)) (C__law_same 12 k (by omega) ((eT eI) v26) ((eT eI) v23))) hv27)))) (XO.one (u := ((S_start_state (5 : Int) d1).bind fun v28 => ((repT ([(0 : Int)] : List Int) d1).bind fun v29 => ((catZ ([(5 : Int)] : List Int) v29).bind fun v30 => some (decide (v28 ≠ v30)))))) (X.mbind fun v28 hv28 => (X.mbind fun v29 hv29 => (X.mbind fun v30 hv30 => (X.ne (e := (eT eI)) (eqv_tup eqv_int) (by decide) (X.bo (X.at (e := (eT eI)) (x := v28) (X.call (As.cons (d := (eI (5 : Int))) (X.int 5) (As.cons (d := (eI d1)) (X.var (d := eI d1) rfl) As.nil)) (C_start_state k (by omega) (5 : Int) d1)) hv28)) (X.bo (X.at (e := (eT eI)) (x := v30) (X.catT (e := eI) (X.bo (XL.tup (XL.cons (e := eI) (x := (5 : Int)) (X.int 5) (XL.nil (e := eI))))) (X.bo (X.at (e := (eT eI)) (x := v29) (X.repT (e := eI) (X.bo (XL.tup (XL.cons (e := eI) (x := (0 : Int)) (X.int 0) (XL.nil (e := eI))))) (X.bo (X.var (d := eI d1) rfl))) hv29))) hv30)))))))))) hv31) (WM.of (W.ret (x := false) (X.bl false) (fun rv h => qR_ret h))) (WM.fgt (env1 := [.un, .cell 0, .val (eI d1), .val ((eL (eP eI eI)) d10), .val ((eT eI) v11), .un, .un, .val ((eT eI) v21), .val ((eT eI) v23), .un, .un, .un, .un, .un, .un, .un, .un, .un, .un, .un, .un, .un, .un, .un, .un]) rfl (WM.asgM (e := eI) (env1 := fun d32 => [.un, .cell 0, .val (eI d1), .val ((eL (eP eI eI)) d10), .val ((eT eI) v11), .un, .un, .val ((eT eI) v21), .val ((eT eI) v23), .val (eI d32), .un, .un, .un, .un, .un, .un, .un, .un, .un, .un, .un, .un, .un, .un, .un]) (XM.call (As.cell rfl (As.cons (d := (eI (6 : Int))) (X.int 6) As.nil)) (C__law_pick k (by omega) (6 : Int))) (fun _ => rfl) fun d32 => (WM.lift fun v33 hv33 => (WM.lift fun v41 hv41 => (WM.asg (env1 := [.un, .cell 0, .val (eI d1), .val ((eL (eP eI eI)) d10), .val ((eT eI) v11), .un, .un, .val ((eT eI) v21), .val ((eT eI) v23), .val (eI d32), .val (eI v41.sum), .un, .un, .un, .un, .un, .un, .un, .un, .un, .un, .un, .un, .un, .un]) (X.sum (X.bo (XF.x1 (e := eI) (xs := v41) (XF.at (XF.lcO (u := fun (x34 : Int) => some true) (g := fun (x34 : Int) => ((idxZ v11 x34).bind fun v38 => ((S__law_ways d32 (d1 - x34)).bind fun v39 => opZ .mul v38 v39))) (e := eI) (f := eI) (xs := v33) (env1 := (fun (x34 : Int) => [.un, .cell 0, .val (eI d1), .val ((eL (eP eI eI)) d10), .val ((eT eI) v11), .un, .un, .val ((eT eI) v21), .val ((eT eI) v23), .val (eI d32), .un, .un, .un, .un, .un, .un, .un, .un, .un, .un, .un, .un, .un, .val (eI x34), .un])) (XI.rngG1 hv33 (X.add (X.bo (X.var (d := eI d1) rfl)) (X.bo (X.int 1)))) (fun _ => rfl) (fun x34 => XC.no) fun x34 _ => (X.mbind fun v38 hv38 => (X.mbind fun v39 hv39 => (X.opZ (X.bo (X.at (e := eI) (x := v38) (X.idx (e := eI) (sqT (e := eI) (xs := v11)) (X.bo (X.var (d := (eT eI) v11) rfl)) (X.var (d := eI x34) rfl)) hv38)) (X.bo (X.at (e := eI) (x := v39) (X.call (As.cons (d := (eI d32)) (X.var (d := eI d32) rfl) (As.cons (d := (eI (d1 - x34))) (X.sub (X.bo (X.var (d := eI d1) rfl)) (X.bo (X.var (d := eI x34) rfl))) As.nil)) (C__law_ways k (by omega) d32 (d1 - x34))) hv39)))))) hv41)))) rfl (WM.lift fun v42 hv42 => (WM.lift fun v43 hv43 => (WM.lift fun v47 hv47 => (WM.ite (X.at (e := eB) (x := v47) (X.or (XO.cons (u := some (!v43)) rfl (X.not (X.at (e := eB) (x := v43) (X.call (As.cons (d := (eI v42)) (X.at (e := eI) (x := v42) (X.call (As.cons (d := ((eT eI) v11)) (X.var (d := (eT eI) v11) rfl) (As.cons (d := (eI d32)) (X.var (d := eI d32) rfl) As.nil)) (C_volume k (by omega) v11 d32)) hv42) (As.cons (d := (eI v41.sum)) (X.var (d := eI v41.sum) rfl) As.nil)) (C__law_same 12 k (by omega) (eI v42) (eI v41.sum))) hv43)) (XO.one (u := ((S_volume v11 (d32 + (1 : Int))).bind fun v44 => ((S_volume v21 d32).bind fun v45 => ((S_volume v23 d32).bind fun v46 => some (decide (v44 ≠ (v45 + v46))))))) (X.mbind fun v44 hv44 => (X.mbind fun v45 hv45 => (X.mbind fun v46 hv46 => (X.ne (e := eI) eqv_int (by decide) (X.bo (X.at (e := eI) (x := v44) (X.call (As.cons (d := ((eT eI) v11)) (X.var (d := (eT eI) v11) rfl) (As.cons (d := (eI (d32 + (1 : Int)))) (X.add (X.bo (X.var (d := eI d32) rfl)) (X.bo (X.int 1))) As.nil)) (C_volume k (by omega) v11 (d32 + (1 : Int)))) hv44)) (X.bo (X.add (X.bo (X.at (e := eI) (x := v45) (X.call (As.cons (d := ((eT eI) v21)) (X.var (d := (eT eI) v21) rfl) (As.cons (d := (eI d32)) (X.var (d := eI d32) rfl) As.nil)) (C_volume k (by omega) v21 d32)) hv45)) (X.bo (X.at (e := eI) (x := v46) (X.call (As.cons (d := ((eT eI) v23)) (X.var (d := (eT eI) v23) rfl) (As.cons (d := (eI d32)) (X.var (d := eI d32) rfl) As.nil)) (C_volume k (by omega) v23 d32)) hv46))))))))))) hv47) (WM.of (W.ret (x := false) (X.bl false) (fun rv h => qR_ret h))) (WM.fgt (env1 := [.un, .cell 0, .val (eI d1), .val ((eL (eP eI eI)) d10), .val ((eT eI) v11), .un, .un, .val ((eT eI) v21), .val ((eT eI) v23), .val (eI d32), .un, .un, .un, .un, .un, .un, .un, .un, .un, .un, .un, .un, .un, .un, .un]) rfl (WM.fgt (env1 := [.un, .cell 0, .val (eI d1), .val ((eL (eP eI eI)) d10), .val ((eT eI) v11), .un, .un, .val ((eT eI) v21), .un, .val (eI d32), .un, .un, .un, .un, .un, .un, .un, .un, .un, .un, .un, .un, .un, .un, .un]) rfl (WM.fgt (env1 := [.un, .cell 0, .val (eI d1), .val ((eL (eP eI eI)) d10), .val ((eT eI) v11), .un, .un, .un, .un, .val (eI d32), .un, .un, .un, .un, .un, .un, .un, .un, .un, .un, .un, .un, .un, .un, .un]) rfl (WM.lift fun v48 hv48 => (WM.lift fun v49 hv49 => (WM.lift fun v50 hv50 => (WM.lift fun v56 hv56 => (WM.ite (X.at (e := eB) (x := v56) (X.or (XO.cons (u := some (!v50)) rfl (X.not (X.at (e := eB) (x := v50) (X.call (As.cons (d := (eI v48)) (X.at (e := eI) (x := v48) (X.call (As.cons (d := (eI d32)) (X.var (d := eI d32) rfl) (As.cons (d := (eI d1)) (X.var (d := eI d1) rfl) As.nil)) (C_balls k (by omega) d32 d1)) hv48) (As.cons (d := (eI v49)) (X.at (e := eI) (x := v49) (X.call (As.cons (d := (eI d32)) (X.var (d := eI d32) rfl) (As.cons (d := (eI d1)) (X.var (d := eI d1) rfl) As.nil)) (C__law_ways k (by omega) d32 d1)) hv49) As.nil)) (C__law_same 12 k (by omega) (eI v48) (eI v49))) hv50)) (XO.one (u := ((S_choose d32 d1).bind fun v51 => ((S__law_ways d32 d1).bind fun v52 => ((S__law_ways d32 (d1 - (1 : Int))).bind fun v54 => ((S__law_same 12 (eI v51) (eI (v52 - (if decide ((0 : Int) < d1) = true then v54 else (0 : Int))))).bind fun v55 => some (!v55)))))) (X.mbind fun v51 hv51 => (X.mbind fun v52 hv52 => (X.mbind fun v54 hv54 => (X.mbind fun v55 hv55 => (X.not (X.at (e := eB) (x := v55) (X.call (As.cons (d := (eI v51)) (X.at (e := eI) (x := v51) (X.call (As.cons (d := (eI d32)) (X.var (d := eI d32) rfl) (As.cons (d := (eI d1)) (X.var (d := eI d1) rfl) As.nil)) (C_choose k (by omega) d32 d1)) hv51) (As.cons (d := (eI (v52 - (if decide ((0 : Int) < d1) = true then v54 else (0 : Int))))) (X.sub (X.bo (X.at (e := eI) (x := v52) (X.call (As.cons (d := (eI d32)) (X.var (d := eI d32) rfl) (As.cons (d := (eI d1)) (X.var (d := eI d1) rfl) As.nil)) (C__law_ways k (by omega) d32 d1)) hv52)) (X.bo (X.pick2 (e := eI) (X.bo (XF.xd (XF.lst (Xs.cons (d := (eI (0 : Int))) (X.int 0) (Xs.cons (d := (eI v54)) (X.at (e := eI) (x := v54) (X.call (As.cons (d := (eI d32)) (X.var (d := eI d32) rfl) (As.cons (d := (eI (d1 - (1 : Int)))) (X.sub (X.bo (X.var (d := eI d1) rfl)) (X.bo (X.int 1))) As.nil)) (C__law_ways k (by omega) d32 (d1 - (1 : Int)))) hv54) Xs.nil))))) (X.intB (X.bo (X.gt (X.bo (X.var (d := eI d1) rfl)) (X.bo (X.int 0)))))))) As.nil)) (C__law_same 12 k (by omega) (eI v51) (eI (v52 - (if decide ((0 : Int) < d1) = true then v54 else (0 : Int)))))) hv55))))))))) hv56) (WM.of (W.ret (x := false) (X.bl false) (fun rv h => qR_ret h))) (WM.fgt (env1 := [.un, .cell 0, .val (eI d1), .val ((eL (eP eI eI)) d10), .val ((eT eI) v11), .un, .un, .un, .un, .un, .un, .un, .un, .un, .un, .un, .un, .un, .un, .un, .un, .un, .un, .un, .un]) rfl (WM.lift fun v57 hv57 => (WM.asg (env1 := [.un, .cell 0, .val (eI d1), .val ((eL (eP eI eI)) d10), .val ((eT eI) v11), .un, .un, .un, .un, .un, .un, .val ((eL (eT eI)) v57), .un, .un, .un, .un, .un, .un, .un, .un, .un, .un, .un, .un, .un]) (X.at (e := (eL (eT eI))) (x := v57) (X.call (As.cons (d := ((eT eI) v11)) (X.var (d := (eT eI) v11) rfl) As.nil) (C_all_asked k (by omega) v11)) hv57) rfl (WM.asg (env1 := [.un, .cell 0, .val (eI d1), .val ((eL (eP eI eI)) d10), .val ((eT eI) v11), .un, .un, .un, .un, .un, .un, .val ((eL (eT eI)) v57), .val ((eL (eT eI)) ([([] : List Int)] : List (List Int))), .un, .un, .un, .un, .un, .un, .un, .un, .un, .un, .un, .un]) (XF.x1 (e := (eT eI)) (xs := ([([] : List Int)] : List (List Int))) (XL.lst (XL.cons (e := (eT eI)) (x := ([] : List Int)) (XL.tup (XL.nil (e := eI))) (XL.nil (e := (eT eI)))))) rfl (WM.foldP (g := fun (x58 : Int) (s59 : (List (List Int))) => ((foldO (fun (x97 : (List Int)) (s98 : (List (List Int))) => ((rngG 0 (x58 + (1 : Int))).bind fun v100 => ((lenZ (lcM (fun (x101 : Int) => oneO (some true) (catZ x97 ([x101] : List Int))) v100)).bind fun v103 => ((catZ s98 v103).bind fun v104 => some v104)))) s59 ([] : List (List Int))).bind fun (s99 : (List (List Int))) => some s99)) (e := eI) (enc := (fun (s59 : (List (List Int))) => [.un, .cell 0, .val (eI d1), .val ((eL (eP eI eI)) d10), .val ((eT eI) v11), .un, .un, .un, .un, .un, .un, .val ((eL (eT eI)) v57), .val ((eL (eT eI)) s59), .un, .un, .un, .un, .un, .un, .un, .un, .un, .un, .un, .un])) (xs := v11) (t0 := ([([] : List Int)] : List (List Int))) (env1 := fun (x58 : Int) (s59 : (List (List Int))) => [.un, .cell 0, .val (eI d1), .val ((eL (eP eI eI)) d10), .val ((eT eI) v11), .un, .un, .un, .un, .un, .un, .val ((eL (eT eI)) v57), .val ((eL (eT eI)) s59), .val (eI x58), .un, .un, .un, .un, .un, .un, .un, .un, .un, .un, .un]) (XI.seqZ (sqT (e := eI) (xs := v11)) (X.var (d := (eT eI) v11) rfl)) (fun _ _ => rfl) (fun x58 s59 => (W.asg (env1 := [.un, .cell 0, .val (eI d1), .val ((eL (eP eI eI)) d10), .val ((eT eI) v11), .un, .un, .un, .un, .un, .un, .val ((eL (eT eI)) v57), .val ((eL (eT eI)) s59), .val (eI x58), .un, .un, .un, .un, .un, .val ((eL (eT eI)) ([] : List (List Int))), .un, .un, .un, .un, .un]) (XF.x1 (e := (eT eI)) (xs := ([] : List (List Int))) (XL.lst (XL.nil (e := (eT eI))))) rfl (W.fold (g := fun (x97 : (List Int)) (s98 : (List (List Int))) => ((rngG 0 (x58 + (1 : Int))).bind fun v100 => ((lenZ (lcM (fun (x101 : Int) => oneO (some true) (catZ x97 ([x101] : List Int))) v100)).bind fun v103 => ((catZ s98 v103).bind fun v104 => some v104)))) (e := (eT eI)) (enc := (fun (s98 : (List (List Int))) => [.un, .cell 0, .val (eI d1), .val ((eL (eP eI eI)) d10), .val ((eT eI) v11), .un, .un, .un, .un, .un, .un, .val ((eL (eT eI)) v57), .val ((eL (eT eI)) s59), .val (eI x58), .un, .un, .un, .un, .un, .val ((eL (eT eI)) s98), .un, .un, .un, .un, .un])) (xs := s59) (s0 := ([] : List (List Int))) (env1 := fun (x97 : (List Int)) (s98 : (List (List Int))) => [.un, .cell 0, .val (eI d1), .val ((eL (eP eI eI)) d10), .val ((eT eI) v11), .un, .un, .un, .un, .un, .un, .val ((eL (eT eI)) v57), .val ((eL (eT eI)) s59), .val (eI x58), .un, .un, .un, .un, .un, .val ((eL (eT eI)) s98), .val ((eT eI) x97), .un, .un, .un, .un]) (XI.seqZ (sqL (e := (eT eI)) (xs := s59)) (X.var (d := (eL (eT eI)) s59) rfl)) (fun _ _ => rfl) (fun x97 s98 => (W.bind fun v100 hv100 => (W.bind fun v103 hv103 => (W.bind fun v104 hv104 => (W.asg (env1 := [.un, .cell 0, .val (eI d1), .val ((eL (eP eI eI)) d10), .val ((eT eI) v11), .un, .un, .un, .un, .un, .un, .val ((eL (eT eI)) v57), .val ((eL (eT eI)) s59), .val (eI x58), .un, .un, .un, .un, .un, .val ((eL (eT eI)) v104), .val ((eT eI) x97), .un, .un, .un, .un]) (XF.x1 (e := (eT eI)) (xs := v104) (XF.at (XF.cat (e := (eT eI)) (X.bo (X.var (d := (eL (eT eI)) s98) rfl)) (X.bo (XF.x1 (e := (eT eI)) (xs := v103) (XF.at (XF.lcO (u := fun (x101 : Int) => some true) (g := fun (x101 : Int) => catZ x97 ([x101] : List Int)) (e := eI) (f := (eT eI)) (xs := v100) (env1 := (fun (x101 : Int) => [.un, .cell 0, .val (eI d1), .val ((eL (eP eI eI)) d10), .val ((eT eI) v11), .un, .un, .un, .un, .un, .un, .val ((eL (eT eI)) v57), .val ((eL (eT eI)) s59), .val (eI x58), .un, .un, .un, .un, .un, .val ((eL (eT eI)) s98), .val ((eT eI) x97), .un, .un, .val (eI x101), .un])) (XI.rngG1 hv100 (X.add (X.bo (X.var (d := eI x58) rfl)) (X.bo (X.int 1)))) (fun _ => rfl) (fun x101 => XC.no) fun x101 _ => (X.catT (e := eI) (X.bo (X.var (d := (eT eI) x97) rfl)) (X.bo (XL.tup (XL.cons (e := eI) (x := x101) (X.var (d := eI x101) rfl) (XL.nil (e := eI))))))) hv103)))) hv104)) rfl (W.fgt (env1 := [.un, .cell 0, .val (eI d1), .val ((eL (eP eI eI)) d10), .val ((eT eI) v11), .un, .un, .un, .un, .un, .un, .val ((eL (eT eI)) v57), .val ((eL (eT eI)) s59), .val (eI x58), .un, .un, .un, .un, .un, .val ((eL (eT eI)) v104), .un, .un, .un, .un, .un]) rfl (W.nil (x := v104) (qN_nx rfl)))))))) fun s99 => (W.asg (env1 := [.un, .cell 0, .val (eI d1), .val ((eL (eP eI eI)) d10), .val ((eT eI) v11), .un, .un, .un, .un, .un, .un, .val ((eL (eT eI)) v57), .val ((eL (eT eI)) s99), .val (eI x58), .un, .un, .un, .un, .un, .val ((eL (eT eI)) s99), .un, .un, .un, .un, .un]) (X.var (d := (eL (eT eI)) s99) rfl) rfl (W.fgt (env1 := [.un, .cell 0, .val (eI d1), .val ((eL (eP eI eI)) d10), .val ((eT eI) v11), .un, .un, .un, .un, .un, .un, .val ((eL (eT eI)) v57), .val ((eL (eT eI)) s99), .un, .un, .un, .un, .un, .un, .val ((eL (eT eI)) s99), .un, .un, .un, .un, .un]) rfl (W.fgt (env1 := [.un, .cell 0, .val (eI d1), .val ((eL (eP eI eI)) d10), .val ((eT eI) v11), .un, .un, .un, .un, .un, .un, .val ((eL (eT eI)) v57), .val ((eL (eT eI)) s99), .un, .un, .un, .un, .un, .un, .un, .un, .un, .un, .un, .un]) rfl (W.nil (x := s99) (qN_nx rfl)))))))) fun s60 => (WM.fgt (env1 := [.un, .cell 0, .val (eI d1), .val ((eL (eP eI eI)) d10), .val ((eT eI) v11), .un, .un, .un, .un, .un, .un, .val ((eL (eT eI)) v57), .val ((eL (eT eI)) s60), .un, .un, .un, .un, .un, .un, .un, .un, .un, .un, .un, .un]) rfl (WM.lift fun v67 hv67 => (WM.ite (X.ne (e := (eL (eT eI))) (eqv_lst (eqv_tup eqv_int)) (by decide) (X.bo (X.var (d := (eL (eT eI)) v57) rfl)) (X.bo (XF.x1 (e := (eT eI)) (xs := v67) (XF.at (XF.lcO (u := fun (x61 : (List Int)) => ((rngG 0 (d1 + (1 : Int))).bind fun v62 => ((lenZ (lcM (fun (x63 : Int) => oneO (some true) (((idxZ v11 x63).bind fun v64 => ((idxZ x61 x63).bind fun v65 => some (v64 - v65))))) v62)).bind fun v66 => some (lexLe x61 v66)))) (g := fun (x61 : (List Int)) => some x61) (e := (eT eI)) (f := (eT eI)) (xs := s60) (env1 := (fun (x61 : (List Int)) => [.un, .cell 0, .val (eI d1), .val ((eL (eP eI eI)) d10), .val ((eT eI) v11), .un, .un, .un, .un, .un, .un, .val ((eL (eT eI)) v57), .val ((eL (eT eI)) s60), .un, .un, .un, .un, .un, .un, .un, .val ((eT eI) x61), .un, .un, .un, .un])) (XI.seq (sqL (e := (eT eI)) (xs := s60)) (X.bo (X.var (d := (eL (eT eI)) s60) rfl))) (fun _ => rfl) (fun x61 => (XC.x (X.mbind fun v62 hv62 => (X.mbind fun v66 hv66 => (X.leT (X.bo (X.var (d := (eT eI) x61) rfl)) (X.bo (X.tuple (e := eI) (xs := v66) (sqL (e := eI) (xs := v66)) (X.bo (XF.x1 (e := eI) (xs := v66) (XF.at (XF.lcO (u := fun (x63 : Int) => some true) (g := fun (x63 : Int) => ((idxZ v11 x63).bind fun v64 => ((idxZ x61 x63).bind fun v65 => some (v64 - v65)))) (e := eI) (f := eI) (xs := v62) (env1 := (fun (x63 : Int) => [.un, .cell 0, .val (eI d1), .val ((eL (eP eI eI)) d10), .val ((eT eI) v11), .un, .un, .un, .un, .un, .un, .val ((eL (eT eI)) v57), .val ((eL (eT eI)) s60), .un, .un, .un, .un, .un, .un, .un, .val ((eT eI) x61), .un, .un, .val (eI x63), .un])) (XI.rngG1 hv62 (X.add (X.bo (X.var (d := eI d1) rfl)) (X.bo (X.int 1)))) (fun _ => rfl) (fun x63 => XC.no) fun x63 _ => (X.mbind fun v64 hv64 => (X.mbind fun v65 hv65 => (X.sub (X.bo (X.at (e := eI) (x := v64) (X.idx (e := eI) (sqT (e := eI) (xs := v11)) (X.bo (X.var (d := (eT eI) v11) rfl)) (X.var (d := eI x63) rfl)) hv64)) (X.bo (X.at (e := eI) (x := v65) (X.idx (e := eI) (sqT (e := eI) (xs := x61)) (X.bo (X.var (d := (eT eI) x61) rfl)) (X.var (d := eI x63) rfl)) hv65)))))) hv66)))))))))) fun x61 _ => (X.var (d := (eT eI) x61) rfl)) hv67)))) (WM.of (W.ret (x := false) (X.bl false) (fun rv h => qR_ret h))) (WM.fgt (env1 := [.un, .cell 0, .val (eI d1), .val ((eL (eP eI eI)) d10), .val ((eT eI) v11), .un, .un, .un, .un, .un, .un, .val ((eL (eT eI)) v57), .un, .un, .un, .un, .un, .un, .un, .un, .un, .un, .un, .un, .un]) rfl (WM.fgt (env1 := [.un, .cell 0, .val (eI d1), .val ((eL (eP eI eI)) d10), .val ((eT eI) v11), .un, .un, .un, .un, .un, .un, .val ((eL (eT eI)) v57), .un, .un, .un, .un, .un, .un, .un, .un, .un, .un, .un, .un, .un]) rfl (WM.fgt (env1 := [.un, .cell 0, .val (eI d1), .val ((eL (eP eI eI)) d10), .val ((eT eI) v11), .un, .un, .un, .un, .un, .un, .un, .un, .un, .un, .un, .un, .un, .un, .un, .un, .un, .un, .un, .un]) rfl (WM.lift fun v68 hv68 => (WM.asg (env1 := [.un, .cell 0, .val (eI d1), .val ((eL (eP eI eI)) d10), .val ((eT eI) v11), .un, .un, .un, .un, .un, .un, .un, .un, .un, .val (eI v68), .un, .un, .un, .un, .un, .un, .un, .un, .un, .un]) (X.at (e := eI) (x := v68) (X.call (As.cons (d := ((eT eI) v11)) (X.var (d := (eT eI) v11) rfl) As.nil) (C_bound_by_volume k (by omega) v11)) hv68) rfl (WM.lift fun v69 hv69 => (WM.lift fun v70 hv70 => (WM.lift fun v74 hv74 => (WM.ite (X.at (e := eB) (x := v74) (X.or (XO.cons (u := some (decide (v70 < v69))) rfl (X.gt (X.bo (X.at (e := eI) (x := v69) (X.call (As.cons (d := ((eT eI) v11)) (X.var (d := (eT eI) v11) rfl) (As.cons (d := (eI v68)) (X.var (d := eI v68) rfl) As.nil)) (C_volume k (by omega) v11 v68)) hv69)) (X.bo (X.at (e := eI) (x := v70) (X.opZ (X.bo (X.int 1)) (X.bo (X.var (d := eI v68) rfl))) hv70))) (XO.one (u := andO (some (decide ((0 : Int) < v68))) (((S_volume v11 (v68 - (1 : Int))).bind fun v71 => ((opZ .shl (1 : Int) (v68 - (1 : Int))).bind fun v72 => some (decide (v71 ≤ v72)))))) (X.and (XA.cons (u := some (decide ((0 : Int) < v68))) rfl (X.gt (X.bo (X.var (d := eI v68) rfl)) (X.bo (X.int 0))) (XA.one (u := ((S_volume v11 (v68 - (1 : Int))).bind fun v71 => ((opZ .shl (1 : Int) (v68 - (1 : Int))).bind fun v72 => some (decide (v71 ≤ v72))))) (X.mbind fun v71 hv71 => (X.mbind fun v72 hv72 => (X.le (X.bo (X.at (e := eI) (x := v71) (X.call (As.cons (d := ((eT eI) v11)) (X.var (d := (eT eI) v11) rfl) (As.cons (d := (eI (v68 - (1 : Int)))) (X.sub (X.bo (X.var (d := eI v68) rfl)) (X.bo (X.int 1))) As.nil)) (C_volume k (by omega) v11 (v68 - (1 : Int)))) hv71)) (X.bo (X.at (e := eI) (x := v72) (X.opZ (X.bo (X.int 1)) (X.bo (X.sub (X.bo (X.var (d := eI v68) rfl)) (X.bo (X.int 1))))) hv72))))))))))) hv74) (WM.of (W.ret (x := false) (X.bl false) (fun rv h => qR_ret h))) (WM.asgM (e := (eL eI)) (env1 := fun d78 => [.un, .cell 0, .val (eI d1), .val ((eL (eP eI eI)) d10), .val ((eT eI) v11), .un, .un, .un, .un, .un, .un, .un, .un, .un, .val (eI v68), .val ((eL eI) d78), .un, .un, .un, .un, .un, .un, .un, .un, .un]) (XMF.x (XMF.lc (e := eI) (f := eI) (env1 := fun (x76 : Int) => [.un, .cell 0, .val (eI d1), .val ((eL (eP eI eI)) d10), .val ((eT eI) v11), .un, .un, .un, .un, .un, .un, .un, .un, .un, .val (eI v68), .un, .un, .un, .un, .un, .un, .un, .un, .val (eI x76), .un]) (u := fun (x76 : Int) => (M.ret true)) (g := fun (x76 : Int) => (pickM (2 : Int))) (IM.rng1 (XM.call (As.cell rfl (As.cons (d := (eI (4 : Int))) (X.int 4) As.nil)) (C__law_pick k (by omega) (4 : Int)))) (fun _ => rfl) (fun x76 => CM.no) fun x76 => (XM.call (As.cell rfl (As.cons (d := (eI (2 : Int))) (X.int 2) As.nil)) (C__law_pick k (by omega) (2 : Int))))) (fun _ => rfl) fun d78 => (WM.fgt (env1 := [.un, .cell 0, .val (eI d1), .val ((eL (eP eI eI)) d10), .val ((eT eI) v11), .un, .un, .un, .un, .un, .un, .un, .un, .un, .val (eI v68), .val ((eL eI) d78), .un, .un, .un, .un, .un, .un, .un, .un, .un]) rfl (WM.asg (env1 := [.un, .cell 0, .val (eI d1), .val ((eL (eP eI eI)) d10), .val ((eT eI) v11), .un, .un, .un, .un, .un, .un, .un, .un, .un, .val (eI v68), .val ((eL eI) d78), .val ((eL (eP eI eI)) d10), .un, .un, .un, .un, .un, .un, .un, .un]) (XF.x1 (e := (eP eI eI)) (xs := d10) (XF.list (e := (eP eI eI)) (xs := d10) (sqL (e := (eP eI eI)) (xs := d10)) (X.bo (X.var (d := (eL (eP eI eI)) d10) rfl)))) rfl (WM.fgt (env1 := [.un, .cell 0, .val (eI d1), .un, .val ((eT eI) v11), .un, .un, .un, .un, .un, .un, .un, .un, .un, .val (eI v68), .val ((eL eI) d78), .val ((eL (eP eI eI)) d10), .un, .un, .un, .un, .un, .un, .un, .un]) rfl (WM.asgO (env1 := [.un, .cell 0, .val (eI d1), .un, .val ((eT eI) v11), .un, .un, .un, .un, .un, .un, .un, .un, .un, .val (eI v68), .val ((eL eI) d78), .val ((eL (eP eI eI)) d10), .own (.lst (([] : List (List Int)).map (eT eI))), .un, .un, .un, .un, .un, .un, .un]) (XL.lst (XL.nil (e := (eT eI)))) rfl (WM.for (g := (fun (x79 : Int) (s80 : ((List (Int × Int)) × (List (List Int)))) => ((M.bind (M.bind (M.ret s80.1) fun z90 => lenM (mapM (fun (x87 : (Int × Int)) => oneM (M.bind (pickM (2 : Int)) fun x88 => M.bind (M.ret (0 : Int)) fun y89 => M.opt (some (decide (x88 = y89)))) (M.ret x87.1)) z90)) fun (d91 : (List Int)) => (M.opt (((filtZ (fun (x92 : (Int × Int)) => decide (x92.1 ∈ d91)) (fun (x92 : (Int × Int)) => x92) s80.1).bind fun v93 => ((S__law_state v93 d1).bind fun v94 => ((snocZ s80.2 v94).bind fun l95 => ((S__law_after s80.1 d91 x79 d1).bind fun v96 => some (Lp.nx (v96, l95))))))))) : M Unit (Lp ((List (Int × Int)) × (List (List Int))) Empty)))) (qr := (fun r _ => nomatch r)) (kr := (fun r => nomatch r)) (e := eI) (enc := (fun (s80 : ((List (Int × Int)) × (List (List Int)))) => [.un, .cell 0, .val (eI d1), .un, .val ((eT eI) v11), .un, .un, .un, .un, .un, .un, .un, .un, .un, .val (eI v68), .val ((eL eI) d78), .val ((eL (eP eI eI)) s80.1), .own (.lst (s80.2.map (eT eI))), .un, .un, .un, .un, .un, .un, .un])) (xs := d78) (t0 := (d10, ([] : List (List Int)))) (env1 := fun (x79 : Int) (s80 : ((List (Int × Int)) × (List (List Int)))) => [.un, .cell 0, .val (eI d1), .un, .val ((eT eI) v11), .un, .un, .un, .un, .un, .un, .un, .un, .un, .val (eI v68), .val ((eL eI) d78), .val ((eL (eP eI eI)) s80.1), .own (.lst (s80.2.map (eT eI))), .val (eI x79), .un, .un, .un, .un, .un, .un]) (XI.seqZ (sqL (e := eI) (xs := d78)) (X.var (d := (eL eI) d78) rfl)) (fun _ _ => rfl) (fun x79 s80 => (WM.asgM (e := (eL eI)) (env1 := fun d91 => [.un, .cell 0, .val (eI d1), .un, .val ((eT eI) v11), .un, .un, .un, .un, .un, .un, .un, .un, .un, .val (eI v68), .val ((eL eI) d78), .val ((eL (eP eI eI)) s80.1), .own (.lst (s80.2.map (eT eI))), .val (eI x79), .un, .un, .val ((eL eI) d91), .un, .un, .un]) (XMF.x (XMF.lc (e := (eP eI eI)) (f := eI) (env1 := fun (x87 : (Int × Int)) => [.un, .cell 0, .val (eI d1), .un, .val ((eT eI) v11), .un, .un, .un, .un, .un, .un, .un, .un, .un, .val (eI v68), .val ((eL eI) d78), .val ((eL (eP eI eI)) s80.1), .own (.lst (s80.2.map (eT eI))), .val (eI x79), .un, .un, .un, .val (eI x87.1), .un, .val (eI x87.2)]) (u := fun (x87 : (Int × Int)) => (M.bind (pickM (2 : Int)) fun x88 => M.bind (M.ret (0 : Int)) fun y89 => M.opt (some (decide (x88 = y89))))) (g := fun (x87 : (Int × Int)) => (M.ret x87.1)) (IM.pure (e := (eP eI eI)) (xs := s80.1) (XI.seq (sqL (e := (eP eI eI)) (xs := s80.1)) (X.bo (X.var (d := (eL (eP eI eI)) s80.1) rfl)))) (fun _ => rfl) (fun x87 => (CM.x rfl (XM.eqI (XM.bo rfl (XM.call (As.cell rfl (As.cons (d := (eI (2 : Int))) (X.int 2) As.nil)) (C__law_pick k (by omega) (2 : Int)))) (BM.pure (e := eI) (x := (0 : Int)) (X.bo (X.int 0)))))) fun x87 => (XM.pure (e := eI) (x := x87.1) (X.var (d := eI x87.1) rfl)))) (fun _ => rfl) fun d91 => (WM.of (W.bind fun v93 hv93 => (W.bind fun v94 hv94 => (W.app (e := (eT eI)) (xs := s80.2) (x := v94) (env1 := fun l95 => [.un, .cell 0, .val (eI d1), .un, .val ((eT eI) v11), .un, .un, .un, .un, .un, .un, .un, .un, .un, .val (eI v68), .val ((eL eI) d78), .val ((eL (eP eI eI)) s80.1), .own (.lst (l95.map (eT eI))), .val (eI x79), .un, .un, .val ((eL eI) d91), .un, .un, .un]) rfl (X.at (e := (eT eI)) (x := v94) (X.call (As.cons (d := ((eL (eP eI eI)) v93)) (XF.x1 (e := (eP eI eI)) (xs := v93) (XF.at (XF.filt (c := fun (x92 : (Int × Int)) => decide (x92.1 ∈ d91)) (g := fun (x92 : (Int × Int)) => x92) (e := (eP eI eI)) (f := (eP eI eI)) (xs := s80.1) (env1 := (fun (x92 : (Int × Int)) => [.un, .cell 0, .val (eI d1), .un, .val ((eT eI) v11), .un, .un, .un, .un, .un, .un, .un, .un, .val ((eP eI eI) x92), .val (eI v68), .val ((eL eI) d78), .val ((eL (eP eI eI)) s80.1), .own (.lst (s80.2.map (eT eI))), .val (eI x79), .un, .un, .val ((eL eI) d91), .un, .un, .un])) (XI.seq (sqL (e := (eP eI eI)) (xs := s80.1)) (X.bo (X.var (d := (eL (eP eI eI)) s80.1) rfl))) (fun _ => rfl) (fun x92 => (X.isin (e := eI) eqv_int (by decide) (sqL (e := eI) (xs := d91)) (fun _ k => k.i) (X.bo (X.p0 (e := eI) (f := eI) (p := x92) (X.bo (X.var (d := (eP eI eI) x92) rfl)))) (X.bo (X.var (d := (eL eI) d91) rfl)))) fun x92 => (X.var (d := (eP eI eI) x92) rfl)) hv93)) (As.cons (d := (eI d1)) (X.var (d := eI d1) rfl) As.nil)) (C__law_state k (by omega) v93 d1)) hv94) (fun _ => rfl) fun l95 hl95 => (W.bind fun v96 hv96 => (W.asg (env1 := [.un, .cell 0, .val (eI d1), .un, .val ((eT eI) v11), .un, .un, .un, .un, .un, .un, .un, .un, .un, .val (eI v68), .val ((eL eI) d78), .val ((eL (eP eI eI)) v96), .own (.lst (l95.map (eT eI))), .val (eI x79), .un, .un, .val ((eL eI) d91), .un, .un, .un]) (X.at (e := (eL (eP eI eI))) (x := v96) (X.call (As.cons (d := ((eL (eP eI eI)) s80.1)) (X.var (d := (eL (eP eI eI)) s80.1) rfl) (As.cons (d := ((eL eI) d91)) (X.var (d := (eL eI) d91) rfl) (As.cons (d := (eI x79)) (X.var (d := eI x79) rfl) (As.cons (d := (eI d1)) (X.var (d := eI d1) rfl) As.nil)))) (C__law_after k (by omega) s80.1 d91 x79 d1)) hv96) rfl (W.fgt (env1 := [.un, .cell 0, .val (eI d1), .un, .val ((eT eI) v11), .un, .un, .un, .un, .un, .un, .un, .un, .un, .val (eI v68), .val ((eL eI) d78), .val ((eL (eP eI eI)) v96), .own (.lst (l95.map (eT eI))), .un, .un, .un, .val ((eL eI) d91), .un, .un, .un]) rfl (W.fgt (env1 := [.un, .cell 0, .val (eI d1), .un, .val ((eT eI) v11), .un, .un, .un, .un, .un, .un, .un, .un, .un, .val (eI v68), .val ((eL eI) d78), .val ((eL (eP eI eI)) v96), .own (.lst (l95.map (eT eI))), .un, .un, .un, .un, .un, .un, .un]) rfl (W.nil (x := (Lp.nx (v96, l95))) (qL_nx rfl)))))))))))) (fun r => nomatch r) fun s81 => (WM.fgt (env1 := [.un, .cell 0, .val (eI d1), .un, .val ((eT eI) v11), .un, .un, .un, .un, .un, .un, .un, .un, .un, .val (eI v68), .val ((eL eI) d78), .val ((eL (eP eI eI)) s81.1), .own (.lst (s81.2.map (eT eI))), .un, .un, .un, .un, .un, .un, .un]) rfl (WM.fgt (env1 := [.un, .cell 0, .val (eI d1), .un, .val ((eT eI) v11), .un, .un, .un, .un, .un, .un, .un, .un, .un, .val (eI v68), .val ((eL eI) d78), .val ((eL (eP eI eI)) s81.1), .own (.lst (s81.2.map (eT eI))), .un, .un, .un, .un, .un, .un, .un]) rfl (WM.fgt (env1 := [.un, .cell 0, .val (eI d1), .un, .val ((eT eI) v11), .un, .un, .un, .un, .un, .un, .un, .un, .un, .val (eI v68), .val ((eL eI) d78), .val ((eL (eP eI eI)) s81.1), .own (.lst (s81.2.map (eT eI))), .un, .un, .un, .un, .un, .un, .un]) rfl (WM.fgt (env1 := [.un, .cell 0, .val (eI d1), .un, .val ((eT eI) v11), .un, .un, .un, .un, .un, .un, .un, .un, .un, .val (eI v68), .val ((eL eI) d78), .val ((eL (eP eI eI)) s81.1), .own (.lst (s81.2.map (eT eI))), .un, .un, .un, .un, .un, .un, .un]) rfl (WM.fgt (env1 := [.un, .cell 0, .val (eI d1), .un, .val ((eT eI) v11), .un, .un, .un, .un, .un, .un, .un, .un, .un, .val (eI v68), .val ((eL eI) d78), .val ((eL (eP eI eI)) s81.1), .own (.lst (s81.2.map (eT eI))), .un, .un, .un, .un, .un, .un, .un]) rfl (WM.frz (ds := s81.2.map (eT eI)) (env1 := [.un, .cell 0, .val (eI d1), .un, .val ((eT eI) v11), .un, .un, .un, .un, .un, .un, .un, .un, .un, .val (eI v68), .val ((eL eI) d78), .val ((eL (eP eI eI)) s81.1), .val ((eL (eT eI)) s81.2), .un, .un, .un, .un, .un, .un, .un]) rfl rfl (WM.lift fun v82 hv82 => (WM.lift fun v83 hv83 => (WM.ite (X.ne (e := (eT eI)) (eqv_tup eqv_int) (by decide) (X.bo (X.at (e := (eT eI)) (x := v82) (X.call (As.cons (d := ((eT eI) v11)) (X.var (d := (eT eI) v11) rfl) (As.cons (d := ((eL eI) d78)) (X.var (d := (eL eI) d78) rfl) (As.cons (d := ((eL (eT eI)) s81.2)) (X.var (d := (eL (eT eI)) s81.2) rfl) As.nil))) (C_lies_told k (by omega) v11 d78 s81.2)) hv82)) (X.bo (X.at (e := (eT eI)) (x := v83) (X.call (As.cons (d := ((eL (eP eI eI)) s81.1)) (X.var (d := (eL (eP eI eI)) s81.1) rfl) (As.cons (d := (eI d1)) (X.var (d := eI d1) rfl) As.nil)) (C__law_state k (by omega) s81.1 d1)) hv83))) (WM.of (W.ret (x := false) (X.bl false) (fun rv h => qR_ret h))) (WM.fgt (env1 := [.un, .cell 0, .val (eI d1), .un, .val ((eT eI) v11), .un, .un, .un, .un, .un, .un, .un, .un, .un, .val (eI v68), .un, .val ((eL (eP eI eI)) s81.1), .val ((eL (eT eI)) s81.2), .un, .un, .un, .un, .un, .un, .un]) rfl (WM.fgt (env1 := [.un, .cell 0, .val (eI d1), .un, .val ((eT eI) v11), .un, .un, .un, .un, .un, .un, .un, .un, .un, .val (eI v68), .un, .un, .val ((eL (eT eI)) s81.2), .un, .un, .un, .un, .un, .un, .un]) rfl (WM.fgt (env1 := [.un, .cell 0, .un, .un, .val ((eT eI) v11), .un, .un, .un, .un, .un, .un, .un, .un, .un, .val (eI v68), .un, .un, .val ((eL (eT eI)) s81.2), .un, .un, .un, .un, .un, .un, .un]) rfl (WM.fgt (env1 := [.un, .cell 0, .un, .un, .val ((eT eI) v11), .un, .un, .un, .un, .un, .un, .un, .un, .un, .val (eI v68), .un, .un, .un, .un, .un, .un, .un, .un, .un, .un]) rfl (WM.retM (v := fun (x86 : Bool) => x86) (XM.and (AM.cons rfl (XM.call (As.cell rfl (As.cons (d := ((eT eI) v11)) (X.var (d := (eT eI) v11) rfl) (As.cons (d := (eI v68)) (X.var (d := eI v68) rfl) As.nil))) (C__law_numbers k (by omega) v11 v68)) (AM.cons rfl (XM.call (As.cell rfl (As.cons (d := ((eT eI) v11)) (X.var (d := (eT eI) v11) rfl) As.nil)) (C__law_trees k (by omega) v11)) (AM.one (XM.call (As.cell rfl As.nil) (C__law_one k (by omega) )))))) (fun x86 rv h => qR_ret h))))))))))))))))))))))))))))))))))))))))))))))))))))))))))))))))))))))))))
end Ev
set_option linter.all false
set_option maxRecDepth 100000
namespace Ev
open PySem
/-! facts of the law, state by state -/
def numO (s : List Int) (b : Int) : { o : Option Bool // S__law_numbers s b = M.opt o } := ⟨_, rfl⟩
def treeK (s : List Int) : { f : Int → Option Bool // S__law_trees s = M.bind (M.bind (M.ret (2 : Int)) fun x1 => M.bind (pickM (5 : Int)) fun y2 => M.opt ((fun x y => some (x + y)) x1 y2)) fun d => M.opt (f d) } := ⟨_, rfl⟩
def vecs : Nat → Nat → List (List Nat)
  | 0, _ => [[]]
  | n + 1, s => (List.range (s + 1)).flatMap fun x => (vecs n (s - x)).map (x :: ·)
theorem mem_vecs : ∀ (n s : Nat) (l : List Nat), l.length = n → l.sum ≤ s → l ∈ vecs n s
  | 0, s, l, h, _ => by
    rw [List.eq_nil_of_length_eq_zero h]
    exact List.mem_singleton.mpr rfl
  | n + 1, s, [], h, _ => nomatch h
  | n + 1, s, x :: l, h, hs => by
    rw [List.sum_cons] at hs
    have h : l.length + 1 = n + 1 := h
    exact List.mem_flatMap.mpr ⟨x, List.mem_range.mpr (by omega), List.mem_map.mpr ⟨l, mem_vecs n (s - x) l (by omega) (by omega), rfl⟩⟩
def toZ (l : List Nat) : List Int := l.map fun (x : Nat) => (x : Int)
def bnd (s : List Int) : Int := (S_bound_by_volume s).getD 0
/-- the rows asked -/
def segD (H : List Int) (d1 : Int) : Option Bool := (S_all_asked H).bind fun v57 => (foldO (fun (x58 : Int) (s59 : (List (List Int))) => ((foldO (fun (x97 : (List Int)) (s98 : (List (List Int))) => ((rngG 0 (x58 + (1 : Int))).bind fun v100 => ((lenZ (lcM (fun (x101 : Int) => oneO (some true) (catZ x97 ([x101] : List Int))) v100)).bind fun v103 => ((catZ s98 v103).bind fun v104 => some v104)))) s59 ([] : List (List Int))).bind fun (s99 : (List (List Int))) => some s99)) H ([([] : List Int)] : List (List Int))).bind fun (s60 : (List (List Int))) => (lenZ (lcM (fun (x61 : (List Int)) => oneO (((rngG 0 (d1 + (1 : Int))).bind fun v62 => ((lenZ (lcM (fun (x63 : Int) => oneO (some true) (((idxZ H x63).bind fun v64 => ((idxZ x61 x63).bind fun v65 => some (v64 - v65))))) v62)).bind fun v66 => some (lexLe x61 v66)))) (some x61)) s60)).bind fun v67 => some (decide (v57 ≠ v67))
/-- the bound -/
def segE (H : List Int) : Option Bool := (S_bound_by_volume H).bind fun v68 => (S_volume H v68).bind fun v69 => (opZ .shl (1 : Int) v68).bind fun v70 => orO (some (decide (v70 < v69))) (andO (some (decide ((0 : Int) < v68))) (((S_volume H (v68 - (1 : Int))).bind fun v71 => ((opZ .shl (1 : Int) (v68 - (1 : Int))).bind fun v72 => some (decide (v71 ≤ v72))))))
def chkN (L : Nat) (s : List Int) : Bool := segD s L == some false && segE s == some false && (S_bound_by_volume s).isSome && (numO s (bnd s)).1 == some true
def chkT (s : List Int) : Bool := (List.range 5).all fun d => (treeK s).1 (2 + (d : Int)) == some true
theorem num0 : (vecs 1 6).all (fun v => chkN 0 (toZ v)) = true := by decide +kernel
theorem num1 : (vecs 2 6).all (fun v => chkN 1 (toZ v)) = true := by decide +kernel
theorem num2 : (vecs 3 6).all (fun v => chkN 2 (toZ v)) = true := by decide +kernel
structure StLaw (L : Nat) (s : List Int) : Prop where
  d : segD s L = some false
  e : segE s = some false
  b : S_bound_by_volume s = some (bnd s)
  n : (numO s (bnd s)).1 = some true
theorem chkN_of {L : Nat} {s : List Int} (h : chkN L s = true) : StLaw L s := by
  unfold chkN at h
  rw [Bool.and_eq_true, Bool.and_eq_true, Bool.and_eq_true, beq_iff_eq, beq_iff_eq, beq_iff_eq] at h
  exact ⟨h.1.1.1, h.1.1.2, isSome_get h.1.2, h.2⟩
theorem stLaw {L : Nat} {l : List Nat} (hL : L ≤ 2) (h : l.length = L + 1) (hs : l.sum ≤ 6) : StLaw L (toZ l) := by
  match L, hL, h with
  | 0, _, h => exact chkN_of (List.all_eq_true.mp num0 l (mem_vecs _ _ _ h hs))
  | 1, _, h => exact chkN_of (List.all_eq_true.mp num1 l (mem_vecs _ _ _ h hs))
  | 2, _, h => exact chkN_of (List.all_eq_true.mp num2 l (mem_vecs _ _ _ h hs))
end Ev

set_option linter.all false
set_option maxRecDepth 100000
namespace Ev
open PySem
theorem tree0 : (vecs 1 6).all (fun v => chkT (toZ v)) = true := by decide +kernel
theorem tree1 : (vecs 2 6).all (fun v => chkT (toZ v)) = true := by decide +kernel
theorem tree2 : (vecs 3 6).all (fun v => chkT (toZ v)) = true := by decide +kernel
theorem stTree {L : Nat} {l : List Nat} (hL : L ≤ 2) (h : l.length = L + 1) (hs : l.sum ≤ 6) (d : Nat) (hd : d < 5) : (treeK (toZ l)).1 (2 + (d : Int)) = some true := by
  have : chkT (toZ l) = true := by
    match L, hL, h with
    | 0, _, h => exact List.all_eq_true.mp tree0 l (mem_vecs _ _ _ h hs)
    | 1, _, h => exact List.all_eq_true.mp tree1 l (mem_vecs _ _ _ h hs)
    | 2, _, h => exact List.all_eq_true.mp tree2 l (mem_vecs _ _ _ h hs)
  have := List.all_eq_true.mp this d (List.mem_range.mpr hd)
  rw [beq_iff_eq] at this
  exact this
end Ev

set_option linter.all false
set_option maxRecDepth 100000
namespace Ev
open PySem
/-! cases split by what is asked: how many of each number of lies are in what is asked, and how many not -/
def hOf : List Nat → List Int
  | [a, b] => [((a + b : Nat) : Int)]
  | [a, b, c, d] => [((a + b : Nat) : Int), ((c + d : Nat) : Int)]
  | [a, b, c, d, e, f] => [((a + b : Nat) : Int), ((c + d : Nat) : Int), ((e + f : Nat) : Int)]
  | _ => []
def aOf : List Nat → List Int
  | [a, _] => [(a : Int)]
  | [a, _, c, _] => [(a : Int), (c : Int)]
  | [a, _, c, _, e, _] => [(a : Int), (c : Int), (e : Int)]
  | _ => []
def yOf : List Nat → List Int
  | [a, _] => [(a : Int)]
  | [a, b, c, _] => [(a : Int), ((c + b : Nat) : Int)]
  | [a, b, c, d, e, _] => [(a : Int), ((c + b : Nat) : Int), ((e + d : Nat) : Int)]
  | _ => []
def nOf : List Nat → List Int
  | [_, b] => [(b : Int)]
  | [a, b, _, d] => [(b : Int), ((d + a : Nat) : Int)]
  | [a, b, c, d, _, f] => [(b : Int), ((d + a : Nat) : Int), ((f + c : Nat) : Int)]
  | _ => []
def segA (H A Y N : List Int) (d1 : Int) : Option Bool := (S_behind_yes H A).bind fun v24 => (S__law_same 12 ((eT eI) v24) ((eT eI) Y)).bind fun v25 => orO (some (!v25)) (orO (((S_behind_no H A).bind fun v26 => ((S__law_same 12 ((eT eI) v26) ((eT eI) N)).bind fun v27 => some (!v27)))) (((S_start_state (5 : Int) d1).bind fun v28 => ((repT ([(0 : Int)] : List Int) d1).bind fun v29 => ((catZ ([(5 : Int)] : List Int) v29).bind fun v30 => some (decide (v28 ≠ v30)))))))
def segB (H Y N : List Int) (d1 d32 : Int) : Option Bool := (rngG 0 (d1 + (1 : Int))).bind fun v33 => (lenZ (lcM (fun (x34 : Int) => oneO (some true) (((idxZ H x34).bind fun v38 => ((S__law_ways d32 (d1 - x34)).bind fun v39 => opZ .mul v38 v39)))) v33)).bind fun v41 => (S_volume H d32).bind fun v42 => (S__law_same 12 (eI v42) (eI v41.sum)).bind fun v43 => orO (some (!v43)) (((S_volume H (d32 + (1 : Int))).bind fun v44 => ((S_volume Y d32).bind fun v45 => ((S_volume N d32).bind fun v46 => some (decide (v44 ≠ (v45 + v46)))))))
def segC (d1 d32 : Int) : Option Bool := (S_balls d32 d1).bind fun v48 => (S__law_ways d32 d1).bind fun v49 => (S__law_same 12 (eI v48) (eI v49)).bind fun v50 => orO (some (!v50)) (((S_choose d32 d1).bind fun v51 => ((S__law_ways d32 d1).bind fun v52 => ((S__law_ways d32 (d1 - (1 : Int))).bind fun v54 => ((S__law_same 12 (eI v51) (eI (v52 - (if decide ((0 : Int) < d1) = true then v54 else (0 : Int))))).bind fun v55 => some (!v55))))))
def chkP (L : Nat) (v : List Nat) : Bool := segA (hOf v) (aOf v) (yOf v) (nOf v) L == some false && (S_behind_yes (hOf v) (aOf v) == some (yOf v)) && (S_behind_no (hOf v) (aOf v) == some (nOf v)) && (List.range 6).all fun m => segB (hOf v) (yOf v) (nOf v) L m == some false
theorem pair0 : (vecs 2 6).all (chkP 0) = true := by decide +kernel
theorem pair1 : (vecs 4 6).all (chkP 1) = true := by decide +kernel
/-- all lists of n numbers with sum at most s -/
def allV : Nat → Nat → (List Nat → Bool) → Bool
  | 0, _, f => f []
  | n + 1, s, f => (List.range (s + 1)).all fun x => allV n (s - x) fun l => f (x :: l)
theorem allV_of : ∀ (n s : Nat) (f : List Nat → Bool), allV n s f = true → ∀ l : List Nat, l.length = n → l.sum ≤ s → f l = true
  | 0, s, f, h, l, hl, _ => by
    rw [List.eq_nil_of_length_eq_zero hl]
    exact h
  | n + 1, s, f, h, [], hl, _ => nomatch hl
  | n + 1, s, f, h, x :: l, hl, hs => by
    rw [List.sum_cons] at hs
    have hl : l.length + 1 = n + 1 := hl
    exact allV_of n (s - x) (fun l => f (x :: l)) (List.all_eq_true.mp h x (List.mem_range.mpr (by omega))) l (by omega) (by omega)
theorem pair00 : allV 4 6 (fun l => chkP 2 (0 :: 0 :: l)) = true := by decide +kernel
theorem pair01 : allV 4 5 (fun l => chkP 2 (0 :: 1 :: l)) = true := by decide +kernel
theorem pair02 : ((List.range 5).all fun y => allV 4 (4 - y) (fun l => chkP 2 (0 :: (y + 2) :: l))) = true := by decide +kernel
theorem pair10 : allV 4 5 (fun l => chkP 2 (1 :: 0 :: l)) = true := by decide +kernel
theorem pair11 : ((List.range 5).all fun y => allV 4 (4 - y) (fun l => chkP 2 (1 :: (y + 1) :: l))) = true := by decide +kernel
theorem pair22 : ((List.range 5).all fun x => allV 5 (4 - x) (fun l => chkP 2 ((x + 2) :: l))) = true := by decide +kernel
theorem pair2 (l : List Nat) (hl : l.length = 6) (hs : l.sum ≤ 6) : chkP 2 l = true := by
  match l, hl with
  | 0 :: 0 :: l, hl =>
    simp only [List.sum_cons, List.length_cons] at hs hl
    exact allV_of 4 6 _ pair00 l (by omega) (by omega)
  | 0 :: 1 :: l, hl =>
    simp only [List.sum_cons, List.length_cons] at hs hl
    exact allV_of 4 5 _ pair01 l (by omega) (by omega)
  | 0 :: (y + 2) :: l, hl =>
    simp only [List.sum_cons, List.length_cons] at hs hl
    exact allV_of 4 (4 - y) _ (List.all_eq_true.mp pair02 y (List.mem_range.mpr (by omega))) l (by omega) (by omega)
  | 1 :: 0 :: l, hl =>
    simp only [List.sum_cons, List.length_cons] at hs hl
    exact allV_of 4 5 _ pair10 l (by omega) (by omega)
  | 1 :: (y + 1) :: l, hl =>
    simp only [List.sum_cons, List.length_cons] at hs hl
    exact allV_of 4 (4 - y) _ (List.all_eq_true.mp pair11 y (List.mem_range.mpr (by omega))) l (by omega) (by omega)
  | (x + 2) :: l, hl =>
    simp only [List.sum_cons, List.length_cons] at hs hl
    exact allV_of 5 (4 - x) _ (List.all_eq_true.mp pair22 x (List.mem_range.mpr (by omega))) l (by omega) (by omega)
theorem ball : (List.range 3).all (fun L => (List.range 6).all fun m => segC (L : Int) (m : Int) == some false) = true := by decide +kernel
theorem segC_ok {L m : Nat} (h : L ≤ 2) (hm : m < 6) : segC (L : Int) (m : Int) = some false := by
  have := List.all_eq_true.mp (List.all_eq_true.mp ball L (List.mem_range.mpr (by omega))) m (List.mem_range.mpr hm)
  rw [beq_iff_eq] at this
  exact this
structure PairOk (L : Nat) (v : List Nat) : Prop where
  a : segA (hOf v) (aOf v) (yOf v) (nOf v) L = some false
  y : S_behind_yes (hOf v) (aOf v) = some (yOf v)
  n : S_behind_no (hOf v) (aOf v) = some (nOf v)
  b : ∀ m : Nat, m < 6 → segB (hOf v) (yOf v) (nOf v) L m = some false
theorem pair_of {L : Nat} {v : List Nat} (h : chkP L v = true) : PairOk L v := by
  unfold chkP at h
  rw [Bool.and_eq_true, Bool.and_eq_true, Bool.and_eq_true, beq_iff_eq, beq_iff_eq, beq_iff_eq] at h
  refine ⟨h.1.1.1, h.1.1.2, h.1.2, fun m hm => ?_⟩
  have := List.all_eq_true.mp h.2 m (List.mem_range.mpr hm)
  rw [beq_iff_eq] at this
  exact this
theorem pairOk {L : Nat} {v : List Nat} (hL : L ≤ 2) (h : v.length = 2 * (L + 1)) (hs : v.sum ≤ 6) : PairOk L v := by
  match L, hL, h with
  | 0, _, h => exact pair_of (List.all_eq_true.mp pair0 v (mem_vecs _ _ _ h hs))
  | 1, _, h => exact pair_of (List.all_eq_true.mp pair1 v (mem_vecs _ _ _ h hs))
  | 2, _, h => exact pair_of (pair2 v h hs)
end Ev

set_option linter.all false
set_option maxRecDepth 100000
namespace Ev
open PySem
/-! the part of the law on one lie -/
theorem lift_of {σ α β γ : Type} {u : Option α} {g : α → Option β} {y : β} {f : α → M σ γ} {s : σ} {k : γ → σ → Prop} (h : u.bind g = some y) (hf : ∀ x, u = some x → g x = some y → f x s k) : M.lift u f s k := by
  obtain ⟨x, h1, h2⟩ := Option.bind_eq_some_iff.mp h
  exact ⟨x, h1, hf x h1 h2⟩
theorem pick_ok {σ : Type} {n : Nat} {s : σ} {k : Int → σ → Prop} (h0 : 0 < n) (hd : divOk (n : Int) = true) (h : ∀ d : Nat, d < n → k (d : Int) s) : pickM (n : Int) s k :=
  ⟨by omega, hd, fun d h1 h2 => by
    have := h d.toNat (by omega)
    rwa [Int.toNat_of_nonneg h1] at this⟩
theorem bands : (List.range 5002).all (fun n => opZ .band (n : Int) 1 == some ((n % 2 : Nat) : Int)) = true := by decide +kernel
theorem shls : (List.range 21).all (fun n => opZ .shl 1 (n : Int) == some ((2 ^ n : Nat) : Int)) = true := by decide +kernel
theorem band_eq {n : Nat} (h : n < 5002) : opZ .band (n : Int) 1 = some ((n % 2 : Nat) : Int) := by
  have := List.all_eq_true.mp bands n (List.mem_range.mpr h)
  rwa [beq_iff_eq] at this
theorem shl_eq {n : Nat} (h : n < 21) : opZ .shl 1 (n : Int) = some ((2 ^ n : Nat) : Int) := by
  have := List.all_eq_true.mp shls n (List.mem_range.mpr h)
  rwa [beq_iff_eq] at this
theorem log2_le (n : Nat) : n.log2 ≤ n := by
  rcases Nat.eq_zero_or_pos n with h | h
  · subst h; decide
  · exact Nat.le_trans (Nat.le_of_lt Nat.lt_two_pow_self) (Nat.log2_self_le (by omega))
theorem mul_eq {a b : Nat} (ha : a ≤ 10000) (hb : b ≤ 10000) : opZ .mul (a : Int) (b : Int) = some ((a * b : Nat) : Int) := by
  show (if mulOk (a : Int) (b : Int) = true then some ((a : Int) * b) else none) = _
  have : mulOk (a : Int) (b : Int) = true := by
    unfold mulOk
    rw [decide_eq_true_eq, Int.natAbs_natCast, Int.natAbs_natCast]
    have := log2_le a
    have := log2_le b
    omega
  rw [if_pos this, Int.natCast_mul]
/-- enough -/
def eo (d e : Nat) : Bool := if d % 2 = 0 then decide (d * (e + 1) ≤ 2 ^ e) else decide (d * (e + 1) + e ≤ 2 ^ e + 1)
theorem enough_eq {d e : Nat} (hd : d < 5002) (he : e < 21) : S_is_enough_one d e = some (eo d e) := by
  unfold S_is_enough_one eo
  have m1 : opZ .mul (d : Int) ((e : Int) + 1) = some ((d * (e + 1) : Nat) : Int) := mul_eq (b := e + 1) (by omega) (by omega)
  rw [band_eq hd, m1, shl_eq he]
  show (if decide (((d % 2 : Nat) : Int) = 0) = true then some (decide (((d * (e + 1) : Nat) : Int) ≤ ((2 ^ e : Nat) : Int))) else some (decide ((((d * (e + 1) : Nat) : Int) + e - 1) ≤ ((2 ^ e : Nat) : Int)))) = _
  by_cases h : d % 2 = 0
  · rw [if_pos h, if_pos (by rw [h]; rfl)]
    congr 1
    rw [decide_eq_decide]
    exact Int.ofNat_le
  · rw [if_neg h, if_neg (by rw [show d % 2 = 1 by omega]; decide)]
    congr 1
    rw [decide_eq_decide]
    generalize d * (e + 1) = x
    generalize 2 ^ e = y
    omega
theorem due_eq {d e : Nat} (hd : d < 5002) (he : e < 21) {v5 v6 v7 : Int} (h5 : opZ .mul (d : Int) ((e : Int) + 1) = some v5) (h6 : opZ .shl 1 (e : Int) = some v6) (h7 : opZ .band (d : Int) 1 = some v7) :
    (if decide (v7 = (1 : Int)) = true then ((opZ .mul (d : Int) ((e : Int) + (1 : Int))).bind fun v26 => ((opZ .shl (1 : Int) (e : Int)).bind fun v27 => some (decide (((v26 + (e : Int)) - (1 : Int)) ≤ v27)))) else some (decide (v5 ≤ v6))) = some (eo d e) := by
  have m1 : opZ .mul (d : Int) ((e : Int) + 1) = some ((d * (e + 1) : Nat) : Int) := mul_eq (b := e + 1) (by omega) (by omega)
  rw [m1] at h5
  rw [shl_eq he] at h6
  rw [band_eq hd] at h7
  cases h5
  cases h6
  cases h7
  rw [m1, shl_eq he]
  show (if decide (((d % 2 : Nat) : Int) = 1) = true then some (decide ((((d * (e + 1) : Nat) : Int) + e - 1) ≤ ((2 ^ e : Nat) : Int))) else some (decide (((d * (e + 1) : Nat) : Int) ≤ ((2 ^ e : Nat) : Int)))) = _
  unfold eo
  by_cases h : d % 2 = 0
  · rw [if_pos h, if_neg (by rw [h]; decide)]
    congr 1
    rw [decide_eq_decide]
    exact Int.ofNat_le
  · rw [if_neg h, if_pos (by rw [show d % 2 = 1 by omega]; rfl)]
    congr 1
    rw [decide_eq_decide]
    generalize d * (e + 1) = x
    generalize 2 ^ e = y
    omega
theorem whl_up {c : Int → Option Bool} {b : Nat → Bool} {N : Nat} (hc : ∀ j, j ≤ N → c (j : Int) = some (b j)) (hN : b N = false) : ∀ (n a : Nat), a ≤ N → N - a < n →
    ∃ r, a ≤ r ∧ r ≤ N ∧ whlO c (fun (s : Int) => (some (Lp.nx (s + (1 : Int))) : Option (Lp Int Empty))) n (a : Int) = some (Lp.nx (r : Int)) ∧ b r = false ∧ ∀ j, a ≤ j → j < r → b j = true
  | 0, a, _, h => absurd h (by omega)
  | n + 1, a, ha, h => by
    unfold whlO
    rw [hc a ha]
    cases q : b a with
    | false => exact ⟨a, Nat.le_refl _, ha, rfl, q, fun j h1 h2 => absurd h1 (by omega)⟩
    | true =>
      have hne : a ≠ N := fun z => by rw [z, hN] at q; cases q
      obtain ⟨r, h1, h2, h3, h4, h5⟩ := whl_up hc hN n (a + 1) (by omega) (by omega)
      refine ⟨r, by omega, h2, ?_, h4, fun j j1 j2 => ?_⟩
      · have e : ((a : Int) + 1) = ((a + 1 : Nat) : Int) := by omega
        show whlO c _ n ((a : Int) + 1) = _
        rw [e]
        exact h3
      · by_cases w : j = a
        · rw [w]; exact q
        · exact h5 j (by omega) j2
theorem eo20 {d : Nat} (hd : d < 5002) : eo d 20 = true := by
  unfold eo
  rw [show (2 : Nat) ^ 20 = 1048576 from rfl]
  split <;> exact decide_eq_true (by omega)
theorem eo0 {d : Nat} (hd : 2 ≤ d) : eo d 0 = false := by
  unfold eo
  rw [show (2 : Nat) ^ 0 = 1 from rfl]
  split <;> exact decide_eq_false (by omega)
theorem least_one {d : Nat} (h2 : 2 ≤ d) (hd : d < 5002) : ∃ r : Nat, r < 20 ∧ S_least_one_lie d = some ((r + 1 : Nat) : Int) ∧ eo d (r + 1) = true ∧ eo d r = false := by
  obtain ⟨r, _, h3, h4, h5, h6⟩ := whl_up (c := fun s => (S_is_enough_one d s).bind fun v4 => some (!v4)) (b := fun j => !eo d j) (N := 20)
    (fun j hj => by show (S_is_enough_one d j).bind _ = _; rw [enough_eq hd (by omega)]; rfl) (by rw [eo20 hd]; rfl) 1000 0 (by omega) (by omega)
  have h5 : eo d r = true := by simpa using h5
  have hr : r ≠ 0 := fun z => by rw [z, eo0 h2] at h5; cases h5
  have e : r - 1 + 1 = r := by omega
  refine ⟨r - 1, by omega, ?_, by rw [e]; exact h5, ?_⟩
  · unfold S_least_one_lie
    rw [e]
    show (whlO _ _ 1000 _).bind _ = _
    have h4' : whlO (fun (s2 : Int) => (((S_is_enough_one (d : Int) s2).bind fun v4 => some (!v4)) : Option Bool)) (fun (s2 : Int) => (some (Lp.nx (s2 + (1 : Int))) : Option (Lp Int Empty))) 1000 (0 : Int) = some (Lp.nx (r : Int)) := h4
    rw [h4']
    rfl
  · have := h6 (r - 1) (by omega) (by omega)
    simpa using this
theorem smalls : (List.range 9).all (fun n => ((S_least_one_lie (2 + (n : Int))).bind fun v18 => (N_least_asked ([2 + (n : Int), (0 : Int)] : List Int) (9 : Int)).bind fun v19 => some (decide ((some v18) ≠ v19))) == some false) = true := by decide +kernel
def segR (a b : Int) : Option Bool := (S_repeated a b).bind fun v22 => ((opZ .mul (2 : Int) b).bind fun v23 => ((opZ .mul a (v23 + (1 : Int))).bind fun v24 => ((S__law_same 12 (eI v22) (eI v24)).bind fun v25 => some v25)))
theorem reps : (List.range 9).all (fun a => (List.range 5).all fun b => segR (a : Int) (b : Int) == some true) = true := by decide +kernel
theorem divs : (List.range 5001).all (fun n => decide (n = 0) || divOk (n : Int)) = true := by decide +kernel
theorem div_ok {n : Nat} (h0 : 0 < n) (h : n ≤ 5000) : divOk (n : Int) = true := by
  have := List.all_eq_true.mp divs n (List.mem_range.mpr (by omega))
  rw [Bool.or_eq_true, decide_eq_true_eq] at this
  exact this.resolve_left (by omega)
theorem same_b (b : Bool) : S__law_same 12 (eB b) (eB b) = some true := by cases b <;> decide +kernel
theorem one_ok {s : Unit} {k : Bool → Unit → Prop} (hk : k true s) : S__law_one s k := by
  unfold S__law_one
  refine bind_ok (bind_ok (ret_ok (bind_ok (pick_ok (n := 5000) (by omega) (div_ok (by omega) (by omega)) fun d0 h0 => opt_ok ?_))))
  have e : (2 : Int) + (d0 : Int) = ((d0 + 2 : Nat) : Int) := by omega
  rw [e]
  have hd : d0 + 2 < 5002 := by omega
  have h2 : 2 ≤ d0 + 2 := by omega
  generalize d0 + 2 = d at hd h2
  refine bind_ok (pick_ok (n := 20) (by omega) (div_ok (by omega) (by omega)) fun e0 he => ?_)
  have m1 : opZ .mul (d : Int) ((e0 : Int) + 1) = some ((d * (e0 + 1) : Nat) : Int) := mul_eq (b := e0 + 1) (by omega) (by omega)
  have m2 : opZ .shl 1 (e0 : Int) = some ((2 ^ e0 : Nat) : Int) := shl_eq (by omega)
  refine lift_ok m1 (lift_ok m2 (lift_ok (band_eq hd) (lift_ok (due_eq hd (by omega) m1 m2 (band_eq hd)) (lift_ok (enough_eq hd (by omega)) (lift_ok (same_b _) (iff_ok rfl ?_))))))
  obtain ⟨r, r1, r2, r3, r4⟩ := least_one h2 hd
  have e4 : (((r + 1 : Nat) : Int) - 1) = (r : Int) := by omega
  refine lift_ok r2 (lift_ok (enough_eq hd (by omega)) (lift_ok (x := false) ?_ (iff_ok rfl ?_)))
  · rw [e4, enough_eq hd (by omega), r3, r4]
    rfl
  · refine bind_ok (bind_ok (ret_ok (bind_ok (pick_ok (n := 9) (by omega) (div_ok (by omega) (by omega)) fun f hf => opt_ok ?_))))
    have := List.all_eq_true.mp smalls f (List.mem_range.mpr hf)
    rw [beq_iff_eq] at this
    refine lift_of this fun v18 h18 this => lift_of this fun v19 h19 this => iff_ok (Option.some.inj this) ?_
    refine bind_ok (pick_ok (n := 9) (by omega) (div_ok (by omega) (by omega)) fun a ha => bind_ok (pick_ok (n := 5) (by omega) (div_ok (by omega) (by omega)) fun b hb => ?_))
    have := List.all_eq_true.mp (List.all_eq_true.mp reps a (List.mem_range.mpr ha)) b (List.mem_range.mpr hb)
    rw [beq_iff_eq] at this
    exact ⟨true, this, hk⟩
end Ev

set_option linter.all false
set_option maxRecDepth 100000
namespace Ev
open PySem
/-! cases counted -/
abbrev CS := List (Int × Int)
def cn (k : Int) (cs : CS) : Nat := cs.countP fun c => decide (c.2 = k)
def cA (p : Int → Bool) (k : Int) (cs : CS) : Nat := cs.countP fun c => decide (c.2 = k) && p c.1
def cB (p : Int → Bool) (k : Int) (cs : CS) : Nat := cs.countP fun c => decide (c.2 = k) && !p c.1
theorem cn_cons (k : Int) (c : Int × Int) (cs : CS) : cn k (c :: cs) = cn k cs + (if c.2 = k then 1 else 0) := by
  unfold cn; rw [List.countP_cons]; simp
theorem cA_cons (p : Int → Bool) (k : Int) (c : Int × Int) (cs : CS) : cA p k (c :: cs) = cA p k cs + (if c.2 = k then (if p c.1 = true then 1 else 0) else 0) := by
  unfold cA; rw [List.countP_cons]; by_cases h : c.2 = k <;> simp [h]
theorem cB_cons (p : Int → Bool) (k : Int) (c : Int × Int) (cs : CS) : cB p k (c :: cs) = cB p k cs + (if c.2 = k then (if p c.1 = true then 0 else 1) else 0) := by
  unfold cB; rw [List.countP_cons]; by_cases h : c.2 = k <;> cases q : p c.1 <;> simp [h]
theorem cn_split (p : Int → Bool) (k : Int) : ∀ cs : CS, cn k cs = cA p k cs + cB p k cs
  | [] => rfl
  | c :: cs => by
    rw [cn_cons, cA_cons, cB_cons, cn_split p k cs]
    by_cases h : c.2 = k <;> cases q : p c.1 <;> simp [h] <;> omega
theorem cn_filter (p : Int → Bool) (k : Int) (cs : CS) : cn k (cs.filter fun c => p c.1) = cA p k cs := by
  unfold cn cA
  rw [List.countP_filter]
theorem cn_sum : ∀ cs : CS, cn 0 cs + cn 1 cs + cn 2 cs ≤ cs.length
  | [] => Nat.le_refl 0
  | c :: cs => by
    rw [cn_cons, cn_cons, cn_cons, List.length_cons]
    have := cn_sum cs
    split <;> split <;> split <;> omega
theorem cB_none (p : Int → Bool) : ∀ cs : CS, (∀ c ∈ cs, 0 ≤ c.2) → cB p (-1) cs = 0 ∧ cA p (-1) cs = 0
  | [], _ => ⟨rfl, rfl⟩
  | c :: cs, h => by
    have h0 := h c List.mem_cons_self
    have ih := cB_none p cs fun x hx => h x (List.mem_cons_of_mem _ hx)
    rw [cB_cons, cA_cons, if_neg (by omega), if_neg (by omega)]
    exact ih
/-! after an answer -/
def more (sm : List Int) (a : Int) (c : Int × Int) : Int := c.2 + (if (decide (decide (c.1 ∈ sm) ≠ decide (a = (1 : Int)))) = true then 1 else 0)
def keep (L : Int) (sm : List Int) (a : Int) (c : Int × Int) : Option (Int × Int) := if more sm a c ≤ L then some (c.1, more sm a c) else none
def aft (L : Int) (sm : List Int) (a : Int) (cs : CS) : CS := cs.filterMap (keep L sm a)
theorem keep_cons (L : Int) (sm : List Int) (a : Int) (c : Int × Int) (cs : CS) : aft L sm a (c :: cs) = if more sm a c ≤ L then (c.1, more sm a c) :: aft L sm a cs else aft L sm a cs := by
  unfold aft keep
  rw [List.filterMap_cons]
  split
  · rename_i h
    split at h
    · cases h
    · rename_i h2; rw [if_neg h2]
  · rename_i h
    split at h
    · rename_i h2; cases h; rw [if_pos h2]
    · cases h
theorem aft_yes {L : Int} {sm : List Int} {k k' : Int} (hk : k ≤ L) (hk' : k' + 1 = k) : ∀ cs : CS, cn k (aft L sm 1 cs) = cA (fun n => decide (n ∈ sm)) k cs + cB (fun n => decide (n ∈ sm)) k' cs
  | [] => rfl
  | c :: cs => by
    have ih := aft_yes (sm := sm) hk hk' cs
    rw [keep_cons, cA_cons, cB_cons]
    have hm : more sm 1 c = if c.1 ∈ sm then c.2 else c.2 + 1 := by
      unfold more
      by_cases h : c.1 ∈ sm <;> simp [h]
    by_cases h : c.1 ∈ sm
    · rw [if_pos h] at hm
      rw [hm, decide_eq_true h]
      split
      · rw [cn_cons, ih]; simp only [if_pos]; split <;> split <;> omega
      · rw [ih, if_neg (by omega)]; simp only [if_pos]; split <;> omega
    · rw [if_neg h] at hm
      rw [hm, decide_eq_false h]
      split
      · rw [cn_cons, ih]; simp only [Bool.false_eq_true, if_false]; split <;> split <;> split <;> omega
      · rw [ih]; simp only [Bool.false_eq_true, if_false]; split <;> split <;> omega
theorem aft_no {L : Int} {sm : List Int} {a k k' : Int} (ha : a ≠ 1) (hk : k ≤ L) (hk' : k' + 1 = k) : ∀ cs : CS, cn k (aft L sm a cs) = cB (fun n => decide (n ∈ sm)) k cs + cA (fun n => decide (n ∈ sm)) k' cs
  | [] => rfl
  | c :: cs => by
    have ih := aft_no (sm := sm) ha hk hk' cs
    rw [keep_cons, cA_cons, cB_cons]
    have hm : more sm a c = if c.1 ∈ sm then c.2 + 1 else c.2 := by
      unfold more
      by_cases h : c.1 ∈ sm <;> simp [h, ha]
    by_cases h : c.1 ∈ sm
    · rw [if_pos h] at hm
      rw [hm, decide_eq_true h]
      split
      · rw [cn_cons, ih]; simp only [if_pos]; split <;> split <;> split <;> omega
      · rw [ih]; simp only [if_pos]; split <;> split <;> omega
    · rw [if_neg h] at hm
      rw [hm, decide_eq_false h]
      split
      · rw [cn_cons, ih]; simp only [Bool.false_eq_true, if_false]; split <;> split <;> omega
      · rw [ih]; simp only [Bool.false_eq_true, if_false]; split <;> split <;> omega
/-- what the law draws -/
structure InC (L : Nat) (cs : CS) : Prop where
  b : ∀ c ∈ cs, 0 ≤ c.2 ∧ c.2 ≤ L
  l : cs.length ≤ 6
theorem InC.aft {L : Nat} {cs : CS} (h : InC L cs) (sm : List Int) (a : Int) : InC L (aft L sm a cs) := by
  refine ⟨fun c hc => ?_, Nat.le_trans (List.length_filterMap_le _ _) h.l⟩
  obtain ⟨x, hx, e⟩ := List.mem_filterMap.mp hc
  have := (h.b x hx).1
  unfold keep at e
  split at e
  · cases e
    refine ⟨?_, by assumption⟩
    show 0 ≤ more sm a x
    unfold more
    split <;> omega
  · cases e
/-! what the law's functions tell -/
theorem lcM_map {α β : Type} {h : α → Option (List β)} {g : α → β} : ∀ (xs : List α), (∀ x ∈ xs, h x = some [g x]) → lcM h xs = some (xs.map g)
  | [], _ => rfl
  | x :: xs, k => by
    unfold lcM
    rw [k x List.mem_cons_self, lcM_map xs fun y hy => k y (List.mem_cons_of_mem _ hy)]
    rfl
theorem lenOk_small {n : Nat} (h : n ≤ 1000) : lenOk n = true := decide_eq_true (Nat.le_trans h (by decide))
theorem lenZ_some {β : Type} {xs : List β} (h : xs.length ≤ 1000) : lenZ (some xs) = some xs := gd_true _ (lenOk_small h)
theorem filtZ_ok {α β : Type} {c : α → Bool} {g : α → β} {xs : List α} (h : xs.length ≤ 1000) : filtZ c g xs = some ((xs.filter c).map g) := gd_true _ (lenOk_small (Nat.le_trans (List.length_filter_le _ _) h))
theorem snoc_small {α : Type} {xs : List α} {x : α} (h : xs.length < 1000) : snocZ xs x = some (xs ++ [x]) := gd_true _ (decide_eq_true (Nat.lt_trans h (by decide)))
def stZ (L : Nat) (cs : CS) : List Int := (nums (L + 1)).map fun k => (cn k cs : Int)
theorem state_ok {L : Nat} (hL : L ≤ 2) {cs : CS} (h : cs.length ≤ 6) : S__law_state cs L = some (stZ L cs) := by
  unfold S__law_state
  have e : rngG 0 ((L : Int) + 1) = some (nums (L + 1)) := rngG_nat (n := L + 1) (by omega)
  rw [e]
  show (lenZ (lcM _ _)).bind _ = _
  rw [lcM_map (g := fun k => (cn k cs : Int)) (nums (L + 1)) fun x _ => ?_]
  · rw [lenZ_some (by rw [List.length_map]; unfold nums; rw [List.length_map, List.length_range]; omega)]
    rfl
  · rw [filtZ_ok (by omega)]
    show some [(((cs.filter fun c => decide (c.2 = x)).map fun c => c).length : Int)] = _
    rw [List.length_map]
    unfold cn
    rw [List.countP_eq_length_filter]
theorem after_loop {L : Int} {sm : List Int} {a : Int} : ∀ (cs acc : CS), acc.length + cs.length < 1000 →
    foldO (fun (x1 : (Int × Int)) (s2 : (List (Int × Int))) => (if decide ((x1.2 + (if (decide (decide (x1.1 ∈ sm) ≠ decide (a = (1 : Int)))) = true then 1 else 0)) ≤ L) = true then ((snocZ s2 (x1.1, (x1.2 + (if (decide (decide (x1.1 ∈ sm) ≠ decide (a = (1 : Int)))) = true then 1 else 0)))).bind fun l4 => some l4) else some s2).bind fun (s5 : (List (Int × Int))) => some s5) cs acc = some (acc ++ aft L sm a cs)
  | [], acc, _ => by
    show some acc = some (acc ++ [])
    rw [List.append_nil]
  | c :: cs, acc, h => by
    rw [List.length_cons] at h
    unfold foldO
    rw [keep_cons]
    by_cases q : more sm a c ≤ L
    · have e : decide ((c.2 + (if (decide (decide (c.1 ∈ sm) ≠ decide (a = (1 : Int)))) = true then 1 else 0)) ≤ L) = true := decide_eq_true q
      rw [e, if_pos rfl, if_pos q, snoc_small (by omega)]
      have := after_loop (L := L) (sm := sm) (a := a) cs (acc ++ [(c.1, more sm a c)]) (by rw [List.length_append]; simp only [List.length_singleton]; omega)
      rw [List.append_assoc] at this
      exact this
    · have e : decide ((c.2 + (if (decide (decide (c.1 ∈ sm) ≠ decide (a = (1 : Int)))) = true then 1 else 0)) ≤ L) = false := decide_eq_false q
      rw [e, if_neg Bool.false_ne_true, if_neg q]
      exact after_loop (L := L) (sm := sm) (a := a) cs acc (by omega)
theorem after_ok {L : Int} {sm : List Int} {a : Int} {cs : CS} (h : cs.length ≤ 6) : S__law_after cs sm a L = some (aft L sm a cs) := by
  unfold S__law_after
  rw [after_loop cs [] (by simp only [List.length_nil]; omega)]
  rfl
/-! a state and a question -/
def vecOf : Nat → List Int → CS → List Nat
  | 0, sm, cs => [cA (fun n => decide (n ∈ sm)) 0 cs, cB (fun n => decide (n ∈ sm)) 0 cs]
  | 1, sm, cs => [cA (fun n => decide (n ∈ sm)) 0 cs, cB (fun n => decide (n ∈ sm)) 0 cs, cA (fun n => decide (n ∈ sm)) 1 cs, cB (fun n => decide (n ∈ sm)) 1 cs]
  | _, sm, cs => [cA (fun n => decide (n ∈ sm)) 0 cs, cB (fun n => decide (n ∈ sm)) 0 cs, cA (fun n => decide (n ∈ sm)) 1 cs, cB (fun n => decide (n ∈ sm)) 1 cs, cA (fun n => decide (n ∈ sm)) 2 cs, cB (fun n => decide (n ∈ sm)) 2 cs]
structure Asked (L : Nat) (sm : List Int) (cs : CS) : Prop where
  h : stZ L cs = hOf (vecOf L sm cs)
  a : stZ L (cs.filter fun c => decide (c.1 ∈ sm)) = aOf (vecOf L sm cs)
  y : stZ L (aft L sm 1 cs) = yOf (vecOf L sm cs)
  n : ∀ a : Int, a ≠ 1 → stZ L (aft L sm a cs) = nOf (vecOf L sm cs)
  p : PairOk L (vecOf L sm cs)
theorem asked_ok {L : Nat} (hL : L ≤ 2) (sm : List Int) {cs : CS} (hc : InC L cs) : Asked L sm cs := by
  have hb : ∀ c ∈ cs, 0 ≤ c.2 := fun c m => (hc.b c m).1
  have z := cB_none (fun n => decide (n ∈ sm)) cs hb
  have s0 := cn_split (fun n => decide (n ∈ sm)) 0 cs
  have s1 := cn_split (fun n => decide (n ∈ sm)) 1 cs
  have s2 := cn_split (fun n => decide (n ∈ sm)) 2 cs
  have t := cn_sum cs
  have l := hc.l
  have f := fun k => cn_filter (fun n => decide (n ∈ sm)) k cs
  have y0 : ∀ L : Int, 0 ≤ L → cn 0 (aft L sm 1 cs) = cA (fun n => decide (n ∈ sm)) 0 cs := fun L h => by rw [aft_yes (k' := -1) h rfl, z.1]; rfl
  have y1 : ∀ L : Int, 1 ≤ L → _ := fun L h => aft_yes (L := L) (sm := sm) (k := 1) (k' := 0) h rfl cs
  have y2 : ∀ L : Int, 2 ≤ L → _ := fun L h => aft_yes (L := L) (sm := sm) (k := 2) (k' := 1) h rfl cs
  have n0 : ∀ (L a : Int), 0 ≤ L → a ≠ 1 → cn 0 (aft L sm a cs) = cB (fun n => decide (n ∈ sm)) 0 cs := fun L a h ha => by rw [aft_no (k' := -1) ha h rfl, z.2]; rfl
  have n1 : ∀ (L a : Int), 1 ≤ L → a ≠ 1 → _ := fun L a h ha => aft_no (L := L) (sm := sm) (a := a) (k := 1) (k' := 0) ha h rfl cs
  have n2 : ∀ (L a : Int), 2 ≤ L → a ≠ 1 → _ := fun L a h ha => aft_no (L := L) (sm := sm) (a := a) (k := 2) (k' := 1) ha h rfl cs
  match L, hL with
  | 0, hL =>
    refine ⟨?_, ?_, ?_, fun a ha => ?_, pairOk hL rfl ?_⟩
    · show [(cn 0 cs : Int)] = [_]
      rw [s0]
    · show [(cn 0 _ : Int)] = [_]
      rw [f]
    · show [(cn 0 _ : Int)] = [_]
      rw [y0 _ (by decide)]
    · show [(cn 0 _ : Int)] = [_]
      rw [n0 _ _ (by decide) ha]
    · show _ + (_ + 0) ≤ 6
      omega
  | 1, hL =>
    refine ⟨?_, ?_, ?_, fun a ha => ?_, pairOk hL rfl ?_⟩
    · show [(cn 0 cs : Int), (cn 1 cs : Int)] = [_, _]
      rw [s0, s1]
    · show [(cn 0 _ : Int), (cn 1 _ : Int)] = [_, _]
      rw [f, f]
    · show [(cn 0 _ : Int), (cn 1 _ : Int)] = [_, _]
      rw [y0 _ (by decide), y1 _ (by decide)]
    · show [(cn 0 _ : Int), (cn 1 _ : Int)] = [_, _]
      rw [n0 _ _ (by decide) ha, n1 _ _ (by decide) ha]
    · show _ + (_ + (_ + (_ + 0))) ≤ 6
      omega
  | 2, hL =>
    refine ⟨?_, ?_, ?_, fun a ha => ?_, pairOk hL rfl ?_⟩
    · show [(cn 0 cs : Int), (cn 1 cs : Int), (cn 2 cs : Int)] = [_, _, _]
      rw [s0, s1, s2]
    · show [(cn 0 _ : Int), (cn 1 _ : Int), (cn 2 _ : Int)] = [_, _, _]
      rw [f, f, f]
    · show [(cn 0 _ : Int), (cn 1 _ : Int), (cn 2 _ : Int)] = [_, _, _]
      rw [y0 _ (by decide), y1 _ (by decide), y2 _ (by decide)]
    · show [(cn 0 _ : Int), (cn 1 _ : Int), (cn 2 _ : Int)] = [_, _, _]
      rw [n0 _ _ (by decide) ha, n1 _ _ (by decide) ha, n2 _ _ (by decide) ha]
    · show _ + (_ + (_ + (_ + (_ + (_ + 0))))) ≤ 6
      omega
theorem stLaw_of {L : Nat} (hL : L ≤ 2) {cs : CS} (hc : InC L cs) : ∃ l : List Nat, stZ L cs = toZ l ∧ l.length = L + 1 ∧ l.sum ≤ 6 := by
  have t := cn_sum cs
  have l := hc.l
  match L, hL with
  | 0, hL => exact ⟨[cn 0 cs], rfl, rfl, by show _ + 0 ≤ 6; omega⟩
  | 1, hL => exact ⟨[cn 0 cs, cn 1 cs], rfl, rfl, by show _ + (_ + 0) ≤ 6; omega⟩
  | 2, hL => exact ⟨[cn 0 cs, cn 1 cs, cn 2 cs], rfl, rfl, by show _ + (_ + (_ + 0)) ≤ 6; omega⟩
end Ev

set_option linter.all false
set_option maxRecDepth 100000
namespace Ev
open PySem
/-! the law of k06 from its parts -/
theorem mapM_any {α β : Type} {g : α → M Unit (List β)} {P : β → Prop} : ∀ (xs : List α) (k : List β → Unit → Prop),
    (∀ x ∈ xs, ∀ k' : List β → Unit → Prop, (∀ ys : List β, ys.length ≤ 1 → (∀ y ∈ ys, P y) → k' ys ()) → g x () k') →
    (∀ ys : List β, ys.length ≤ xs.length → (∀ y ∈ ys, P y) → k ys ()) → mapM g xs () k
  | [], k, _, hk => ret_ok (hk [] (Nat.le_refl _) fun _ h => nomatch h)
  | x :: xs, k, h, hk => bind_ok (h x List.mem_cons_self _ fun ys l1 p1 => bind_ok (mapM_any xs _ (fun y hy => h y (List.mem_cons_of_mem _ hy)) fun zs l2 p2 => ret_ok (hk (ys ++ zs) (by rw [List.length_append, List.length_cons]; omega) fun y hy => (List.mem_append.mp hy).elim (p1 y) (p2 y))))
theorem lenM_ok {β : Type} {n : M Unit (List β)} {k : List β → Unit → Prop} (h : n () fun ys s => ys.length ≤ 1000 ∧ k ys s) (mono : ∀ k1 k2 : List β → Unit → Prop, (∀ y s, k1 y s → k2 y s) → n () k1 → n () k2) : lenM n () k :=
  bind_ok (mono _ _ (fun y s q => ⟨y, gd_true _ (lenOk_small q.1), q.2⟩) h)
theorem lenMap_any {α β : Type} {g : α → M Unit (List β)} {P : β → Prop} (xs : List α) (k : List β → Unit → Prop) (hl : xs.length ≤ 1000)
    (h : ∀ x ∈ xs, ∀ k' : List β → Unit → Prop, (∀ ys : List β, ys.length ≤ 1 → (∀ y ∈ ys, P y) → k' ys ()) → g x () k')
    (hk : ∀ ys : List β, ys.length ≤ xs.length → (∀ y ∈ ys, P y) → k ys ()) : lenM (mapM g xs) () k :=
  bind_ok (mapM_any xs _ h fun ys l p => ⟨ys, gd_true _ (lenOk_small (by omega)), hk ys l p⟩)
theorem one_any {β : Type} {c : M Unit Bool} {g : M Unit β} {P : β → Prop} {k : List β → Unit → Prop} (hc : ∀ k' : Bool → Unit → Prop, (∀ b, k' b ()) → c () k') (hg : ∀ k' : β → Unit → Prop, (∀ y, P y → k' y ()) → g () k')
    (h : ∀ ys : List β, ys.length ≤ 1 → (∀ y ∈ ys, P y) → k ys ()) : oneM c g () k := by
  refine bind_ok (hc _ fun b => ?_)
  cases b with
  | true =>
    refine ift_ok rfl (bind_ok (hg _ fun y hy => ret_ok (h [y] (Nat.le_refl _) fun z hz => ?_)))
    rw [List.mem_singleton.mp hz]
    exact hy
  | false => exact iff_ok rfl (ret_ok (h [] (Nat.zero_le _) fun _ hz => nomatch hz))
theorem pick_any {n : Nat} {k : Int → Unit → Prop} (h0 : 0 < n) (hn : n ≤ 5000) (h : ∀ d : Nat, d < n → k (d : Int) ()) : pickM (n : Int) () k := pick_ok h0 (div_ok h0 hn) h
theorem nums_len (n : Nat) : (nums n).length = n := by unfold nums; rw [List.length_map, List.length_range]
/-- some of the names -/
theorem some_any (cs : CS) (hl : cs.length ≤ 6) (k : List Int → Unit → Prop) (hk : ∀ ys, k ys ()) :
    lenM (mapM (fun (x12 : (Int × Int)) => oneM (M.bind (pickM (2 : Int)) fun x13 => M.bind (M.ret (0 : Int)) fun y14 => M.opt (some (decide (x13 = y14)))) (M.ret x12.1)) cs) () k :=
  lenMap_any (P := fun _ => True) cs k (by omega) (fun x _ k' h => one_any (fun k2 h2 => bind_ok (pick_any (n := 2) (by omega) (by omega) fun d _ => bind_ok (ret_ok (opt_ok (h2 _))))) (fun k2 h2 => ret_ok (h2 _ trivial)) h) fun ys _ _ => hk ys
/-! answers and questions, one after another -/
def tellG (x1 : Int × List Int) (s2 : List Int) : Option (List Int) := (if decide (x1.1 = (1 : Int)) = true then S_behind_yes s2 x1.2 else S_behind_no s2 x1.2).bind fun v8 => some v8
theorem step_ok {L : Nat} (hL : L ≤ 2) (sm : List Int) {cs : CS} (hc : InC L cs) (a : Int) : tellG (a, stZ L (cs.filter fun c => decide (c.1 ∈ sm))) (stZ L cs) = some (stZ L (aft L sm a cs)) := by
  have k := asked_ok hL sm hc
  unfold tellG
  by_cases h : a = 1
  · subst h
    rw [if_pos (decide_eq_true rfl), k.h, k.a, k.y]
    show (S_behind_yes _ _).bind _ = _
    rw [k.p.y]
    rfl
  · rw [if_neg (fun z => h (of_decide_eq_true z)), k.h, k.a, k.n a h]
    show (S_behind_no _ _).bind _ = _
    rw [k.p.n]
    rfl
def tellTurn (d1 : Int) (x79 : Int) (s80 : (List (Int × Int)) × (List (List Int))) : M Unit (Lp ((List (Int × Int)) × (List (List Int))) Empty) := (M.bind (M.bind (M.ret s80.1) fun z90 => lenM (mapM (fun (x87 : (Int × Int)) => oneM (M.bind (pickM (2 : Int)) fun x88 => M.bind (M.ret (0 : Int)) fun y89 => M.opt (some (decide (x88 = y89)))) (M.ret x87.1)) z90)) fun (d91 : (List Int)) => (M.opt (((filtZ (fun (x92 : (Int × Int)) => decide (x92.1 ∈ d91)) (fun (x92 : (Int × Int)) => x92) s80.1).bind fun v93 => ((S__law_state v93 d1).bind fun v94 => ((snocZ s80.2 v94).bind fun l95 => ((S__law_after s80.1 d91 x79 d1).bind fun v96 => some (Lp.nx (v96, l95)))))))))
theorem filt_id (cs : CS) (sm : List Int) (h : cs.length ≤ 6) : filtZ (fun (x : (Int × Int)) => decide (x.1 ∈ sm)) (fun (x : (Int × Int)) => x) cs = some (cs.filter fun c => decide (c.1 ∈ sm)) := by
  rw [filtZ_ok (by omega), List.map_id']
theorem filt_len (cs : CS) (sm : List Int) (h : cs.length ≤ 6) : (cs.filter fun c => decide (c.1 ∈ sm)).length ≤ 6 := Nat.le_trans (List.length_filter_le _ _) h
theorem obind {α β : Type} {u : Option α} {x : α} {f : α → Option β} {r : Option β} (h : u = some x) (k : f x = r) : u.bind f = r := by rw [h]; exact k
theorem tellTurn_ok {L : Nat} (hL : L ≤ 2) (x : Int) {cs : CS} {ws : List (List Int)} (hl : ws.length < 100) (hc : InC L cs) {K : Lp ((List (Int × Int)) × (List (List Int))) Empty → Unit → Prop}
    (hK : ∀ (sm : List Int), K (.nx (aft L sm x cs, ws ++ [stZ L (cs.filter fun c => decide (c.1 ∈ sm))])) ()) : tellTurn L x (cs, ws) () K := by
  unfold tellTurn
  exact bind_ok (bind_ok (ret_ok (some_any cs hc.l _ fun sm => ⟨_, obind (filt_id cs sm hc.l) (obind (state_ok hL (filt_len cs sm hc.l)) (obind (snoc_small (Nat.lt_trans hl (by decide))) (obind (after_ok hc.l) rfl))), hK sm⟩)))
theorem fold_cons {α β : Type} {g : α → β → Option β} {x : α} {xs : List α} {s t u : β} (h : g x s = some t) (k : foldO g xs t = some u) : foldO g (x :: xs) s = some u := by
  unfold foldO
  rw [h]
  exact k
/-- a loop whose turns add a row each -/
theorem forM_rows {α β ω : Type} {g : α → β × List ω → M Unit (Lp (β × List ω) Empty)} {h : α × ω → β' → Option β'} {I : β → Prop} {st : β → β'}
    (turn : ∀ x b ws, ws.length < 100 → I b → ∀ K : Lp (β × List ω) Empty → Unit → Prop, (∀ b' w, I b' → h (x, w) (st b) = some (st b') → K (.nx (b', ws ++ [w])) ()) → g x (b, ws) () K) :
    ∀ (xs : List α) (b : β) (ws : List ω), xs.length + ws.length ≤ 100 → I b → ∀ (K : Lp (β × List ω) Empty → Unit → Prop),
    (∀ b' ws', I b' → foldO h (List.zip xs ws') (st b) = some (st b') → K (.nx (b', ws ++ ws')) ()) → forM g xs (b, ws) () K
  | [], b, ws, _, hb, K, hk => ret_ok (by
      have := hk b [] hb rfl
      rwa [List.append_nil] at this)
  | x :: xs, b, ws, hl, hb, K, hk => by
    rw [List.length_cons] at hl
    refine forM_cons (turn x b ws (by omega) hb _ fun b1 w h1 h2 => ?_)
    refine forM_rows turn xs b1 (ws ++ [w]) (by rw [List.length_append]; simp only [List.length_singleton]; omega) h1 K fun b2 ws' h3 h4 => ?_
    have := hk b2 (w :: ws') h3 (fold_cons h2 h4)
    rw [List.append_assoc]
    exact this
theorem tell_loop {L : Nat} (hL : L ≤ 2) (xs : List Int) (cs : CS) (ws : List (List Int)) (hl : xs.length + ws.length ≤ 100) (hc : InC L cs) (k : Lp ((List (Int × Int)) × (List (List Int))) Empty → Unit → Prop)
    (hk : ∀ cs' ws', InC L cs' → foldO tellG (List.zip xs ws') (stZ L cs) = some (stZ L cs') → k (.nx (cs', ws ++ ws')) ()) : forM (tellTurn L) xs (cs, ws) () k :=
  forM_rows (h := tellG) (I := InC L) (st := stZ L) (fun x b ws h1 h2 K h3 => tellTurn_ok hL x h1 h2 fun sm => h3 _ _ (h2.aft sm x) (step_ok hL sm h2 x)) xs cs ws hl hc k hk
theorem trees_run {s : List Int} (h : ∀ d : Nat, d < 5 → (treeK s).1 (2 + (d : Int)) = some true) {k : Bool → Unit → Prop} (hk : k true ()) : S__law_trees s () k := by
  rw [(treeK s).2]
  exact bind_ok (bind_ok (ret_ok (bind_ok (pick_any (n := 5) (by omega) (by omega) fun d hd => opt_ok ⟨true, h d hd, hk⟩))))
theorem nums_run {s : List Int} {b : Int} (h : (numO s b).1 = some true) {k : Bool → Unit → Prop} (hk : k true ()) : S__law_numbers s b () k := by
  rw [(numO s b).2]
  exact ⟨true, h, hk⟩
theorem k06_law : S_law () (fun b _ => b = true) := by
  unfold S_law
  refine bind_ok (pick_any (n := 3) (by omega) (by omega) fun L hL => ?_)
  have hL : L ≤ 2 := by omega
  refine bind_ok (bind_ok (bind_ok (pick_any (n := 7) (by omega) (by omega) fun n hn => ⟨nums n, rngG_nat (by omega), ?_⟩)))
  refine lenMap_any (P := fun c : Int × Int => 0 ≤ c.2 ∧ c.2 ≤ L) (nums n) _ (by rw [nums_len]; omega) (fun x _ k' h => one_any (fun k2 h2 => ret_ok (h2 true)) (fun k2 h2 => bind_ok (bind_ok (ret_ok (bind_ok (bind_ok (pick_any (n := L + 1) (by omega) (by omega) fun d hd => bind_ok (ret_ok (ret_ok (ret_ok (ret_ok (h2 _ ⟨by show (0 : Int) ≤ d; omega, by show (d : Int) ≤ L; omega⟩))))))))))) h) fun cs hl hb => ?_
  have hc : InC L cs := ⟨hb, by rw [nums_len] at hl; omega⟩
  refine lift_ok (state_ok hL hc.l) (bind_ok (bind_ok (ret_ok (some_any cs hc.l _ fun sm => ?_))))
  have k := asked_ok hL sm hc
  refine lift_ok (filt_id cs sm hc.l) (lift_ok (state_ok hL (filt_len cs sm hc.l)) (lift_ok (after_ok hc.l) (lift_ok (state_ok hL (hc.aft sm 1).l) (lift_ok (after_ok hc.l) (lift_ok (state_ok hL (hc.aft sm 0).l) ?_)))))
  have pa := k.p.a
  have pb := k.p.b
  rw [← k.h, ← k.a, ← k.y, ← k.n 0 (by decide)] at pa
  rw [← k.h, ← k.y, ← k.n 0 (by decide)] at pb
  refine lift_of pa fun v24 _ pa => lift_of pa fun v25 _ pa => lift_ok pa (iff_ok rfl ?_)
  refine bind_ok (pick_any (n := 6) (by omega) (by omega) fun m hm => ?_)
  refine lift_of (pb m hm) fun v33 _ pb => lift_of pb fun v41 _ pb => lift_of pb fun v42 _ pb => lift_of pb fun v43 _ pb => lift_ok pb (iff_ok rfl ?_)
  refine lift_of (segC_ok hL hm) fun v48 _ pc => lift_of pc fun v49 _ pc => lift_of pc fun v50 _ pc => lift_ok pc (iff_ok rfl ?_)
  obtain ⟨l, e, l1, l2⟩ := stLaw_of hL hc
  have st := stLaw hL l1 l2
  have tr := stTree hL l1 l2
  rw [← e] at st tr
  refine lift_of st.d fun v57 _ pd => lift_of pd fun v60 _ pd => lift_of pd fun v67 _ pd => iff_ok (Option.some.inj pd) ?_
  refine lift_of st.e fun v68 h68 pe => lift_of pe fun v69 _ pe => lift_of pe fun v70 _ pe => lift_ok pe (iff_ok rfl ?_)
  have e68 : v68 = bnd (stZ L cs) := Option.some.inj (h68.symm.trans st.b)
  subst e68
  refine bind_ok (bind_ok (bind_ok (pick_any (n := 4) (by omega) (by omega) fun t ht => ⟨nums t, rngG_nat (by omega), ?_⟩)))
  refine lenMap_any (P := fun _ : Int => True) (nums t) _ (by rw [nums_len]; omega) (fun x _ k' h => one_any (fun k2 h2 => ret_ok (h2 true)) (fun k2 h2 => pick_any (n := 2) (by omega) (by omega) fun d hd => h2 _ trivial) h) fun xs hx _ => ?_
  rw [nums_len] at hx
  refine bind_ok (tell_loop hL xs cs [] (by simp only [List.length_nil]; omega) hc _ fun cs' ws' h1 h3 => ?_)
  refine lift_ok (x := stZ L cs') ?_ (lift_ok (state_ok hL h1.l) (iff_ok (decide_eq_false fun z => z rfl) (bind_ok (bind_ok (nums_run st.n (ift_ok rfl (bind_ok (trees_run tr (ift_ok rfl (one_ok (ret_ok rfl)))))))))))
  unfold S_lies_told
  show (foldO tellG (List.zip xs ([] ++ ws')) _).bind _ = _
  rw [List.nil_append, h3]
  rfl
end Ev

set_option linter.all false
set_option maxRecDepth 100000
namespace Ev
open PySem
/-! the law answers yes at every script -/
theorem lw_start {k : Nat} (L : List D) (m : Mem) : callN fns wF (k + 1) 18 [.d (.lst L)] m = .ok (.f (.lst [.lst L, .int 0, .int 0, .int 7])) m := by
  rw [call_eq (fn := f__law_start) rfl]
  refine run_ret' rfl rfl ?_ rfl
  simp [f__law_start, entry, slotOf, evSs, evS, evX, evXs, asD, asF, opt, Rv.dat, Rv.frs]
theorem run_ret {cs : Cs} {fn : Fn} {as : List Ar} {m m1 : Mem} {v : Rv} (hi : fn.ini = false) (hl : as.length = fn.np) (h : evSs cs fn.body (entry fn as) m = .ok (.ret v) m1) : runF cs fn as m = .ok v (m1.take m.length) := by
  unfold runF
  rw [if_pos (by rw [hi]; simpa using hl), h, hi]
  rfl
set_option maxHeartbeats 40000 in
theorem lw_two {cs : Cs} {ss : Sts} {rest : Fr} {L : List D} (h : cs.f 18 [.d (.lst L)] [] = .ok (.f (.lst [.lst L, .int 0, .int 0, .int 7])) []) :
    evSs cs (.cons (.asgC 1 (.call 18 (.cons (.var 0) .nil))) (.cons (.fgt 0) ss)) (.val (.lst L) :: .un :: rest) [] = evSs cs ss (.un :: .cell 0 :: rest) [stC L 0 0 7] := by
  simp [evSs, evS, evX, evAs, slotAr, varOf, argOf, asF, opt, Rv.frs, isObj, h, stC]
theorem law_body : f_law.body = .cons (.asgC 1 (.call 18 (.cons (.var 0) .nil))) (.cons (.fgt 0) (stDrop 2 f_law.body)) := rfl
set_option maxHeartbeats 40000 in
theorem law_true (ns : List Int) (hl : ns.length ≤ 63) : ∃ m', callN (ds.map (·.fn)) 1000 40 28 [.d (.lst (ns.map .int))] [] = .ok (.d (.bl true)) m' := by
  have e0 : ds.map (·.fn) = fns := rfl
  rw [e0]
  obtain ⟨out, m1, b, s1, h1, h2, h3, h4⟩ := C_law ns 39 (by decide) () _ k06_law [stC (ns.map .int) 0 0 7] ⟨0, 0, 7, rfl, by decide, by decide, by decide⟩
  have h4 : b = true := h4
  subst h4
  rcases h3 with ⟨rv, rfl, h5⟩ | ⟨h5, _⟩
  · have e : rv = .d (.bl true) := by
      cases rv with
      | d d => exact congrArg Rv.d (Option.some.inj h5)
      | f c => cases c <;> cases h5
    subst e
    refine ⟨m1.take 0, (call_eq (fns := fns) (w := 1000) (k := 39) (fn := f_law) rfl _ _).trans (run_ret (m1 := m1) rfl rfl ?_)⟩
    rw [law_body]
    exact (lw_two (lw_start (k := 38) (ns.map .int) [])).trans h1
  · cases h5
end Ev

namespace Ev
open PySem PySem.Spec PyProof.Rows
theorem all_mF : ∀ d ∈ ds, mF tb d = true := by decide +kernel
theorem all_mk {l : PySem.W.OpenLaw} {w : World} {K : PySem.W.Frag} {h : Heap} {mg : Str → Option Value} {fa f0 f1 f2 f3 f4 f5 f6 f7 f8 f9 f10 f11 f12 f13 f14 f15 f16 f17 f18 f19 f20 f21 f22 f23 f24 f25 f26 f27 f28 : Addr} (X : K.In h) (G : h.Ns mainGlobals mg) (hfa : mg "law" = some (.ref fa))
    {od0 an0 : Option Addr} {sl0 : Array (Option Value)} {oc0 kV0 dc0 pm0 cd0 ct0 : Value} (a0 : PySem.W.nsIn K mainGlobals "is_count" = some (some (.ref f0)))
    (l0 : K.lookup f0 = some ⟨oc0, od0, .func (PySem.W.fnOf "is_count" "is_count" (L2.defArgs s_is_count) (L2.defBody s_is_count) (L2.defScope s_is_count) .none kV0 dc0 pm0 an0 cd0 ct0), sl0⟩) (c0 : PySem.W.codeIn K cd0 "is_count" = true) (k0 : PySem.W.keepIn K (.ref f0) = true)
    {od1 an1 : Option Addr} {sl1 : Array (Option Value)} {oc1 kV1 dc1 pm1 cd1 ct1 : Value} (a1 : PySem.W.nsIn K mainGlobals "start_state" = some (some (.ref f1)))
    (l1 : K.lookup f1 = some ⟨oc1, od1, .func (PySem.W.fnOf "start_state" "start_state" (L2.defArgs s_start_state) (L2.defBody s_start_state) (L2.defScope s_start_state) .none kV1 dc1 pm1 an1 cd1 ct1), sl1⟩) (c1 : PySem.W.codeIn K cd1 "start_state" = true) (k1 : PySem.W.keepIn K (.ref f1) = true)
    {od2 an2 : Option Addr} {sl2 : Array (Option Value)} {oc2 kV2 dc2 pm2 cd2 ct2 : Value} (a2 : PySem.W.nsIn K mainGlobals "behind_yes" = some (some (.ref f2)))
    (l2 : K.lookup f2 = some ⟨oc2, od2, .func (PySem.W.fnOf "behind_yes" "behind_yes" (L2.defArgs s_behind_yes) (L2.defBody s_behind_yes) (L2.defScope s_behind_yes) .none kV2 dc2 pm2 an2 cd2 ct2), sl2⟩) (c2 : PySem.W.codeIn K cd2 "behind_yes" = true) (k2 : PySem.W.keepIn K (.ref f2) = true)
    {od3 an3 : Option Addr} {sl3 : Array (Option Value)} {oc3 kV3 dc3 pm3 cd3 ct3 : Value} (a3 : PySem.W.nsIn K mainGlobals "behind_no" = some (some (.ref f3)))
    (l3 : K.lookup f3 = some ⟨oc3, od3, .func (PySem.W.fnOf "behind_no" "behind_no" (L2.defArgs s_behind_no) (L2.defBody s_behind_no) (L2.defScope s_behind_no) .none kV3 dc3 pm3 an3 cd3 ct3), sl3⟩) (c3 : PySem.W.codeIn K cd3 "behind_no" = true) (k3 : PySem.W.keepIn K (.ref f3) = true)
    {od4 an4 : Option Addr} {sl4 : Array (Option Value)} {oc4 kV4 dc4 pm4 cd4 ct4 : Value} (a4 : PySem.W.nsIn K mainGlobals "choose" = some (some (.ref f4)))
    (l4 : K.lookup f4 = some ⟨oc4, od4, .func (PySem.W.fnOf "choose" "choose" (L2.defArgs s_choose) (L2.defBody s_choose) (L2.defScope s_choose) .none kV4 dc4 pm4 an4 cd4 ct4), sl4⟩) (c4 : PySem.W.codeIn K cd4 "choose" = true) (k4 : PySem.W.keepIn K (.ref f4) = true)
    {od5 an5 : Option Addr} {sl5 : Array (Option Value)} {oc5 kV5 dc5 pm5 cd5 ct5 : Value} (a5 : PySem.W.nsIn K mainGlobals "balls" = some (some (.ref f5)))
    (l5 : K.lookup f5 = some ⟨oc5, od5, .func (PySem.W.fnOf "balls" "balls" (L2.defArgs s_balls) (L2.defBody s_balls) (L2.defScope s_balls) .none kV5 dc5 pm5 an5 cd5 ct5), sl5⟩) (c5 : PySem.W.codeIn K cd5 "balls" = true) (k5 : PySem.W.keepIn K (.ref f5) = true)
    {od6 an6 : Option Addr} {sl6 : Array (Option Value)} {oc6 kV6 dc6 pm6 cd6 ct6 : Value} (a6 : PySem.W.nsIn K mainGlobals "volume" = some (some (.ref f6)))
    (l6 : K.lookup f6 = some ⟨oc6, od6, .func (PySem.W.fnOf "volume" "volume" (L2.defArgs s_volume) (L2.defBody s_volume) (L2.defScope s_volume) .none kV6 dc6 pm6 an6 cd6 ct6), sl6⟩) (c6 : PySem.W.codeIn K cd6 "volume" = true) (k6 : PySem.W.keepIn K (.ref f6) = true)
    {od7 an7 : Option Addr} {sl7 : Array (Option Value)} {oc7 kV7 dc7 pm7 cd7 ct7 : Value} (a7 : PySem.W.nsIn K mainGlobals "all_asked" = some (some (.ref f7)))
    (l7 : K.lookup f7 = some ⟨oc7, od7, .func (PySem.W.fnOf "all_asked" "all_asked" (L2.defArgs s_all_asked) (L2.defBody s_all_asked) (L2.defScope s_all_asked) .none kV7 dc7 pm7 an7 cd7 ct7), sl7⟩) (c7 : PySem.W.codeIn K cd7 "all_asked" = true) (k7 : PySem.W.keepIn K (.ref f7) = true)
    {od8 an8 : Option Addr} {sl8 : Array (Option Value)} {oc8 kV8 dc8 pm8 cd8 ct8 : Value} (a8 : PySem.W.nsIn K mainGlobals "can_tell" = some (some (.ref f8)))
    (l8 : K.lookup f8 = some ⟨oc8, od8, .func (PySem.W.fnOf "can_tell" "can_tell" (L2.defArgs s_can_tell) (L2.defBody s_can_tell) (L2.defScope s_can_tell) .none kV8 dc8 pm8 an8 cd8 ct8), sl8⟩) (c8 : PySem.W.codeIn K cd8 "can_tell" = true) (k8 : PySem.W.keepIn K (.ref f8) = true)
    {od9 an9 : Option Addr} {sl9 : Array (Option Value)} {oc9 kV9 dc9 pm9 cd9 ct9 : Value} (a9 : PySem.W.nsIn K mainGlobals "least_asked" = some (some (.ref f9)))
    (l9 : K.lookup f9 = some ⟨oc9, od9, .func (PySem.W.fnOf "least_asked" "least_asked" (L2.defArgs s_least_asked) (L2.defBody s_least_asked) (L2.defScope s_least_asked) .none kV9 dc9 pm9 an9 cd9 ct9), sl9⟩) (c9 : PySem.W.codeIn K cd9 "least_asked" = true) (k9 : PySem.W.keepIn K (.ref f9) = true)
    {od10 an10 : Option Addr} {sl10 : Array (Option Value)} {oc10 kV10 dc10 pm10 cd10 ct10 : Value} (a10 : PySem.W.nsIn K mainGlobals "lie_tree" = some (some (.ref f10)))
    (l10 : K.lookup f10 = some ⟨oc10, od10, .func (PySem.W.fnOf "lie_tree" "lie_tree" (L2.defArgs s_lie_tree) (L2.defBody s_lie_tree) (L2.defScope s_lie_tree) .none kV10 dc10 pm10 an10 cd10 ct10), sl10⟩) (c10 : PySem.W.codeIn K cd10 "lie_tree" = true) (k10 : PySem.W.keepIn K (.ref f10) = true)
    {od11 an11 : Option Addr} {sl11 : Array (Option Value)} {oc11 kV11 dc11 pm11 cd11 ct11 : Value} (a11 : PySem.W.nsIn K mainGlobals "lie_tree_from" = some (some (.ref f11)))
    (l11 : K.lookup f11 = some ⟨oc11, od11, .func (PySem.W.fnOf "lie_tree_from" "lie_tree_from" (L2.defArgs s_lie_tree_from) (L2.defBody s_lie_tree_from) (L2.defScope s_lie_tree_from) .none kV11 dc11 pm11 an11 cd11 ct11), sl11⟩) (c11 : PySem.W.codeIn K cd11 "lie_tree_from" = true) (k11 : PySem.W.keepIn K (.ref f11) = true)
    {od12 an12 : Option Addr} {sl12 : Array (Option Value)} {oc12 kV12 dc12 pm12 cd12 ct12 : Value} (a12 : PySem.W.nsIn K mainGlobals "is_lie_tree" = some (some (.ref f12)))
    (l12 : K.lookup f12 = some ⟨oc12, od12, .func (PySem.W.fnOf "is_lie_tree" "is_lie_tree" (L2.defArgs s_is_lie_tree) (L2.defBody s_is_lie_tree) (L2.defScope s_is_lie_tree) .none kV12 dc12 pm12 an12 cd12 ct12), sl12⟩) (c12 : PySem.W.codeIn K cd12 "is_lie_tree" = true) (k12 : PySem.W.keepIn K (.ref f12) = true)
    {od13 an13 : Option Addr} {sl13 : Array (Option Value)} {oc13 kV13 dc13 pm13 cd13 ct13 : Value} (a13 : PySem.W.nsIn K mainGlobals "least_one_lie" = some (some (.ref f13)))
    (l13 : K.lookup f13 = some ⟨oc13, od13, .func (PySem.W.fnOf "least_one_lie" "least_one_lie" (L2.defArgs s_least_one_lie) (L2.defBody s_least_one_lie) (L2.defScope s_least_one_lie) .none kV13 dc13 pm13 an13 cd13 ct13), sl13⟩) (c13 : PySem.W.codeIn K cd13 "least_one_lie" = true) (k13 : PySem.W.keepIn K (.ref f13) = true)
    {od14 an14 : Option Addr} {sl14 : Array (Option Value)} {oc14 kV14 dc14 pm14 cd14 ct14 : Value} (a14 : PySem.W.nsIn K mainGlobals "is_enough_one" = some (some (.ref f14)))
    (l14 : K.lookup f14 = some ⟨oc14, od14, .func (PySem.W.fnOf "is_enough_one" "is_enough_one" (L2.defArgs s_is_enough_one) (L2.defBody s_is_enough_one) (L2.defScope s_is_enough_one) .none kV14 dc14 pm14 an14 cd14 ct14), sl14⟩) (c14 : PySem.W.codeIn K cd14 "is_enough_one" = true) (k14 : PySem.W.keepIn K (.ref f14) = true)
    {od15 an15 : Option Addr} {sl15 : Array (Option Value)} {oc15 kV15 dc15 pm15 cd15 ct15 : Value} (a15 : PySem.W.nsIn K mainGlobals "bound_by_volume" = some (some (.ref f15)))
    (l15 : K.lookup f15 = some ⟨oc15, od15, .func (PySem.W.fnOf "bound_by_volume" "bound_by_volume" (L2.defArgs s_bound_by_volume) (L2.defBody s_bound_by_volume) (L2.defScope s_bound_by_volume) .none kV15 dc15 pm15 an15 cd15 ct15), sl15⟩) (c15 : PySem.W.codeIn K cd15 "bound_by_volume" = true) (k15 : PySem.W.keepIn K (.ref f15) = true)
    {od16 an16 : Option Addr} {sl16 : Array (Option Value)} {oc16 kV16 dc16 pm16 cd16 ct16 : Value} (a16 : PySem.W.nsIn K mainGlobals "repeated" = some (some (.ref f16)))
    (l16 : K.lookup f16 = some ⟨oc16, od16, .func (PySem.W.fnOf "repeated" "repeated" (L2.defArgs s_repeated) (L2.defBody s_repeated) (L2.defScope s_repeated) .none kV16 dc16 pm16 an16 cd16 ct16), sl16⟩) (c16 : PySem.W.codeIn K cd16 "repeated" = true) (k16 : PySem.W.keepIn K (.ref f16) = true)
    {od17 an17 : Option Addr} {sl17 : Array (Option Value)} {oc17 kV17 dc17 pm17 cd17 ct17 : Value} (a17 : PySem.W.nsIn K mainGlobals "lies_told" = some (some (.ref f17)))
    (l17 : K.lookup f17 = some ⟨oc17, od17, .func (PySem.W.fnOf "lies_told" "lies_told" (L2.defArgs s_lies_told) (L2.defBody s_lies_told) (L2.defScope s_lies_told) .none kV17 dc17 pm17 an17 cd17 ct17), sl17⟩) (c17 : PySem.W.codeIn K cd17 "lies_told" = true) (k17 : PySem.W.keepIn K (.ref f17) = true)
    {od18 an18 : Option Addr} {sl18 : Array (Option Value)} {oc18 kV18 dc18 pm18 cd18 ct18 : Value} (a18 : PySem.W.nsIn K mainGlobals "_law_start" = some (some (.ref f18)))
    (l18 : K.lookup f18 = some ⟨oc18, od18, .func (PySem.W.fnOf "_law_start" "_law_start" (L2.defArgs s__law_start) (L2.defBody s__law_start) (L2.defScope s__law_start) .none kV18 dc18 pm18 an18 cd18 ct18), sl18⟩) (c18 : PySem.W.codeIn K cd18 "_law_start" = true) (k18 : PySem.W.keepIn K (.ref f18) = true)
    {od19 an19 : Option Addr} {sl19 : Array (Option Value)} {oc19 kV19 dc19 pm19 cd19 ct19 : Value} (a19 : PySem.W.nsIn K mainGlobals "_law_pick" = some (some (.ref f19)))
    (l19 : K.lookup f19 = some ⟨oc19, od19, .func (PySem.W.fnOf "_law_pick" "_law_pick" (L2.defArgs s__law_pick) (L2.defBody s__law_pick) (L2.defScope s__law_pick) .none kV19 dc19 pm19 an19 cd19 ct19), sl19⟩) (c19 : PySem.W.codeIn K cd19 "_law_pick" = true) (k19 : PySem.W.keepIn K (.ref f19) = true)
    {od20 an20 : Option Addr} {sl20 : Array (Option Value)} {oc20 kV20 dc20 pm20 cd20 ct20 : Value} (a20 : PySem.W.nsIn K mainGlobals "_law_same" = some (some (.ref f20)))
    (l20 : K.lookup f20 = some ⟨oc20, od20, .func (PySem.W.fnOf "_law_same" "_law_same" (L2.defArgs s__law_same) (L2.defBody s__law_same) (L2.defScope s__law_same) .none kV20 dc20 pm20 an20 cd20 ct20), sl20⟩) (c20 : PySem.W.codeIn K cd20 "_law_same" = true) (k20 : PySem.W.keepIn K (.ref f20) = true)
    {od21 an21 : Option Addr} {sl21 : Array (Option Value)} {oc21 kV21 dc21 pm21 cd21 ct21 : Value} (a21 : PySem.W.nsIn K mainGlobals "_law_state" = some (some (.ref f21)))
    (l21 : K.lookup f21 = some ⟨oc21, od21, .func (PySem.W.fnOf "_law_state" "_law_state" (L2.defArgs s__law_state) (L2.defBody s__law_state) (L2.defScope s__law_state) .none kV21 dc21 pm21 an21 cd21 ct21), sl21⟩) (c21 : PySem.W.codeIn K cd21 "_law_state" = true) (k21 : PySem.W.keepIn K (.ref f21) = true)
    {od22 an22 : Option Addr} {sl22 : Array (Option Value)} {oc22 kV22 dc22 pm22 cd22 ct22 : Value} (a22 : PySem.W.nsIn K mainGlobals "_law_after" = some (some (.ref f22)))
    (l22 : K.lookup f22 = some ⟨oc22, od22, .func (PySem.W.fnOf "_law_after" "_law_after" (L2.defArgs s__law_after) (L2.defBody s__law_after) (L2.defScope s__law_after) .none kV22 dc22 pm22 an22 cd22 ct22), sl22⟩) (c22 : PySem.W.codeIn K cd22 "_law_after" = true) (k22 : PySem.W.keepIn K (.ref f22) = true)
    {od23 an23 : Option Addr} {sl23 : Array (Option Value)} {oc23 kV23 dc23 pm23 cd23 ct23 : Value} (a23 : PySem.W.nsIn K mainGlobals "_law_can" = some (some (.ref f23)))
    (l23 : K.lookup f23 = some ⟨oc23, od23, .func (PySem.W.fnOf "_law_can" "_law_can" (L2.defArgs s__law_can) (L2.defBody s__law_can) (L2.defScope s__law_can) .none kV23 dc23 pm23 an23 cd23 ct23), sl23⟩) (c23 : PySem.W.codeIn K cd23 "_law_can" = true) (k23 : PySem.W.keepIn K (.ref f23) = true)
    {od24 an24 : Option Addr} {sl24 : Array (Option Value)} {oc24 kV24 dc24 pm24 cd24 ct24 : Value} (a24 : PySem.W.nsIn K mainGlobals "_law_ways" = some (some (.ref f24)))
    (l24 : K.lookup f24 = some ⟨oc24, od24, .func (PySem.W.fnOf "_law_ways" "_law_ways" (L2.defArgs s__law_ways) (L2.defBody s__law_ways) (L2.defScope s__law_ways) .none kV24 dc24 pm24 an24 cd24 ct24), sl24⟩) (c24 : PySem.W.codeIn K cd24 "_law_ways" = true) (k24 : PySem.W.keepIn K (.ref f24) = true)
    {od25 an25 : Option Addr} {sl25 : Array (Option Value)} {oc25 kV25 dc25 pm25 cd25 ct25 : Value} (a25 : PySem.W.nsIn K mainGlobals "_law_numbers" = some (some (.ref f25)))
    (l25 : K.lookup f25 = some ⟨oc25, od25, .func (PySem.W.fnOf "_law_numbers" "_law_numbers" (L2.defArgs s__law_numbers) (L2.defBody s__law_numbers) (L2.defScope s__law_numbers) .none kV25 dc25 pm25 an25 cd25 ct25), sl25⟩) (c25 : PySem.W.codeIn K cd25 "_law_numbers" = true) (k25 : PySem.W.keepIn K (.ref f25) = true)
    {od26 an26 : Option Addr} {sl26 : Array (Option Value)} {oc26 kV26 dc26 pm26 cd26 ct26 : Value} (a26 : PySem.W.nsIn K mainGlobals "_law_trees" = some (some (.ref f26)))
    (l26 : K.lookup f26 = some ⟨oc26, od26, .func (PySem.W.fnOf "_law_trees" "_law_trees" (L2.defArgs s__law_trees) (L2.defBody s__law_trees) (L2.defScope s__law_trees) .none kV26 dc26 pm26 an26 cd26 ct26), sl26⟩) (c26 : PySem.W.codeIn K cd26 "_law_trees" = true) (k26 : PySem.W.keepIn K (.ref f26) = true)
    {od27 an27 : Option Addr} {sl27 : Array (Option Value)} {oc27 kV27 dc27 pm27 cd27 ct27 : Value} (a27 : PySem.W.nsIn K mainGlobals "_law_one" = some (some (.ref f27)))
    (l27 : K.lookup f27 = some ⟨oc27, od27, .func (PySem.W.fnOf "_law_one" "_law_one" (L2.defArgs s__law_one) (L2.defBody s__law_one) (L2.defScope s__law_one) .none kV27 dc27 pm27 an27 cd27 ct27), sl27⟩) (c27 : PySem.W.codeIn K cd27 "_law_one" = true) (k27 : PySem.W.keepIn K (.ref f27) = true)
    {od28 an28 : Option Addr} {sl28 : Array (Option Value)} {oc28 kV28 dc28 pm28 cd28 ct28 : Value} (a28 : PySem.W.nsIn K mainGlobals "law" = some (some (.ref f28)))
    (l28 : K.lookup f28 = some ⟨oc28, od28, .func (PySem.W.fnOf "law" "law" (L2.defArgs s_law) (L2.defBody s_law) (L2.defScope s_law) .none kV28 dc28 pm28 an28 cd28 ct28), sl28⟩) (c28 : PySem.W.codeIn K cd28 "law" = true) (k28 : PySem.W.keepIn K (.ref f28) = true)
    (z0 : PySem.W.nsIn K mainGlobals "len" = some none)
    (z1 : PySem.W.nsIn K mainGlobals "abs" = some none)
    (z2 : PySem.W.nsIn K mainGlobals "int" = some none)
    (z3 : PySem.W.nsIn K mainGlobals "bool" = some none)
    (z4 : PySem.W.nsIn K mainGlobals "min" = some none)
    (z5 : PySem.W.nsIn K mainGlobals "max" = some none)
    (z6 : PySem.W.nsIn K mainGlobals "sum" = some none)
    (z7 : PySem.W.nsIn K mainGlobals "all" = some none)
    (z8 : PySem.W.nsIn K mainGlobals "any" = some none)
    (z9 : PySem.W.nsIn K mainGlobals "list" = some none)
    (z10 : PySem.W.nsIn K mainGlobals "tuple" = some none)
    (z11 : PySem.W.nsIn K mainGlobals "sorted" = some none)
    (z12 : PySem.W.nsIn K mainGlobals "range" = some none)
    (z13 : PySem.W.nsIn K mainGlobals "reversed" = some none)
    (z14 : PySem.W.nsIn K mainGlobals "isinstance" = some none)
    (z15 : PySem.W.nsIn K mainGlobals "str" = some none)
    (z16 : PySem.W.nsIn K mainGlobals "zip" = some none)
    (z17 : PySem.W.nsIn K mainGlobals "enumerate" = some none) :
    ∃ fd : FuncData, (∀ (s : Shared) (v : Value), BindsTo s fd ⟨[v], []⟩ [("script", v)]) ∧ ∀ base : Heap, K.In base → base.Ns mainGlobals mg → L2.FnOk l.prog w K mg base (L2.CX l.prog w) 40 fa fd ["script"] (spScript K) := by
  have e := hfa.symm.trans (PySem.W.mg_of X G a28)
  cases e
  have F0 := L2.fun_mk (st := s_is_count) l0 c0 k0
  have b0 : L2.Binds K _ (["value"] : List Str) [] := F0.binds fun _ _ _ _ _ _ us hl => match us, hl with | [_], _ => rfl
  have F1 := L2.fun_mk (st := s_start_state) l1 c1 k1
  have b1 : L2.Binds K _ (["many", "lies"] : List Str) [] := F1.binds fun _ _ _ _ _ _ us hl => match us, hl with | [_, _], _ => rfl
  have F2 := L2.fun_mk (st := s_behind_yes) l2 c2 k2
  have b2 : L2.Binds K _ (["state", "asked"] : List Str) [] := F2.binds fun _ _ _ _ _ _ us hl => match us, hl with | [_, _], _ => rfl
  have F3 := L2.fun_mk (st := s_behind_no) l3 c3 k3
  have b3 : L2.Binds K _ (["state", "asked"] : List Str) [] := F3.binds fun _ _ _ _ _ _ us hl => match us, hl with | [_, _], _ => rfl
  have F4 := L2.fun_mk (st := s_choose) l4 c4 k4
  have b4 : L2.Binds K _ (["many", "size"] : List Str) [] := F4.binds fun _ _ _ _ _ _ us hl => match us, hl with | [_, _], _ => rfl
  have F5 := L2.fun_mk (st := s_balls) l5 c5 k5
  have b5 : L2.Binds K _ (["many", "lies"] : List Str) [] := F5.binds fun _ _ _ _ _ _ us hl => match us, hl with | [_, _], _ => rfl
  have F6 := L2.fun_mk (st := s_volume) l6 c6 k6
  have b6 : L2.Binds K _ (["state", "many"] : List Str) [] := F6.binds fun _ _ _ _ _ _ us hl => match us, hl with | [_, _], _ => rfl
  have F7 := L2.fun_mk (st := s_all_asked) l7 c7 k7
  have b7 : L2.Binds K _ (["state"] : List Str) [] := F7.binds fun _ _ _ _ _ _ us hl => match us, hl with | [_], _ => rfl
  have F8 := L2.fun_mk (st := s_can_tell) l8 c8 k8
  have b8 : L2.Binds K _ (["state", "many", "known"] : List Str) [] := F8.binds fun _ _ _ _ _ _ us hl => match us, hl with | [_, _, _], _ => rfl
  have F9 := L2.fun_mk (st := s_least_asked) l9 c9 k9
  have b9 : L2.Binds K _ (["state", "most"] : List Str) [] := F9.binds fun _ _ _ _ _ _ us hl => match us, hl with | [_, _], _ => rfl
  have F10 := L2.fun_mk (st := s_lie_tree) l10 c10 k10
  have b10 : L2.Binds K _ (["state", "many"] : List Str) [] := F10.binds fun _ _ _ _ _ _ us hl => match us, hl with | [_, _], _ => rfl
  have F11 := L2.fun_mk (st := s_lie_tree_from) l11 c11 k11
  have b11 : L2.Binds K _ (["state", "many", "known"] : List Str) [] := F11.binds fun _ _ _ _ _ _ us hl => match us, hl with | [_, _, _], _ => rfl
  have F12 := L2.fun_mk (st := s_is_lie_tree) l12 c12 k12
  have b12 : L2.Binds K _ (["state", "many", "value"] : List Str) [] := F12.binds fun _ _ _ _ _ _ us hl => match us, hl with | [_, _, _], _ => rfl
  have F13 := L2.fun_mk (st := s_least_one_lie) l13 c13 k13
  have b13 : L2.Binds K _ (["many"] : List Str) [] := F13.binds fun _ _ _ _ _ _ us hl => match us, hl with | [_], _ => rfl
  have F14 := L2.fun_mk (st := s_is_enough_one) l14 c14 k14
  have b14 : L2.Binds K _ (["many", "asked"] : List Str) [] := F14.binds fun _ _ _ _ _ _ us hl => match us, hl with | [_, _], _ => rfl
  have F15 := L2.fun_mk (st := s_bound_by_volume) l15 c15 k15
  have b15 : L2.Binds K _ (["state"] : List Str) [] := F15.binds fun _ _ _ _ _ _ us hl => match us, hl with | [_], _ => rfl
  have F16 := L2.fun_mk (st := s_repeated) l16 c16 k16
  have b16 : L2.Binds K _ (["questions", "lies"] : List Str) [] := F16.binds fun _ _ _ _ _ _ us hl => match us, hl with | [_, _], _ => rfl
  have F17 := L2.fun_mk (st := s_lies_told) l17 c17 k17
  have b17 : L2.Binds K _ (["state", "answers", "asked_rows"] : List Str) [] := F17.binds fun _ _ _ _ _ _ us hl => match us, hl with | [_, _, _], _ => rfl
  have F18 := L2.fun_mk (st := s__law_start) l18 c18 k18
  have b18 : L2.Binds K _ (["script"] : List Str) [] := F18.binds fun _ _ _ _ _ _ us hl => match us, hl with | [_], _ => rfl
  have F19 := L2.fun_mk (st := s__law_pick) l19 c19 k19
  have b19 : L2.Binds K _ (["state", "limit"] : List Str) [] := F19.binds fun _ _ _ _ _ _ us hl => match us, hl with | [_, _], _ => rfl
  have F20 := L2.fun_mk (st := s__law_same) l20 c20 k20
  have b20 : L2.Binds K _ (["told", "due"] : List Str) [] := F20.binds fun _ _ _ _ _ _ us hl => match us, hl with | [_, _], _ => rfl
  have F21 := L2.fun_mk (st := s__law_state) l21 c21 k21
  have b21 : L2.Binds K _ (["cases", "lies"] : List Str) [] := F21.binds fun _ _ _ _ _ _ us hl => match us, hl with | [_, _], _ => rfl
  have F22 := L2.fun_mk (st := s__law_after) l22 c22 k22
  have b22 : L2.Binds K _ (["cases", "some", "answer", "lies"] : List Str) [] := F22.binds fun _ _ _ _ _ _ us hl => match us, hl with | [_, _, _, _], _ => rfl
  have F23 := L2.fun_mk (st := s__law_can) l23 c23 k23
  have b23 : L2.Binds K _ (["state", "many"] : List Str) [] := F23.binds fun _ _ _ _ _ _ us hl => match us, hl with | [_, _], _ => rfl
  have F24 := L2.fun_mk (st := s__law_ways) l24 c24 k24
  have b24 : L2.Binds K _ (["many", "lies"] : List Str) [] := F24.binds fun _ _ _ _ _ _ us hl => match us, hl with | [_, _], _ => rfl
  have F25 := L2.fun_mk (st := s__law_numbers) l25 c25 k25
  have b25 : L2.Binds K _ (["state", "here", "bound"] : List Str) [] := F25.binds fun _ _ _ _ _ _ us hl => match us, hl with | [_, _, _], _ => rfl
  have F26 := L2.fun_mk (st := s__law_trees) l26 c26 k26
  have b26 : L2.Binds K _ (["state", "here"] : List Str) [] := F26.binds fun _ _ _ _ _ _ us hl => match us, hl with | [_, _], _ => rfl
  have F27 := L2.fun_mk (st := s__law_one) l27 c27 k27
  have b27 : L2.Binds K _ (["state"] : List Str) [] := F27.binds fun _ _ _ _ _ _ us hl => match us, hl with | [_], _ => rfl
  have F28 := L2.fun_mk (st := s_law) l28 c28 k28
  have b28 : L2.Binds K _ (["script"] : List Str) [] := F28.binds fun _ _ _ _ _ _ us hl => match us, hl with | [_], _ => rfl
  have D : DfOk ⟨w, K, fun _ => 0, fun _ => []⟩ mg ds := fun f d hd => match f, hd with
    | 0, rfl => ⟨_, _, F0, b0, PySem.W.mg_of X G a0⟩
    | 1, rfl => ⟨_, _, F1, b1, PySem.W.mg_of X G a1⟩
    | 2, rfl => ⟨_, _, F2, b2, PySem.W.mg_of X G a2⟩
    | 3, rfl => ⟨_, _, F3, b3, PySem.W.mg_of X G a3⟩
    | 4, rfl => ⟨_, _, F4, b4, PySem.W.mg_of X G a4⟩
    | 5, rfl => ⟨_, _, F5, b5, PySem.W.mg_of X G a5⟩
    | 6, rfl => ⟨_, _, F6, b6, PySem.W.mg_of X G a6⟩
    | 7, rfl => ⟨_, _, F7, b7, PySem.W.mg_of X G a7⟩
    | 8, rfl => ⟨_, _, F8, b8, PySem.W.mg_of X G a8⟩
    | 9, rfl => ⟨_, _, F9, b9, PySem.W.mg_of X G a9⟩
    | 10, rfl => ⟨_, _, F10, b10, PySem.W.mg_of X G a10⟩
    | 11, rfl => ⟨_, _, F11, b11, PySem.W.mg_of X G a11⟩
    | 12, rfl => ⟨_, _, F12, b12, PySem.W.mg_of X G a12⟩
    | 13, rfl => ⟨_, _, F13, b13, PySem.W.mg_of X G a13⟩
    | 14, rfl => ⟨_, _, F14, b14, PySem.W.mg_of X G a14⟩
    | 15, rfl => ⟨_, _, F15, b15, PySem.W.mg_of X G a15⟩
    | 16, rfl => ⟨_, _, F16, b16, PySem.W.mg_of X G a16⟩
    | 17, rfl => ⟨_, _, F17, b17, PySem.W.mg_of X G a17⟩
    | 18, rfl => ⟨_, _, F18, b18, PySem.W.mg_of X G a18⟩
    | 19, rfl => ⟨_, _, F19, b19, PySem.W.mg_of X G a19⟩
    | 20, rfl => ⟨_, _, F20, b20, PySem.W.mg_of X G a20⟩
    | 21, rfl => ⟨_, _, F21, b21, PySem.W.mg_of X G a21⟩
    | 22, rfl => ⟨_, _, F22, b22, PySem.W.mg_of X G a22⟩
    | 23, rfl => ⟨_, _, F23, b23, PySem.W.mg_of X G a23⟩
    | 24, rfl => ⟨_, _, F24, b24, PySem.W.mg_of X G a24⟩
    | 25, rfl => ⟨_, _, F25, b25, PySem.W.mg_of X G a25⟩
    | 26, rfl => ⟨_, _, F26, b26, PySem.W.mg_of X G a26⟩
    | 27, rfl => ⟨_, _, F27, b27, PySem.W.mg_of X G a27⟩
    | 28, rfl => ⟨_, _, F28, b28, PySem.W.mg_of X G a28⟩
    | _ + 29, hd => nomatch hd
  have P : PgOk ⟨w, K, fun _ => 0, fun _ => []⟩ mg tb ds := ⟨rfl, all_mF, D, fun x hx => by
    simp only [bnames, List.mem_cons, List.not_mem_nil, or_false] at hx
    rcases hx with rfl | rfl | rfl | rfl | rfl | rfl | rfl | rfl | rfl | rfl | rfl | rfl | rfl | rfl | rfl | rfl | rfl | rfl
    · exact PySem.W.mg_none_of X G z0
    · exact PySem.W.mg_none_of X G z1
    · exact PySem.W.mg_none_of X G z2
    · exact PySem.W.mg_none_of X G z3
    · exact PySem.W.mg_none_of X G z4
    · exact PySem.W.mg_none_of X G z5
    · exact PySem.W.mg_none_of X G z6
    · exact PySem.W.mg_none_of X G z7
    · exact PySem.W.mg_none_of X G z8
    · exact PySem.W.mg_none_of X G z9
    · exact PySem.W.mg_none_of X G z10
    · exact PySem.W.mg_none_of X G z11
    · exact PySem.W.mg_none_of X G z12
    · exact PySem.W.mg_none_of X G z13
    · exact PySem.W.mg_none_of X G z14
    · exact PySem.W.mg_none_of X G z15
    · exact PySem.W.mg_none_of X G z16
    · exact PySem.W.mg_none_of X G z17
    , fun x d hc => (by cases hc), tyF_all⟩
  exact ⟨_, fun s v => .of_eq rfl, fun base _ _ => law_ok (P := l.prog) (base := base) (fu := 1000) P (show ds[28]? = some d_law from rfl) F28 law_true⟩
theorem walk {l : PySem.W.OpenLaw} {q : Program} {loose : List Str} {XP : (Str → Option Value) → Heap → Prop} {YP : World → Heap → Prop} {d : DefRec} {K : Params → PySem.W.Frag} (hn : l.most = some 63) (hdf : d.params.defaults = [])
    (hY : ∀ (w : World) (h : Heap), YP w h → (K w.params).In h)
    (F : ∀ (w : World) (mg : Str → Option Value) (fa : Addr) (h : Heap), (K w.params).In h → h.Ns mainGlobals mg → mg d.name = some (.ref fa) →
      ∃ fd : FuncData, (∀ (s : Shared) (u : Value), BindsTo s fd ⟨[u], []⟩ [("script", u)]) ∧ ∀ base : Heap, (K w.params).In base → base.Ns mainGlobals mg → L2.FnOk l.prog w (K w.params) mg base (L2.CX l.prog w) 40 fa fd ["script"] (spScript (K w.params))) :
    PySem.W.WalkO q loose XP YP l.row.toRowW d [] (fun f vs => PySem.call f vs) :=
  L2.walk_of (n := 63) (k := 40) (x := "script") (CX := fun w => L2.CX l.prog w) (sp := fun w => spScript (K w.params)) hn (by decide) hdf ⟨rfl, by decide, by decide⟩ hY F (fun _ _ a ns hl _ hS => ⟨a, ns, rfl, hS, hl, fun _ => rfl⟩) fun _ _ _ _ _ h => by
    obtain ⟨_, _, _, _, _, _, _, _, _, _, _, _, z⟩ := h
    exact z.elim
end Ev
open PySem PySem.W PyProof.Rows
set_option maxRecDepth 100000 in
set_option maxHeartbeats 0 in
theorem PySem.Challenge.cw_foundasked_k06_whole_lies_holds : PySem.Challenge.rw_foundasked_k06_whole_lies.Holds := by
  w_on; o_law; k_head; (case hw => w_witness2)
  k_fill
  refine Ev.walk (l := PySem.Challenge.rw_foundasked_k06_whole_lies) rfl rfl (fun w h Y => PySem.W.kIn_of Y) ?F
  case F =>
    intro w mg fa h KX G hmg
    refine' Ev.all_mk KX G hmg ?a0 ?l0 ?c0 ?k0 ?a1 ?l1 ?c1 ?k1 ?a2 ?l2 ?c2 ?k2 ?a3 ?l3 ?c3 ?k3 ?a4 ?l4 ?c4 ?k4 ?a5 ?l5 ?c5 ?k5 ?a6 ?l6 ?c6 ?k6 ?a7 ?l7 ?c7 ?k7 ?a8 ?l8 ?c8 ?k8 ?a9 ?l9 ?c9 ?k9 ?a10 ?l10 ?c10 ?k10 ?a11 ?l11 ?c11 ?k11 ?a12 ?l12 ?c12 ?k12 ?a13 ?l13 ?c13 ?k13 ?a14 ?l14 ?c14 ?k14 ?a15 ?l15 ?c15 ?k15 ?a16 ?l16 ?c16 ?k16 ?a17 ?l17 ?c17 ?k17 ?a18 ?l18 ?c18 ?k18 ?a19 ?l19 ?c19 ?k19 ?a20 ?l20 ?c20 ?k20 ?a21 ?l21 ?c21 ?k21 ?a22 ?l22 ?c22 ?k22 ?a23 ?l23 ?c23 ?k23 ?a24 ?l24 ?c24 ?k24 ?a25 ?l25 ?c25 ?k25 ?a26 ?l26 ?c26 ?k26 ?a27 ?l27 ?c27 ?k27 ?a28 ?l28 ?c28 ?k28 ?z0 ?z1 ?z2 ?z3 ?z4 ?z5 ?z6 ?z7 ?z8 ?z9 ?z10 ?z11 ?z12 ?z13 ?z14 ?z15 ?z16 ?z17
    (case a0 => k_is); (case l0 => k_is); (case c0 => k_is); (case k0 => k_is)
    (case a1 => k_is); (case l1 => k_is); (case c1 => k_is); (case k1 => k_is)
    (case a2 => k_is); (case l2 => k_is); (case c2 => k_is); (case k2 => k_is)
    (case a3 => k_is); (case l3 => k_is); (case c3 => k_is); (case k3 => k_is)
    (case a4 => k_is); (case l4 => k_is); (case c4 => k_is); (case k4 => k_is)
    (case a5 => k_is); (case l5 => k_is); (case c5 => k_is); (case k5 => k_is)
    (case a6 => k_is); (case l6 => k_is); (case c6 => k_is); (case k6 => k_is)
    (case a7 => k_is); (case l7 => k_is); (case c7 => k_is); (case k7 => k_is)
    (case a8 => k_is); (case l8 => k_is); (case c8 => k_is); (case k8 => k_is)
    (case a9 => k_is); (case l9 => k_is); (case c9 => k_is); (case k9 => k_is)
    (case a10 => k_is); (case l10 => k_is); (case c10 => k_is); (case k10 => k_is)
    (case a11 => k_is); (case l11 => k_is); (case c11 => k_is); (case k11 => k_is)
    (case a12 => k_is); (case l12 => k_is); (case c12 => k_is); (case k12 => k_is)
    (case a13 => k_is); (case l13 => k_is); (case c13 => k_is); (case k13 => k_is)
    (case a14 => k_is); (case l14 => k_is); (case c14 => k_is); (case k14 => k_is)
    (case a15 => k_is); (case l15 => k_is); (case c15 => k_is); (case k15 => k_is)
    (case a16 => k_is); (case l16 => k_is); (case c16 => k_is); (case k16 => k_is)
    (case a17 => k_is); (case l17 => k_is); (case c17 => k_is); (case k17 => k_is)
    (case a18 => k_is); (case l18 => k_is); (case c18 => k_is); (case k18 => k_is)
    (case a19 => k_is); (case l19 => k_is); (case c19 => k_is); (case k19 => k_is)
    (case a20 => k_is); (case l20 => k_is); (case c20 => k_is); (case k20 => k_is)
    (case a21 => k_is); (case l21 => k_is); (case c21 => k_is); (case k21 => k_is)
    (case a22 => k_is); (case l22 => k_is); (case c22 => k_is); (case k22 => k_is)
    (case a23 => k_is); (case l23 => k_is); (case c23 => k_is); (case k23 => k_is)
    (case a24 => k_is); (case l24 => k_is); (case c24 => k_is); (case k24 => k_is)
    (case a25 => k_is); (case l25 => k_is); (case c25 => k_is); (case k25 => k_is)
    (case a26 => k_is); (case l26 => k_is); (case c26 => k_is); (case k26 => k_is)
    (case a27 => k_is); (case l27 => k_is); (case c27 => k_is); (case k27 => k_is)
    (case a28 => k_is); (case l28 => k_is); (case c28 => k_is); (case k28 => k_is)
    (case z0 => k_is); (case z1 => k_is); (case z2 => k_is); (case z3 => k_is); (case z4 => k_is); (case z5 => k_is); (case z6 => k_is); (case z7 => k_is); (case z8 => k_is); (case z9 => k_is); (case z10 => k_is); (case z11 => k_is); (case z12 => k_is); (case z13 => k_is); (case z14 => k_is); (case z15 => k_is); (case z16 => k_is); (case z17 => k_is)
