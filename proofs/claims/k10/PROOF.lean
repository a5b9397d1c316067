import PyProof.Rows.All
import Wide.All
import OpenK.AllK
import Wide.FinOn
import HandS.TupMul
import HandS.ForMost
import HandS.Flow
import HandS.IsInst
import HandS.Walk
import HandS.Wide
import KE.DataEq
import KE.SortData
import PyProof.StrBlock2
import HandS.ExcOwn
import HandS.CallSlots
import HandS.TupAny
import HandS.Deep
import HandS.DictComp
import HandS.SortInts
import KE.GoesNew
import PyProof.EnumMake
import PyProof.Draws
import HandS.Iter
import HandS.List
import KE.DataAny
import HandS.Defaults
import HandS.Rev
import HandS.Comp
import HandS.ExcCtx
import HandS.HotCalls
import HandS.Conv
import HandS.SetKeys
import HandS.SetFor
import HandS.Finally
import KE.KExcIs
import HandS.ExcField
import HandS.ExcIs
import HandS.ExcInit
import HandS.HeadHook1
import HandS.HeadHook2
import Lean
import KE.KStateDown
import HandS.Ends
import HandS.More
import HandS.Words
import HandS.WordsExc
import HandS.Head0
import HandS.Head1
import HandS.Head2
import HandS.HeadEnd
import PySem.Challenge.RW_hornroads_k10_rows_looked_at
import PyProof.StrLawsIn
set_option Elab.async false
set_option linter.all false
set_option maxRecDepth 100000
set_option maxHeartbeats 4000000
/-! tuple * int: by 1, of the empty tuple, by nothing. -/
namespace Hr
open PySem PySem.Spec PyProof.Rows L2
theorem tuple_mulS (l : Addr) (items : Array Value) (n : Nat) (dd : Option Addr) (sl : Array (Option Value)) (x : Int) (u : Tok) (c0 : (decide (x < -(2 ^ 63)) || decide (x ≥ 2 ^ 63)) = false) (c1 : (items.isEmpty || x == 1) = true) :
    Meets (Builtin.«tuple.__mul__» ⟨[.ref l, .int x u], []⟩) (fun _ R s => s.heap.get? l = some { cls := .type "tuple", dict := dd, data := .seq items n, slots := sl } ∧ R (.ok (.ret (Value.ref l))) s) :=
  .of_wp fun prog w A R s h => by
    obtain ⟨hp, g, d, tk, os⟩ := s
    obtain ⟨hl, h⟩ := h
    have f1 := AutoSeq1.idx_int
    wp_walk using wpAny_loadPart' hl
    have nc : ¬ (decide (x < -(2 ^ 63)) || decide (x ≥ 2 ^ 63)) = true := fun z => Bool.false_ne_true (c0.symm.trans z)
    refine wpAny_ite_false (decide_eq_false nc) ?_
    wp_walk using wpAny_loadPart' hl
    exact ⟨_, rfl, h⟩
theorem tuple_mul0 (l : Addr) (items : Array Value) (n : Nat) (dd : Option Addr) (sl : Array (Option Value)) (x : Int) (u : Tok) (c0 : (decide (x < -(2 ^ 63)) || decide (x ≥ 2 ^ 63)) = false) (c1 : (items.isEmpty || x == 1) = false) (c2 : (decide (x ≤ 0) || items.isEmpty) = true) :
    Meets (Builtin.«tuple.__mul__» ⟨[.ref l, .int x u], []⟩) (fun _ R s => s.heap.get? l = some { cls := .type "tuple", dict := dd, data := .seq items n, slots := sl } ∧
      R (.ok (.ret (Value.ref s.heap.objs.size))) { s with heap := s.heap.push { cls := Value.type "tuple", data := Data.seq #[] }, toks := s.toks }) :=
  .of_wp fun prog w A R s h => by
    obtain ⟨hp, g, d, tk, os⟩ := s
    obtain ⟨hl, h⟩ := h
    have f1 := AutoSeq1.idx_int
    wp_walk using wpAny_loadPart' hl
    have nc : ¬ (decide (x < -(2 ^ 63)) || decide (x ≥ 2 ^ 63)) = true := fun z => Bool.false_ne_true (c0.symm.trans z)
    refine wpAny_ite_false (decide_eq_false nc) ?_
    wp_walk using wpAny_loadPart' hl
    exact ⟨_, rfl, h⟩
theorem range_ok {k : Int} (h1 : -1000 ≤ k) (h2 : k ≤ 1000) : (decide (k < -(2 ^ 63)) || decide (k ≥ 2 ^ 63)) = false := by
  rw [Bool.or_eq_false_iff]
  exact ⟨decide_eq_false (by omega), decide_eq_false (by omega)⟩
/-- the tuple itself, or the empty one anew -/
theorem op_repS {X : Cx} : OpR X (binaryOp .Mult) (fun x y H Q => ∃ l k xs, x = .ref l ∧ y = .int k ∧ SqT X.K H l xs ∧ -1000 ≤ k ∧ k ≤ 1000 ∧ ((xs = [] ∨ k = 1) ∧ Q (.ref l) H ∨ xs ≠ [] ∧ k ≤ 0 ∧ ∀ p, H p = none → Q (.ref p) (upd H p (.tup [])))) := by
  intro pins s σ H x y v u Q I rx ry ⟨l, k, xs, ex, ey, hT, h1, h2, q⟩
  subst ex ey
  cases rx
  obtain ⟨t, rfl⟩ := ry
  obtain ⟨its, r, ⟨⟨cls, dd, data, sl⟩, ho, hc, n, hd⟩, hs⟩ := I.tuple hT
  simp only at hc hd
  subst hc hd
  have le := r.length
  have c0 := range_ok h1 h2
  refine wpAny_binaryOp_repeat_ref (T := "tuple") (U := "int") (id := "tuple.__mul__") (by decide) ⟨_, ho, rfl⟩ (fun z => typeIs_int z k t) noFill_tuple_mul F.fills_int_mul F.slot_int_rmul repeat_tuple F.slot_int_index.lookup ?_
  have decl := int_rmul_tuple k t l its.toArray n dd sl
  refine call_meets F.slot_int_rmul (typeIs_int s k t) F.entry_int_rmul (F.args_int_rmul_2 _ _) decl ⟨ho, rfl, ⟨_, ho, rfl⟩, ?_⟩
  rcases q with ⟨c, q⟩ | ⟨c, d, q⟩
  · have c1 : (its.toArray.isEmpty || k == 1) = true := by
      rcases c with c | c
      · subst c
        cases its with
        | nil => rfl
        | cons _ _ => simp at le
      · subst c
        simp
    exact call_meets F.slot_tuple_mul ⟨_, ho, rfl⟩ F.entry_tuple_mul (F.args_tuple_mul_2 _ _) (tuple_mulS l its.toArray n dd sl k t c0 c1) ⟨ho, .ref l, H, I, rfl, q⟩
  · have ne : its.toArray.isEmpty = false := by
      cases its with
      | nil => exact absurd (List.eq_nil_of_length_eq_zero le) c
      | cons _ _ => rfl
    have c1 : (its.toArray.isEmpty || k == 1) = false := by
      rw [ne, Bool.false_or]
      exact beq_eq_false_iff_ne.mpr (by omega)
    have c2 : (decide (k ≤ 0) || its.toArray.isEmpty) = true := by rw [decide_eq_true d]; rfl
    refine call_meets F.slot_tuple_mul ⟨_, ho, rfl⟩ F.entry_tuple_mul (F.args_tuple_mul_2 _ _) (tuple_mul0 l its.toArray n dd sl k t c0 c1 c2) ⟨ho, ?_⟩
    exact ⟨.ref s.heap.objs.size, _, I.laid (t' := s.toks) (o := .tup []) (fun b ob z => Heap.get?_push_of_some _ z) (Nat.le_refl _) ⟨Nat.zero_le _, _, .nil, IsTup.new _ _⟩, rfl, q _ (I.hok.fresh (Nat.le_refl _))⟩
end Hr
/-! A small language of pure values over the hand layer: its codes and their meaning. -/
namespace Hr
open PySem

inductive D where
  | non | bl (b : Bool) | int (i : Int) | str (s : Str)
  | tup (xs : List D) | lst (xs : List D) | dct (ks vs : List D)
  | ro (xs : List D)
  | ref (n : Nat)
  deriving Inhabited

structure Exn where
  cls : Nat
  args : List (Str × D)
inductive Cell where
  | lst (xs : List D) | dct (ks vs : List D) | ins (c : Nat) (fs : List (Str × D)) | exn (x : Exn)
  deriving Inhabited
abbrev Hv := List Cell
inductive Rs (α : Type) where
  | no | ok (a : α) (h : Hv) | ex (x : Exn) (h : Hv)
def Rs.bind {α β : Type} (r : Rs α) (f : α → Hv → Rs β) : Rs β :=
  match r with
  | .no => .no
  | .ok a h => f a h
  | .ex x h => .ex x h
/-- what raises is not told -/
def Rs.quiet {α : Type} : Rs α → Rs α
  | .ex _ _ => .no
  | r => r
abbrev En := List (Option D)
inductive So where
  | no | nx (e : En) (h : Hv) | rt (d : D) (h : Hv) | bk (e : En) (h : Hv) | ct (e : En) (h : Hv) | ex (x : Exn) (e : En) (h : Hv)

/-- classes for isinstance: a built-in type by its name, an own class by its number -/
inductive Cl where
  | ty (n : String) | own (i : Nat)
inductive Bi where
  | len | abs | max | min | int | list | tuple | sum | any | all | repr | sorted
  deriving DecidableEq
inductive Mt where
  | append | pop | popAt | clear | extend
  deriving DecidableEq
def Mt.ty : Mt → String
  | _ => "list"
/-- strict operations on values, told by their form in the text -/
inductive Op where
  | lrng | trng | lenset | disp (n : Nat) | keysL | dclr | sortd | suml
  deriving DecidableEq
/-- methods of dicts -/
inductive Dm where
  | setd | get2
  deriving DecidableEq
/-- targets -/
inductive Tc where
  | nm (i : Nat) | tp (ts : List Tc)
mutual
inductive Ec where
  | lit (d : D)
  | var (i : Nat)
  | glo (i : Nat)
  | neg (a : Ec)
  | not_ (a : Ec)
  | bin (m : Bool) (o : Operator) (a b : Ec)
  | cmp (o : CmpOp) (a b : Ec)
  | chain (o p : CmpOp) (a b c : Ec)
  | and_ (a b : Ec)
  | or_ (a b : Ec)
  | cond (c a b : Ec)
  | tup (es : List Ec)
  | lst (m : Bool) (es : List Ec)
  | dnew (m : Bool)
  | idx (a b : Ec)
  | cut (m : Bool) (a : Ec) (lo hi : Option Ec)
  | call (f : Nat) (raw : Bool) (es : List Ec)
  | fld (c : Nat) (a : Ec) (f : Str)
  | meth (c : Nat) (m : Str) (i : Nat) (raw : Bool) (o : Ec) (es : List Ec)
  | make (c : Nat) (i : Nat) (es : List Ec)
  | bi (m : Bool) (b : Bi) (es : List Ec)
  | isi (e : Ec) (cs : List Cl)
  | mt (t : Mt) (o : Ec) (es : List Ec)
  | comp (m : Bool) (e : Ec) (t : Tc) (it : Ic) (c : Option Ec) (own : List Nat)
  | exF (f : Str)
  | exIs (tab : List (Nat × Bool))
  | kxF (e : Ec) (f : Str)
  | kxIs (e : Ec) (tab : List (Nat × Bool))
  | opn (m : Bool) (o : Op) (es : List Ec)
  | dmt (t : Dm) (o a b : Ec)
  | callK (f : Nat) (raw : Bool) (pm : List Nat) (es : List Ec)
  | lcomp2 (m : Bool) (e : Ec) (t : Tc) (it : Ic) (own : List Nat) (c : Option Ec) (t1 : Tc) (it1 : Ic) (own1 : List Nat) (c1 : Option Ec)
  | dcomp2 (m : Bool) (ke ve : Ec) (t : Tc) (it : Ic) (own : List Nat) (t1 : Tc) (it1 : Ic) (own1 : List Nat)
  | bad
inductive Ic where
  | seq (e : Ec)
  | rng1 (a : Ec)
  | rng2 (a b : Ec)
  | zip (a b : Ec)
  | enum (a : Ec)
  | rev (a : Ec)
end
inductive Sc where
  | set (i : Nat) (e : Ec)
  | unp (t : Tc) (e : Ec)
  | par (i j : Nat) (a b : Ec)
  | setIx (a i e : Ec)
  | aug (i : Nat) (o : Operator) (e : Ec)
  | augIx (a i : Ec) (o : Operator) (e : Ec)
  | setF (c : Nat) (a : Ec) (f : Str) (e : Ec)
  | ex (e : Ec)
  | ret (e : Ec)
  | ret0
  | pass
  | brk
  | cont
  | ite (c : Ec) (a b : List Sc)
  | whl (c : Ec) (b : List Sc)
  | for_ (it : Ic) (t : Tc) (b : List Sc)
  | raise_
  | raise0 (c : Nat)
  | raise1 (c : Nat) (f : Str) (e : Ec)
  | tryx (c : Nat) (i : Nat) (b s : List Sc)
  | keepx (c i k : Nat) (b : List Sc)
structure Fc where
  name : Str
  np : Nat
  names : List Str
  body : List Sc
  dfl : List D := []
  cls : Option Nat := none

/-! ### what operations give -/
def mkL (m : Bool) (ds : List D) (h : Hv) : Rs D := if m then .ok (.ref h.length) (h ++ [.lst ds]) else .ok (.lst ds) h
/-- the items of a list, by value or at a cell -/
def asL (h : Hv) : D → Option (List D)
  | .lst ds => some ds
  | .ref n => match h[n]? with
    | some (.lst ds) => some ds
    | _ => none
  | _ => none
/-- what holds of the heap while it stands as it was read -/
def stays (h : Hv) : D → Hv → Prop
  | .ref n, h' => h'[n]? = h[n]?
  | _, _ => True
def mkDc (m : Bool) (ks vs : List D) (h : Hv) : Rs D := if m then .ok (.ref h.length) (h ++ [.dct ks vs]) else .ok (.dct ks vs) h
def asS (h : Hv) : D → Option (List D)
  | .tup ds => some ds
  | .ro ds => some ds
  | d => asL h d
/-- the items of a list that is read -/
def asR (h : Hv) : D → Option (List D)
  | .ro ds => some ds
  | d => asL h d
/-- a key that is a number or a text -/
def keyD : D → Option L2.Key
  | .int i => some (.inl i)
  | .str s => some (.inr s)
  | _ => none
def keysD : List D → Option (List L2.Key)
  | [] => some []
  | d :: ds => (keyD d).bind fun k => (keysD ds).map (k :: ·)
/-- a dict, by value or at a cell -/
def dctAt (h : Hv) : D → Option (List D × List D)
  | .dct ks vs => some (ks, vs)
  | .ref n => match h[n]? with
    | some (.dct ks vs) => some (ks, vs)
    | _ => none
  | _ => none
def findK {α : Type} (kk : List L2.Key) (q : L2.Key) (vs : List α) : Option α := ((kk.zip vs).find? fun p => decide (p.1 = q)).map (·.2)
def hasK (kk : List L2.Key) (q : L2.Key) : Bool := kk.any fun k => decide (k = q)
def putF {α : Type} (kk : List L2.Key) (q : L2.Key) (v : α) (vs : List α) : List α := (kk.zip vs).map fun p => if p.1 = q then v else p.2
def dGetD (ks vs : List D) (k : D) : Option D := (keysD ks).bind fun kk => (keyD k).bind fun q => findK kk q vs
def hasD (ks : List D) (k : D) : Option Bool := (keysD ks).bind fun kk => (keyD k).map fun q => hasK kk q
def putD (ks vs : List D) (k v : D) : Option (List D × List D) := (keysD ks).bind fun kk => (keyD k).bind fun q =>
  if ks.length < sizeLine then some (if hasK kk q then (ks, putF kk q v vs) else (ks ++ [k], vs ++ [v])) else none
/-- a key as plain data -/
def keyP : L2.Key → PyData
  | .inl i => .int i
  | .inr s => .str s
mutual
/-- no list within -/
def lfree : PyData → Bool
  | .list _ => false
  | .tuple xs => lfrees xs
  | .dict kvs => lfreeK kvs
  | _ => true
def lfrees : List PyData → Bool
  | [] => true
  | x :: xs => lfree x && lfrees xs
def lfreeK : List (PyData × PyData) → Bool
  | [] => true
  | (_, v) :: r => lfree v && lfreeK r
end
mutual
def strip (f : Nat → Option PyData) : D → Option PyData
  | .non => some .none
  | .bl b => some (.bool b)
  | .int i => some (.int i)
  | .str s => some (.str s)
  | .tup xs => (strips f xs).map .tuple
  | .lst xs => (strips f xs).map .list
  | .ro xs => (strips f xs).map .list
  | .dct ks vs => (keysD ks).bind fun kk => (strips f vs).map fun ps => .dict ((kk.map keyP).zip ps)
  | .ref n => f n
def strips (f : Nat → Option PyData) : List D → Option (List PyData)
  | [] => some []
  | d :: ds => (strip f d).bind fun x => (strips f ds).map (x :: ·)
end
def cellP (h : Hv) (g : Nat → Option PyData) (n : Nat) : Option PyData := match h[n]? with
  | some (.lst ds) => (strips g ds).map .list
  | _ => none
/-- a value as plain data; lists at cells two deep -/
def toP (h : Hv) : D → Option PyData := strip (cellP h (cellP h (fun _ => none)))
/-- no dict within, not too deep -/
def shp (a : PyData) : Bool := a.plain && decide (a.depth ≤ 60)
def eqL (h : Hv) (x y : D) : Option Bool := (toP h x).bind fun a => (toP h y).bind fun b => if shp a && shp b then some (PyData.eqv a b) else none
/-- two lists of other lengths -/
def difL (h : Hv) (x y : D) : Bool := match asR h x, asR h y with
  | some xs, some ys => !decide (xs.length = ys.length)
  | _, _ => false
def sameLeaf : D → D → Bool
  | .non, .non => true
  | .bl a, .bl b => a == b
  | .int i, .int j => decide (i = j)
  | .str s, .str t => decide (s = t)
  | _, _ => false
/-- each key has the same plain value there -/
def subK (ll : List L2.Key) (ys : List D) : List L2.Key → List D → Bool
  | k :: kk, x :: xs => (match findK ll k ys with
    | some y => sameLeaf x y
    | none => false) && subK ll ys kk xs
  | _, _ => true
/-- two dicts that hold the same -/
def eqT (h : Hv) (x y : D) : Bool := match dctAt h x, dctAt h y with
  | some (ks, xs), some (ls, ys) => (match keysD ks, keysD ls with
    | some kk, some ll => decide (ks.length = ls.length) && subK ll ys kk xs
    | _, _ => false)
  | _, _ => false
def eqD (h : Hv) (x y : D) : Option Bool := match eqL h x y with
  | some b => some b
  | none => if difL h x y then some false else if eqT h x y then some true else none
def truth (h : Hv) : D → Option Bool
  | .non => some false
  | .bl b => some b
  | .int i => some (i != 0)
  | .str s => if s.length ≤ sizeLine then some (s.length != 0) else none
  | .tup xs => some (!xs.isEmpty)
  | .lst xs => some (!xs.isEmpty)
  | .ro xs => some (!xs.isEmpty)
  | .dct ks _ => none
  | .ref n => match h[n]? with
    | some (.lst ds) => some (!ds.isEmpty)
    | _ => none
def mulOk (i j : Int) : Prop := i.natAbs < 2 ^ 64 ∨ j.natAbs < 2 ^ 64 ∨ i.natAbs.log2 + j.natAbs.log2 < 1000000
instance (i j : Int) : Decidable (mulOk i j) := by unfold mulOk; infer_instance
def divOk (j : Int) : Prop := j ≠ 0 ∧ j.natAbs.log2 < 9000
instance (j : Int) : Decidable (divOk j) := by unfold divOk; infer_instance
def powOk (i j : Int) : Prop := 0 ≤ j ∧ j ≤ 1000000 ∧ i.natAbs < 2 ^ 64
instance (i j : Int) : Decidable (powOk i j) := by unfold powOk; infer_instance
def repOk (n : Nat) (j : Int) : Prop := -(2 ^ 63) ≤ j ∧ j < 2 ^ 63 ∧ n * j.toNat ≤ sizeLine
instance (n : Nat) (j : Int) : Decidable (repOk n j) := by unfold repOk; infer_instance
def repTOk (n : Nat) (j : Int) : Prop := n ≠ 0 ∧ 2 ≤ j ∧ j ≤ 1000 ∧ n ≤ 1000
instance (n : Nat) (j : Int) : Decidable (repTOk n j) := by unfold repTOk; infer_instance
def rep (ds : List D) (j : Int) : List D := (List.replicate j.toNat ds).flatten
def intOp (o : Operator) (i j : Int) : Option Int :=
  match o with
  | .Add => some (i + j)
  | .Sub => some (i - j)
  | .Mult => if mulOk i j then some (i * j) else none
  | .FloorDiv => if divOk j then some (i.fdiv j) else none
  | .Mod => if j = 0 then none else some (i.fmod j)
  | .Pow => if powOk i j then some (i ^ j.toNat) else none
  | _ => none
def intD : Option Int → Hv → Rs D
  | some k, h => .ok (.int k) h
  | none, _ => .no
def catL (m : Bool) (h : Hv) : Option (List D) → Option (List D) → Rs D
  | some xs, some ys => if xs.length + ys.length ≤ sizeLine then mkL m (xs ++ ys) h else .no
  | _, _ => .no
def repL (m : Bool) (h : Hv) (j : Int) : Option (List D) → Rs D
  | some xs => if repOk xs.length j then mkL m (rep xs j) h else .no
  | _ => .no
/-- a tuple so many times: itself, the empty one, or a new one -/
def repTD (xs : List D) (j : Int) : Option (List D) := if repTOk xs.length j then some (rep xs j) else if -1000 ≤ j ∧ j ≤ 1000 then (if xs.isEmpty = true ∨ j = 1 then some xs else if j ≤ 0 then some [] else none) else none
def tupO (h : Hv) : Option (List D) → Rs D
  | some ds => .ok (.tup ds) h
  | none => .no
def strTOk (n : Nat) (j : Int) : Prop := n ≤ 1000 ∧ -1000 ≤ j ∧ j ≤ 1000
instance (n : Nat) (j : Int) : Decidable (strTOk n j) := by unfold strTOk; infer_instance
def binD (m : Bool) (o : Operator) (x y : D) (h : Hv) : Rs D :=
  match x, y with
  | .int i, .int j => intD (intOp o i j) h
  | .str a, .str b => if o = .Add ∧ a.length + b.length ≤ sizeLine then .ok (.str (a ++ b)) h else .no
  | .tup xs, .tup ys => if o = .Add ∧ xs.length + ys.length ≤ sizeLine then .ok (.tup (xs ++ ys)) h else .no
  | .str a, .int j => if o = .Mult ∧ strTOk a.length j then .ok (.str (PySem.Txt.mul a j)) h else .no
  | .tup xs, .int j => if o = .Mult then tupO h (repTD xs j) else .no
  | x, .int j => if o = .Mult then repL m h j (asL h x) else .no
  | x, y => if o = .Add then catL m h (asL h x) (asL h y) else .no
def flatP : PyData → Bool
  | .none => true
  | .bool _ => true
  | .int _ => true
  | .str _ => true
  | _ => false
def inP (a : PyData) : PyData → Option Bool
  | .list ds => if shp a && shp (.list ds) then some (ds.any fun z => PyData.eqv z a) else none
  | .tuple ds => if shp a && shp (.tuple ds) then some (ds.any fun z => PyData.eqv z a) else none
  | _ => none
def inL (h : Hv) (x y : D) : Option Bool := (toP h x).bind fun a => (toP h y).bind fun b => inP a b
/-- a text in a text -/
def strIn (a b : Str) : Bool := !(Builtin.Str.occurrences b a 0 b.length 1).isEmpty
def inS (h : Hv) : D → D → Option Bool
  | .str a, .str b => some (strIn a b)
  | x, y => inL h x y
def inD (h : Hv) (x y : D) : Option Bool := match dctAt h y with
  | some (ks, _) => hasD ks x
  | none => inS h x y
def cmpInt (o : CmpOp) (i j : Int) : Option Bool :=
  match o with
  | .Eq => some (i == j)
  | .NotEq => some (i != j)
  | .Lt => some (decide (i < j))
  | .LtE => some (decide (i ≤ j))
  | .Gt => some (decide (j < i))
  | .GtE => some (decide (j ≤ i))
  | _ => none
def isNon : D → Bool
  | .non => true
  | _ => false
def cmpStr (o : CmpOp) (x y : Str) : Option Bool := match o with
  | .Lt => some (decide (x.cps.toList < y.cps.toList))
  | .LtE => some (!decide (y.cps.toList < x.cps.toList))
  | _ => none
def cmpI2 (o : CmpOp) : D → D → Option Bool
  | .int i, .int j => cmpInt o i j
  | .str x, .str y => cmpStr o x y
  | _, _ => none
/-- one truth is another -/
def sameB : D → D → Option Bool
  | .bl a, .bl b => some (a == b)
  | _, _ => none
def cmpO (o : CmpOp) (x y : D) (h : Hv) : Option Bool :=
  match o with
  | .Eq => eqD h x y
  | .NotEq => (eqD h x y).map (!·)
  | .Is => if isNon y then some (isNon x) else sameB x y
  | .IsNot => if isNon y then some (!isNon x) else (sameB x y).map (!·)
  | .In => inD h x y
  | .NotIn => (inD h x y).map (!·)
  | o => cmpI2 o x y
def blD : Option Bool → Hv → Rs D
  | some b, h => .ok (.bl b) h
  | none, _ => .no
def okD : Option D → Hv → Rs D
  | some d, h => .ok d h
  | none, _ => .no
def cmpD (o : CmpOp) (x y : D) (h : Hv) : Rs D := blD (cmpO o x y h) h
def atD {α : Type} (xs : List α) (i : Int) : Option α := L2.atI xs i
def idxL (h : Hv) : D → D → Option D
  | .str s, .int i => if s.length ≤ sizeLine then (atD s.cps.toList i).map fun c => .str ⟨#[c]⟩ else none
  | x, .int i => (asS h x).bind fun ds => atD ds i
  | _, _ => none
def idxD (h : Hv) (x y : D) : Option D := match dctAt h x with
  | some (ks, vs) => dGetD ks vs y
  | none => idxL h x y
def cutB {α : Type} (xs : List α) (lo hi : Option Int) : List α := (xs.drop (HT.sIx xs.length 0 lo)).take (HT.sIx xs.length xs.length hi - HT.sIx xs.length 0 lo)
def asI : D → Option Int
  | .int i => some i
  | _ => none
def cutD (m : Bool) (h : Hv) (x : D) (lo hi : Option Int) : Rs D :=
  match x with
  | .tup ds => .ok (.tup (cutB ds lo hi)) h
  | x => match asL h x with
    | some ds => mkL m (cutB ds lo hi) h
    | none => .no
def intsD : List D → Option (List Int)
  | [] => some []
  | .int i :: ds => (intsD ds).map (i :: ·)
  | _ => none
def blsD : List D → Option (List Bool)
  | [] => some []
  | .bl b :: ds => (blsD ds).map (b :: ·)
  | _ => none
/-- truths: of bools, of ints -/
def trsD : List D → Option (List Bool)
  | [] => some []
  | .bl b :: ds => (trsD ds).map (b :: ·)
  | .int i :: ds => (trsD ds).map ((i != 0) :: ·)
  | _ => none
def lenL (h : Hv) : D → Option Nat
  | .str s => if s.length ≤ sizeLine then some s.length else none
  | x => (asS h x).map (·.length)
def lenD (h : Hv) (x : D) : Option Nat := match dctAt h x with
  | some (ks, _) => some ks.length
  | none => lenL h x
def mkLo (m : Bool) (h : Hv) : Option (List D) → Rs D
  | some ds => mkL m ds h
  | none => .no
/-- repr: the text, where it is not too long -/
def reprOk (d : PyData) : Prop := d.showable = true ∧ d.depth ≤ 60 ∧ d.shown.length ≤ sizeLine ∧ (d.hasDict = true → lfree d = true)
open Classical in
noncomputable def reprD (h : Hv) (x : D) : Option D := (toP h x).bind fun d => if reprOk d then some (.str d.shown) else none
def insSort (i : Int) : List Int → List Int
  | [] => [i]
  | j :: r => if i ≤ j then i :: j :: r else j :: insSort i r
def sortI : List Int → List Int
  | [] => []
  | i :: r => insSort i (sortI r)
noncomputable def biD (m : Bool) (b : Bi) (ds : List D) (h : Hv) : Rs D :=
  match b, ds with
  | .len, [x] => okD ((lenD h x).map fun n => .int n) h
  | .abs, [.int i] => .ok (.int (if i < 0 then -i else i)) h
  | .max, [.int i, .int j] => .ok (.int (if j > i then j else i)) h
  | .min, [.int i, .int j] => .ok (.int (if j < i then j else i)) h
  | .int, [.int i] => .ok (.int i) h
  | .int, [.bl b] => .ok (.int (if b then 1 else 0)) h
  | .list, [x] => mkLo m h (asS h x)
  | .tuple, [x] => okD ((asS h x).map .tup) h
  | .sum, [x] => okD (((asL h x).bind intsD).map fun ns => .int ns.sum) h
  | .any, [x] => okD (((asS h x).bind trsD).map fun bs => .bl (bs.any id)) h
  | .all, [x] => okD (((asS h x).bind trsD).map fun bs => .bl (bs.all id)) h
  | .repr, [x] => okD (reprD h x) h
  | .sorted, [x] => mkLo m h (((asL h x).bind intsD).bind fun ns => some ((sortI ns).map .int))
  | _, _ => .no
def tyD (h : Hv) : D → Option String
  | .non => some "NoneType"
  | .bl _ => some "bool"
  | .int _ => some "int"
  | .str _ => some "str"
  | .tup _ => some "tuple"
  | .lst _ => some "list"
  | .ro _ => some "list"
  | .dct _ _ => some "dict"
  | .ref n => match h[n]? with
    | some (.lst _) => some "list"
    | some (.dct _ _) => some "dict"
    | _ => none
def isTy (t : String) : Cl → Option Bool
  | .ty n => L2.kitB t n
  | .own _ => none
def isAny (t : String) : List Cl → Option Bool
  | [] => some false
  | c :: cs => (isTy t c).bind fun b => if b then some true else isAny t cs
/-- a list's method: what it gives, the list behind it -/
def mtL : Mt → List D → List D → Option (D × List D)
  | .append, xs, [d] => if xs.length < sizeLine then some (.non, xs ++ [d]) else none
  | .pop, xs, [] => (xs[xs.length - 1]?).map fun d => (d, xs.dropLast)
  | .popAt, xs, [.int i] => if -(2 ^ 63) ≤ i ∧ i < 2 ^ 63 then (L2.ixN xs.length i).bind fun k => (xs[k]?).map fun d => (d, xs.eraseIdx k) else none
  | .clear, _, [] => some (.non, [])
  | _, _, _ => none
def cellL (h : Hv) : D → Option (Nat × List D)
  | .ref n => match h[n]? with
    | some (.lst xs) => some (n, xs)
    | _ => none
  | _ => none
def setL (h : Hv) (n : Nat) : Option (D × List D) → Rs D
  | some (d, ys) => .ok d (h.set n (.lst ys))
  | none => .no
def mtD (t : Mt) (o : D) (ds : List D) (h : Hv) : Rs D :=
  match cellL h o with
  | some (n, xs) => setL h n (mtL t xs ds)
  | none => .no
def setIxL (o i v : D) (h : Hv) : Option Hv :=
  match cellL h o, asI i with
  | some (n, xs), some k => (L2.ixN xs.length k).map fun j => h.set n (.lst (xs.set j v))
  | _, _ => none
def cellD (h : Hv) : D → Option (Nat × List D × List D)
  | .ref n => match h[n]? with
    | some (.dct ks vs) => some (n, ks, vs)
    | _ => none
  | _ => none
def setIxD (o i v : D) (h : Hv) : Option Hv := match cellD h o with
  | some (n, ks, vs) => (putD ks vs i v).map fun p => h.set n (.dct p.1 p.2)
  | none => setIxL o i v h
/-- instances: their fields -/
def fldD (h : Hv) (c : Nat) (f : Str) : D → Option D
  | .ref n => match h[n]? with
    | some (.ins c' fs) => if c' = c then fs.lookup f else none
    | _ => none
  | _ => none
def putFD (f : Str) (v : D) : List (Str × D) → List (Str × D)
  | [] => [(f, v)]
  | (g, x) :: r => if g = f then (g, v) :: r else (g, x) :: putFD f v r
def setFD (h : Hv) (c : Nat) (f : Str) (v : D) : D → Option Hv
  | .ref n => match h[n]? with
    | some (.ins c' fs) => if c' = c ∧ fs.length < 1000 then some (h.set n (.ins c (putFD f v fs))) else none
    | _ => none
  | _ => none
def methOk (h : Hv) (c : Nat) (m : Str) : D → Bool
  | .ref n => match h[n]? with
    | some (.ins c' fs) => decide (c' = c) && (fs.lookup m).isNone
    | _ => false
  | _ => false
def madeD (n : Nat) (v : D) (h : Hv) : Rs D := match v with
  | .non => .ok (.ref n) h
  | _ => .no
/-- an int of a list at a cell -/
def getIxD (o i : D) (h : Hv) : Option Int :=
  match cellL h o, asI i with
  | some (_, xs), some k => (L2.atI xs k).bind asI
  | _, _ => none
def augD (o : Operator) (u : Int) (d : D) : Option Int := (asI d).bind fun y => intOp o u y
mutual
def setT : Tc → D → En → Option En
  | .nm i, d, env => some (env.set i (some d))
  | .tp ts, .tup ds, env => setTs ts ds env
  | .tp _, _, _ => none
def setTs : List Tc → List D → En → Option En
  | [], [], env => some env
  | t :: ts, d :: ds, env => (setT t d env).bind (setTs ts ds)
  | _, _, _ => none
end
def wipeD (env : En) : List Nat → En
  | [] => env
  | v :: vs => (wipeD env vs).set v none

/-! ### loops -/
structure Itr where
  items : List D
  guard : Hv → Prop
open Classical in
noncomputable def compM (g : Hv → Prop) (f : D → Hv → Rs (Option D)) : List D → Hv → Rs (List D)
  | [], h => if g h then .ok [] h else .no
  | d :: ds, h => if g h then (f d h).bind fun o h => (compM g f ds h).bind fun r h => .ok (o.toList ++ r) h else .no
open Classical in
noncomputable def foldG {A : Type} (g : Hv → Prop) (f : D → A → Hv → Rs A) : List D → A → Hv → Rs A
  | [], a, h => if g h then .ok a h else .no
  | d :: ds, a, h => if g h then (f d a h).bind fun a h => foldG g f ds a h else .no
def okA {A : Type} : Option A → Hv → Rs A
  | some a, h => .ok a h
  | none, _ => .no
open Classical in
noncomputable def loopF (g : Hv → Prop) (f : D → En → Hv → So) : List D → En → Hv → So
  | [], env, h => if g h then .nx env h else .no
  | d :: ds, env, h => if g h then match f d env h with
      | .nx env h => loopF g f ds env h
      | .ct env h => loopF g f ds env h
      | .bk env h => .nx env h
      | r => r
    else .no
/-- a while, n turns at most -/
def iterW (c : En → Hv → Rs Bool) (f : En → Hv → So) : Nat → En → Hv → So
  | 0, _, _ => .no
  | n + 1, env, h => match c env h with
    | .ok true h => match f env h with
      | .nx env h => iterW c f n env h
      | .ct env h => iterW c f n env h
      | .bk env h => .nx env h
      | r => r
    | .ok false h => .nx env h
    | .ex x h => .ex x env h
    | .no => .no
open Classical in
noncomputable def whileM (c : En → Hv → Rs Bool) (f : En → Hv → So) (env : En) (h : Hv) : So :=
  if q : ∃ n, iterW c f n env h ≠ .no then iterW c f (Classical.choose q) env h else .no

/-! ### operations by their form -/
/-- keys and values, by turns -/
def pairsD : List D → Option (List D × List D)
  | [] => some ([], [])
  | k :: v :: r => (pairsD r).map fun p => (k :: p.1, v :: p.2)
  | _ => none
/-- a dict by its keys, no two alike -/
def mkDo (m : Bool) (h : Hv) : Option (List D × List D) → Rs D
  | some (ks, vs) => match keysD ks with
    | some kk => if kk.Nodup then mkDc m ks vs h else .no
    | none => .no
  | none => .no
def rngL (i j : Int) : Option (List D) := if -(2 ^ 62) ≤ i ∧ i < 2 ^ 62 ∧ -(2 ^ 62) ≤ j ∧ j < 2 ^ 62 ∧ (j - i).toNat ≤ 2 ^ 24 then some ((List.range (j - i).toNat).map fun n : Nat => .int (i + (n : Int))) else none
/-- without what stood ahead -/
def dedup : List Int → List Int
  | [] => []
  | i :: r => i :: (dedup r).filter (· ≠ i)
/-- setdefault: what it tells, the dict behind it where a key joins -/
def setdD (ks vs : List D) (k v : D) : Option (D × Option (List D × List D)) := (keysD ks).bind fun kk => (keyD k).bind fun q =>
  if ks.length < sizeLine then some (match findK kk q vs with
    | some w => (w, none)
    | none => (v, some (ks ++ [k], vs ++ [v]))) else none
def setDc (h : Hv) (n : Nat) : Option (D × Option (List D × List D)) → Rs D
  | some (d, some (ks, vs)) => .ok d (h.set n (.dct ks vs))
  | some (d, none) => .ok d h
  | none => .no
def toPs (h : Hv) : List D → Option (List PyData)
  | [] => some []
  | d :: ds => (toP h d).bind fun p => (toPs h ds).map (p :: ·)
/-- what sorted orders: plain, all of one kind -/
def sortdOk (ps : List PyData) : Bool := ps.all (fun p => shp p && ps.all fun q => PySem.W.alike p q) && (ps.all (fun p => match p with
  | .tuple (_ :: _) => true
  | _ => false) || ps.all fun p => match p with
  | .none => false
  | .tuple _ => false
  | _ => true)
def sortdL (h : Hv) (ds : List D) : Option (List D) := (toPs h ds).bind fun ps => if sortdOk ps then some (((ds.zip ps).mergeSort (PySem.W.dataLe false Prod.snd)).map (·.1)) else none
/-- the lists that are added -/
def listsD (h : Hv) : List D → Option (List (List D))
  | [] => some []
  | d :: ds => (asL h d).bind fun xs => (listsD h ds).map (xs :: ·)
def sumlD (h : Hv) (ds : List D) (z : D) : Rs D := match listsD h ds with
  | some xss => if ds = [] then .ok z h else if xss.flatten.length ≤ sizeLine then .ok (.lst xss.flatten) h else .no
  | none => .no
def opD (m : Bool) : Op → List D → Hv → Rs D
  | .lrng, [.int j], h => mkLo m h (rngL 0 j)
  | .trng, [.int j], h => okD ((rngL 0 j).map .tup) h
  | .lenset, [.tup ds], h => okD ((intsD ds).bind fun ns => if ns.length < 64 then some (.int (dedup ns).length) else none) h
  | .disp n, ds, h => if ds.length = n + n ∧ 0 < n ∧ n ≤ 15 then mkDo m h (pairsD ds) else .no
  | .keysL, [o], h => match dctAt h o with
    | some (ks, _) => mkL m ks h
    | none => .no
  | .sortd, [o], h => match asL h o with
    | some ds => mkLo m h (sortdL h ds)
    | none => .no
  | .suml, [o, z], h => match asL h o, asL h z with
    | some ds, some [] => sumlD h ds z
    | _, _ => .no
  | .dclr, [o], h => match cellD h o with
    | some (n, _, _) => .ok .non (h.set n (.dct [] []))
    | none => .no
  | _, _, _ => .no
def dmD : Dm → D → D → D → Hv → Rs D
  | .setd, o, k, v, h => match cellD h o with
    | some (n, ks, vs) => setDc h n (setdD ks vs k v)
    | none => .no
  | .get2, o, k, v, h => match dctAt h o with
    | some (ks, vs) => okD ((hasD ks k).bind fun b => if b then dGetD ks vs k else some v) h
    | none => .no
/-- the arguments of a call by names, in the order of the def's own -/
def permD {α : Type} (ds : List α) : List Nat → Option (List α)
  | [] => some []
  | i :: r => (ds[i]?).bind fun d => (permD ds r).map (d :: ·)
abbrev CallT := Nat → Bool → List D → Hv → Rs D
structure Cf where
  call : CallT
  glo : Nat → D
  cur : Option Exn := none
/-- a kept exception: its field, its classes -/
def kxD (h : Hv) (d : D) (f : Str) : Option D := match d with
  | .ref n => (match h[n]? with
    | some (.exn ⟨_, [(g, y)]⟩) => if g = f then some y else none
    | _ => none)
  | _ => none
def kxI (h : Hv) (d : D) (tab : List (Nat × Bool)) : Option Bool := match d with
  | .ref n => (match h[n]? with
    | some (.exn x) => tab.lookup x.cls
    | _ => none)
  | _ => none
def testD (d : D) (h : Hv) : Rs Bool := match truth h d with
  | some b => .ok b h
  | none => .no
def optI : Option Int → Hv → Rs (Option Int)
  | some i, h => .ok (some i) h
  | none, _ => .no
mutual
noncomputable def ev (C : Cf) : Ec → En → Hv → Rs D
  | .lit d, _, h => .ok d h
  | .var i, env, h => match env[i]? with
    | some (some d) => .ok d h
    | _ => .no
  | .glo i, _, h => .ok (C.glo i) h
  | .neg a, env, h => (ev C a env h).bind fun d h => okD ((asI d).map fun i => .int (-i)) h
  | .not_ a, env, h => (ev C a env h).bind fun d h => (testD d h).bind fun b h => .ok (.bl (!b)) h
  | .bin m o a b, env, h => (ev C a env h).bind fun x h => (ev C b env h).bind fun y h => binD m o x y h
  | .cmp o a b, env, h => (ev C a env h).bind fun x h => (ev C b env h).bind fun y h => cmpD o x y h
  | .chain o p a b c, env, h => (ev C a env h).bind fun x h => (ev C b env h).bind fun y h => (cmpD o x y h).bind fun z h => match z with
    | .bl true => (ev C c env h).bind fun w h => cmpD p y w h
    | .bl false => .ok (.bl false) h
    | _ => .no
  | .and_ a b, env, h => (ev C a env h).bind fun d h => (testD d h).bind fun t h => if t then ev C b env h else .ok d h
  | .or_ a b, env, h => (ev C a env h).bind fun d h => (testD d h).bind fun t h => if t then .ok d h else ev C b env h
  | .cond c a b, env, h => (ev C c env h).bind fun d h => (testD d h).bind fun t h => if t then ev C a env h else ev C b env h
  | .tup es, env, h => (evs C es env h).bind fun ds h => if ds.length ≤ sizeLine then .ok (.tup ds) h else .no
  | .lst m es, env, h => (evs C es env h).bind fun ds h => if ds.length ≤ sizeLine then mkL m ds h else .no
  | .dnew m, _, h => mkDc m [] [] h
  | .idx a b, env, h => (ev C a env h).bind fun x h => (ev C b env h).bind fun y h => okD (idxD h x y) h
  | .cut m a lo hi, env, h => (ev C a env h).bind fun x h => (evo C lo env h).bind fun l h => (evo C hi env h).bind fun u h => cutD m h x l u
  | .call f raw es, env, h => (evs C es env h).bind fun ds h => C.call f raw ds h
  | .fld c a f, env, h => (ev C a env h).bind fun d h => okD (fldD h c f d) h
  | .meth c m i raw o es, env, h => (ev C o env h).bind fun x h => if methOk h c m x then (evs C es env h).bind fun ds h => C.call i raw (x :: ds) h else .no
  | .make c i es, env, h => (evs C es env h).bind fun ds h => (C.call i true (.ref h.length :: ds) (h ++ [.ins c []])).bind fun v h' => madeD h.length v h'
  | .bi m b es, env, h => (evs C es env h).bind fun ds h => biD m b ds h
  | .isi e cs, env, h => (ev C e env h).bind fun d h => blD ((tyD h d).bind fun t => isAny t cs) h
  | .mt t o es, env, h => (ev C o env h).bind fun x h => if tyD h x = some t.ty then (evs C es env h).bind fun ds h => mtD t x ds h else .no
  | .comp m e t it c own, env, h => (evi C it env h).bind fun I h =>
      (compM I.guard (fun d h => match setT t d (wipeD env own) with
        | none => .no
        | some env1 => (evc C c env1 h).bind fun b h => if b then (ev C e env1 h).bind fun x h => .ok (some x) h else .ok none h) I.items h).quiet.bind fun ds h =>
      if ds.length ≤ sizeLine then mkL m ds h else .no
  | .exF f, _, h => match C.cur with
    | some ⟨_, [(g, d)]⟩ => if g = f then .ok d h else .no
    | _ => .no
  | .kxF e f, env, h => (ev C e env h).bind fun d h => okD (kxD h d f) h
  | .kxIs e tab, env, h => (ev C e env h).bind fun d h => blD (kxI h d tab) h
  | .exIs tab, _, h => match C.cur with
    | some ⟨c, _⟩ => (match tab.lookup c with
      | some b => .ok (.bl b) h
      | none => .no)
    | _ => .no
  | .opn m o es, env, h => (evs C es env h).quiet.bind fun ds h => opD m o ds h
  | .dmt t o a b, env, h => (ev C o env h).bind fun x h => if tyD h x = some "dict" then (ev C a env h).bind fun k h => (ev C b env h).bind fun v h => dmD t x k v h else .no
  | .callK f raw pm es, env, h => (evs C es env h).bind fun ds h => match permD ds pm with
    | some ds => C.call f raw ds h
    | none => .no
  | .lcomp2 m e t it own c t1 it1 own1 c1, env, h => (evi C it env h).bind fun I h =>
      (foldG I.guard (fun d acc h => match setT t d (wipeD env own) with
        | none => .no
        | some env1 => (evc C c env1 h).bind fun b h => if b then (evi C it1 env1 h).bind fun I1 h => foldG I1.guard (fun d acc h => match setT t1 d (wipeD env1 own1) with
          | none => .no
          | some env2 => (evc C c1 env2 h).bind fun b h => if b then (ev C e env2 h).bind fun x h => okA (if acc.length < sizeLine then some (acc ++ [x]) else none) h else .ok acc h) I1.items acc h else .ok acc h) I.items ([] : List D) h).quiet.bind fun ds h => mkL m ds h
  | .dcomp2 m ke ve t it own t1 it1 own1, env, h => (evi C it env h).bind fun I h =>
      (foldG I.guard (fun d acc h => match setT t d (wipeD env own) with
        | none => .no
        | some env1 => (evi C it1 env1 h).bind fun I1 h => foldG I1.guard (fun d acc h => match setT t1 d (wipeD env1 own1) with
          | none => .no
          | some env2 => (ev C ke env2 h).bind fun k h => (ev C ve env2 h).bind fun v h => okA (putD acc.1 acc.2 k v) h) I1.items acc h) I.items (([], []) : List D × List D) h).quiet.bind fun acc h => mkDc m acc.1 acc.2 h
  | .bad, _, _ => .no
noncomputable def evs (C : Cf) : List Ec → En → Hv → Rs (List D)
  | [], _, h => .ok [] h
  | e :: es, env, h => (ev C e env h).bind fun d h => (evs C es env h).bind fun ds h => .ok (d :: ds) h
noncomputable def evo (C : Cf) : Option Ec → En → Hv → Rs (Option Int)
  | none, _, h => .ok none h
  | some e, env, h => (ev C e env h).bind fun d h => optI (asI d) h
noncomputable def evc (C : Cf) : Option Ec → En → Hv → Rs Bool
  | none, _, h => .ok true h
  | some e, env, h => (ev C e env h).bind fun d h => testD d h
noncomputable def evi (C : Cf) : Ic → En → Hv → Rs Itr
  | .seq e, env, h => (ev C e env h).bind fun d h => match asS h d with
    | some ds => .ok ⟨ds, stays h d⟩ h
    | none => match d with
      | .str s => .ok ⟨s.cps.toList.map fun c => .str ⟨#[c]⟩, fun _ => True⟩ h
      | .dct ks _ => .ok ⟨ks, fun _ => True⟩ h
      | _ => .no
  | .rng1 a, env, h => (ev C a env h).bind fun d h => match d with
    | .int j => if -(2 ^ 62) ≤ j ∧ j < 2 ^ 62 then .ok ⟨(List.range j.toNat).map fun n : Nat => .int (0 + (n : Int)), fun _ => True⟩ h else .no
    | _ => .no
  | .rng2 a b, env, h => (ev C a env h).bind fun x h => (ev C b env h).bind fun y h => match x, y with
    | .int i, .int j => if -(2 ^ 62) ≤ i ∧ i < 2 ^ 62 ∧ -(2 ^ 62) ≤ j ∧ j < 2 ^ 62 then .ok ⟨(List.range (j - i).toNat).map fun n : Nat => .int (i + (n : Int)), fun _ => True⟩ h else .no
    | _, _ => .no
  | .zip a b, env, h => (ev C a env h).bind fun x h => (ev C b env h).bind fun y h => match asS h x, asS h y with
    | some xs, some ys => .ok ⟨List.zipWith (fun u v => .tup [u, v]) xs ys, fun h' => stays h x h' ∧ stays h y h'⟩ h
    | _, _ => .no
  | .enum a, env, h => (ev C a env h).bind fun x h => match asS h x with
    | some xs => .ok ⟨xs.mapIdx fun n u => .tup [.int (n : Nat), u], stays h x⟩ h
    | none => .no
  | .rev a, env, h => (ev C a env h).bind fun x h => match asS h x with
    | some xs => .ok ⟨xs.reverse, stays h x⟩ h
    | none => .no
end
def Rs.toS {α : Type} (r : Rs α) (env : En) (f : α → Hv → So) : So := match r with
  | .no => .no
  | .ok a h => f a h
  | .ex x h => .ex x env h
/-- behind an except suite: its name is gone -/
def suiteEnd (i : Nat) : So → So
  | .nx env h => .nx (env.set i none) h
  | .bk env h => .bk (env.set i none) h
  | .ct env h => .ct (env.set i none) h
  | .rt d h => .rt d h
  | _ => .no
mutual
noncomputable def exec (C : Cf) : Sc → En → Hv → So
  | .set i e, env, h => (ev C e env h).toS env fun d h => .nx (env.set i (some d)) h
  | .unp t e, env, h => (ev C e env h).toS env fun d h => match setT t d env with
    | some env => .nx env h
    | none => .no
  | .par i j a b, env, h => (ev C a env h).toS env fun x h => (ev C b env h).toS env fun y h => .nx ((env.set i (some x)).set j (some y)) h
  | .setIx a i e, env, h => (ev C e env h).toS env fun v h => (ev C a env h).toS env fun o h => (ev C i env h).toS env fun k h => match setIxD o k v h with
    | some h => .nx env h
    | none => .no
  | .aug i o e, env, h => match env[i]? with
    | some (some (.int x)) => (ev C e env h).toS env fun d h => match d with
      | .int y => match intOp o x y with
        | some z => .nx (env.set i (some (.int z))) h
        | none => .no
      | _ => .no
    | _ => .no
  | .augIx a i o e, env, h => (ev C a env h).toS env fun x h => (ev C i env h).toS env fun k h => match getIxD x k h with
    | some u => (ev C e env h).toS env fun d h => match augD o u d with
      | some z => match setIxD x k (.int z) h with
        | some h => .nx env h
        | none => .no
      | none => .no
    | none => .no
  | .setF c a f e, env, h => (ev C e env h).toS env fun v h => (ev C a env h).toS env fun o h => match setFD h c f v o with
    | some h => .nx env h
    | none => .no
  | .ex e, env, h => (ev C e env h).toS env fun _ h => .nx env h
  | .ret e, env, h => (ev C e env h).toS env fun d h => .rt d h
  | .ret0, _, h => .rt .non h
  | .pass, env, h => .nx env h
  | .brk, env, h => .bk env h
  | .cont, env, h => .ct env h
  | .ite c a b, env, h => ((ev C c env h).bind testD).toS env fun t h => if t then execs C a env h else execs C b env h
  | .whl c b, env, h => whileM (fun env h => (ev C c env h).bind testD) (fun env h => execs C b env h) env h
  | .for_ it t b, env, h => (evi C it env h).toS env fun I h => loopF I.guard (fun d env h => match setT t d env with
    | some env => execs C b env h
    | none => .no) I.items env h
  | .raise_, _, _ => .no
  | .raise0 c, env, h => .ex ⟨c, []⟩ env h
  | .raise1 c f e, env, h => (ev C e env h).toS env fun d h => .ex ⟨c, [(f, d)]⟩ env h
  | .tryx c i b s, env, h => match execs C b env h with
    | .ex x env' h' => if x.cls = c then suiteEnd i (execs { C with cur := some x } s (env'.set i none) h') else .ex x env' h'
    | r => r
  | .keepx c i k b, env, h => match execs C b env h with
    | .ex x env' h' => if x.cls = c then .nx (((env'.set i none).set k (some (.ref h'.length))).set i none) (h' ++ [.exn x]) else .ex x env' h'
    | r => r
noncomputable def execs (C : Cf) : List Sc → En → Hv → So
  | [], env, h => .nx env h
  | s :: ss, env, h => match exec C s env h with
    | .nx env h => execs C ss env h
    | r => r
end

/-! ### a def's call -/
mutual
def below (n : Nat) : D → Bool
  | .tup xs => belows n xs
  | .lst xs => belows n xs
  | .ro xs => belows n xs
  | .dct ks vs => belows n ks && belows n vs
  | .ref k => decide (k < n)
  | _ => true
def belows (n : Nat) : List D → Bool
  | [] => true
  | d :: ds => below n d && belows n ds
end
def Cell.bare : Cell → Bool
  | .lst xs => belows 0 xs
  | .dct ks vs => belows 0 ks && belows 0 vs
  | .ins _ fs => belows 0 (fs.map (·.2))
  | .exn x => belows 0 (x.args.map (·.2))
mutual
/-- lists at cells from n on become values -/
def frz (h : Hv) (n : Nat) : D → D
  | .tup xs => .tup (frzs h n xs)
  | .lst xs => .lst (frzs h n xs)
  | .ro xs => .ro (frzs h n xs)
  | .dct ks vs => .dct ks (frzs h n vs)
  | .ref k => if n ≤ k then match h[k]? with
      | some (.lst ds) => .lst ds
      | some (.dct ks vs) => .dct ks vs
      | _ => .ref k
    else .ref k
  | d => d
def frzs (h : Hv) (n : Nat) : List D → List D
  | [] => []
  | d :: ds => frz h n d :: frzs h n ds
end
/-- the cells below are as they were, or hold no cell -/
def kept (h h' : Hv) : Prop := ∀ (n : Nat) (c : Cell), h[n]? = some c → ∃ c' : Cell, h'[n]? = some c' ∧ (c' = c ∨ c'.bare = true)
open Classical in
noncomputable def settle (h : Hv) (d : D) (h' : Hv) : Rs D :=
  let e := frz h' h.length (frz h' h.length d)
  if below h.length e = true ∧ kept h h' then .ok e (h'.take h.length) else .ok d h'
noncomputable def retOf (raw : Bool) (h : Hv) : So → Rs D
  | .nx _ h' => if raw then .ok .non h' else settle h .non h'
  | .rt d h' => if raw then .ok d h' else settle h d h'
  | .ex x _ h' => .ex x h'
  | _ => .no
def startE (f : Fc) (ds : List D) : En := ds.map some ++ List.replicate (f.names.length - ds.length) none
/-- the arguments with what is left out -/
def fillA (fc : Fc) (ds : List D) : List D := ds ++ fc.dfl.drop (fc.dfl.length + ds.length - fc.np)
noncomputable def callF (G : Nat → D) (F : List Fc) : Nat → CallT
  | 0 => fun _ _ _ _ => .no
  | k + 1 => fun f raw ds h => match F[f]? with
    | some fc => if (fillA fc ds).length = fc.np ∧ ds.length ≤ fc.np then retOf raw h (execs ⟨callF G F k, G, none⟩ fc.body (startE fc (fillA fc ds)) h) else .no
    | none => .no
end Hr
/-! What a value of the small language stands for in the heap; what follows an evaluation. -/
namespace Hr
open PySem PySem.Spec PyProof.Rows L2

/-- the exception that an except suite holds: the slot of its name, where it stands, its class, its own dict -/
structure XI where
  i : Nat
  a : Addr
  x : Exn
  d : Option Addr
/-- the written part and its tables: classes of exceptions, classes; the exception that a suite holds -/
structure Tb where
  K : PySem.W.Frag
  nx : Nat
  xc : Nat → Addr
  cl : Nat → Addr
  xi : Option XI := none
def KL (K : PySem.W.Frag) (a : Addr) (xs : List V) : Prop :=
  ∃ (o : Obj) (its : Array Value) (n : Nat), K.lookup a = some o ∧ o.cls = .type "list" ∧ o.dict = none ∧ o.data = .seq its n ∧ its.size ≤ sizeLine ∧ Vals xs its.toList
def KT (K : PySem.W.Frag) (a : Addr) (xs : List V) : Prop :=
  ∃ (o : Obj) (its : Array Value) (n : Nat), K.lookup a = some o ∧ o.cls = .type "tuple" ∧ o.data = .seq its n ∧ its.size ≤ sizeLine ∧ Vals xs its.toList
/-- where the cells stand; what is laid aside for the while -/
structure Gh where
  m : Nat → Addr
  P : Addr → Prop
instance : CoeFun Gh (fun _ => Nat → Addr) := ⟨Gh.m⟩
/-- no cell stands there -/
def Off (N : Nat) (m : Gh) (a : Addr) : Prop := (∀ n, n < N → m n ≠ a) ∧ ¬ m.P a
/-- at a stands a dict with these keys, of these values -/
def DK (H : Hp) (a : Addr) (ks : List D) (us : List V) : Prop := ∃ kk, keysD ks = some kk ∧ kk.length = us.length ∧ H a = some (.dK (kk.zip us))
theorem DK.keep {H H' : Hp} {a : Addr} {ks : List D} {us : List V} (d : DK H a ks us) (k : ∀ o, H a = some o → H' a = some o) : DK H' a ks us :=
  let ⟨kk, e, l, h⟩ := d
  ⟨kk, e, l, k _ h⟩
theorem DK.here {H : Hp} {a : Addr} {ks : List D} {us : List V} (d : DK H a ks us) : ∃ o, H a = some o :=
  let ⟨_, _, _, h⟩ := d
  ⟨_, h⟩
/-- the same for one who only reads: it may be locked -/
def DR (H : Hp) (a : Addr) (ks : List D) (us : List V) : Prop := ∃ kk, keysD ks = some kk ∧ kk.length = us.length ∧ Rd H a (.dK (kk.zip us))
theorem DK.rd {H : Hp} {a : Addr} {ks : List D} {us : List V} (d : DK H a ks us) : DR H a ks us :=
  let ⟨kk, e, l, h⟩ := d
  ⟨kk, e, l, .inl h⟩
/-- what stood at a still stands there: a dict may be locked by now -/
def KpO (H' : Hp) (a : Addr) (o : HO) : Prop := H' a = some o ∨ ∃ u kvs, o = .dK kvs ∧ H' a = some (.frz u o)
theorem KpO.eq {H' : Hp} {a : Addr} {o : HO} (k : KpO H' a o) (n : ∀ kvs, o ≠ .dK kvs) : H' a = some o := by
  rcases k with k | ⟨u, kvs, e, _⟩
  · exact k
  · exact absurd e (n kvs)
theorem KpO.rd {H' : Hp} {a : Addr} {o : HO} (k : KpO H' a o) : Rd H' a o := by
  rcases k with k | ⟨u, kvs, _, k⟩
  · exact .inl k
  · exact .inr ⟨u, k⟩
mutual
def RepV (T : Tb) (N : Nat) (m : Gh) (H : Hp) : D → V → Prop
  | .non, v => v = .non
  | .bl b, v => v = .bl b
  | .int i, v => v = .int i
  | .str s, v => v = .str s
  | .tup xs, v => ∃ a vs, v = .ref a ∧ ((Rd H a (.tup vs) ∧ Off N m a) ∨ KT T.K a vs) ∧ RepL T N m H xs vs
  | .lst xs, v => ∃ a vs, v = .ref a ∧ (H a = some (.lst vs) ∧ Off N m a) ∧ RepL T N m H xs vs
  | .ro xs, v => ∃ a vs, v = .ref a ∧ ((Rd H a (.lst vs) ∧ Off N m a) ∨ KL T.K a vs) ∧ RepL T N m H xs vs
  | .dct ks vs, v => ∃ a us, v = .ref a ∧ DR H a ks us ∧ Off N m a ∧ RepL T N m H vs us
  | .ref n, v => n < N ∧ v = .ref (m n)
def RepL (T : Tb) (N : Nat) (m : Gh) (H : Hp) : List D → List V → Prop
  | [], vs => vs = []
  | d :: ds, vs => ∃ v r, vs = v :: r ∧ RepV T N m H d v ∧ RepL T N m H ds r
end
/-- what a value stands for is kept -/
structure Ext0 (N : Nat) (m : Gh) (H : Hp) (N' : Nat) (m' : Gh) (H' : Hp) : Prop where
  le : N ≤ N'
  mu : ∀ n, n < N → m' n = m n
  keep : ∀ a o, H a = some o → Off N m a → KpO H' a o ∧ Off N' m' a
/-- from one state to a later one: cells may change, nothing else -/
structure Ext (N : Nat) (m : Gh) (H : Hp) (N' : Nat) (m' : Gh) (H' : Hp) : Prop where
  le : N ≤ N'
  mu : ∀ n, n < N → m' n = m n
  keep : ∀ a o, H a = some o → Off N m a → KpO H' a o ∧ Off N' m' a
  side : m'.P = m.P
  prot : ∀ a o, m.P a → H a = some o → H' a = some o
theorem kpo_trans {N' N'' : Nat} {m' m'' : Gh} {H' H'' : Hp} {x : Addr} {o : HO} (k : ∀ a o, H' a = some o → Off N' m' a → KpO H'' a o ∧ Off N'' m'' a) (e : KpO H' x o) (f : Off N' m' x) : KpO H'' x o ∧ Off N'' m'' x := by
  rcases e with e | ⟨u, kvs, rfl, e⟩
  · exact k x o e f
  · obtain ⟨e2, f2⟩ := k x _ e f
    exact ⟨.inr ⟨u, kvs, rfl, e2.eq fun _ z => nomatch z⟩, f2⟩
section
variable {T : Tb} {N N' N'' : Nat} {m m' m'' : Gh} {H H' H'' : Hp} {h h' : Hv}
theorem Ext.to0 (x : Ext N m H N' m' H') : Ext0 N m H N' m' H' := ⟨x.le, x.mu, x.keep⟩
theorem Ext0.refl : Ext0 N m H N m H := ⟨Nat.le_refl _, fun _ _ => rfl, fun _ _ e o => ⟨.inl e, o⟩⟩
theorem Ext0.trans (a : Ext0 N m H N' m' H') (b : Ext0 N' m' H' N'' m'' H'') : Ext0 N m H N'' m'' H'' :=
  ⟨Nat.le_trans a.le b.le, fun n hn => (b.mu n (Nat.lt_of_lt_of_le hn a.le)).trans (a.mu n hn), fun x o e f => let ⟨e1, f1⟩ := a.keep x o e f; kpo_trans b.keep e1 f1⟩
theorem Ext.refl : Ext N m H N m H := ⟨Nat.le_refl _, fun _ _ => rfl, fun _ _ e o => ⟨.inl e, o⟩, rfl, fun _ _ _ e => e⟩
theorem Ext.trans (a : Ext N m H N' m' H') (b : Ext N' m' H' N'' m'' H'') : Ext N m H N'' m'' H'' :=
  ⟨Nat.le_trans a.le b.le, fun n hn => (b.mu n (Nat.lt_of_lt_of_le hn a.le)).trans (a.mu n hn), fun x o e f => let ⟨e1, f1⟩ := a.keep x o e f; kpo_trans b.keep e1 f1, b.side.trans a.side, fun x o p e => b.prot x o (by rw [a.side]; exact p) (a.prot x o p e)⟩
theorem Ext0.rd (a : Ext0 N m H N' m' H') {x : Addr} {o : HO} (r : Rd H x o) (f : Off N m x) : Rd H' x o ∧ Off N' m' x := by
  rcases r with r | ⟨u, r⟩
  · exact ⟨(a.keep x _ r f).1.rd, (a.keep x _ r f).2⟩
  · exact ⟨.inr ⟨u, (a.keep x _ r f).1.eq fun _ z => nomatch z⟩, (a.keep x _ r f).2⟩
theorem Ext0.eq (a : Ext0 N m H N' m' H') {x : Addr} {o : HO} (e : H x = some o) (f : Off N m x) (n : ∀ kvs, o ≠ .dK kvs) : H' x = some o ∧ Off N' m' x := ⟨(a.keep x o e f).1.eq n, (a.keep x o e f).2⟩
theorem Ext.eq (a : Ext N m H N' m' H') {x : Addr} {o : HO} (e : H x = some o) (f : Off N m x) (n : ∀ kvs, o ≠ .dK kvs) : H' x = some o ∧ Off N' m' x := a.to0.eq e f n
theorem Ext0.dr (a : Ext0 N m H N' m' H') {x : Addr} {ks : List D} {us : List V} (d : DR H x ks us) (f : Off N m x) : DR H' x ks us ∧ Off N' m' x :=
  let ⟨kk, e, l, r⟩ := d
  ⟨⟨kk, e, l, (a.rd r f).1⟩, (a.rd r f).2⟩
theorem Ext.rd (a : Ext N m H N' m' H') {x : Addr} {o : HO} (r : Rd H x o) (f : Off N m x) : Rd H' x o ∧ Off N' m' x := a.to0.rd r f
mutual
theorem RepV.ext0 (x : Ext0 N m H N' m' H') : ∀ (d : D) (v : V), RepV T N m H d v → RepV T N' m' H' d v
  | .non, _, r => r
  | .bl _, _, r => r
  | .int _, _, r => r
  | .str _, _, r => r
  | .tup xs, v, r => by
    obtain ⟨a, vs, e, q, l⟩ := r
    exact ⟨a, vs, e, q.imp (fun q => x.rd q.1 q.2) id, RepL.ext0 x xs vs l⟩
  | .lst xs, v, r => by
    obtain ⟨a, vs, e, q, l⟩ := r
    exact ⟨a, vs, e, (x.eq q.1 q.2 (fun _ z => nomatch z)), RepL.ext0 x xs vs l⟩
  | .ro xs, v, r => by
    obtain ⟨a, vs, e, q, l⟩ := r
    exact ⟨a, vs, e, q.imp (fun q => x.rd q.1 q.2) id, RepL.ext0 x xs vs l⟩
  | .dct ks xs, v, r => by
    obtain ⟨a, us, e, q, f, l⟩ := r
    exact ⟨a, us, e, (x.dr q f).1, (x.dr q f).2, RepL.ext0 x xs us l⟩
  | .ref n, v, r => by
    obtain ⟨l, e⟩ := r
    exact ⟨Nat.lt_of_lt_of_le l x.le, by rw [e, x.mu n l]⟩
theorem RepL.ext0 (x : Ext0 N m H N' m' H') : ∀ (ds : List D) (vs : List V), RepL T N m H ds vs → RepL T N' m' H' ds vs
  | [], _, r => r
  | d :: ds, vs, r => by
    obtain ⟨v, w, e, a, b⟩ := r
    exact ⟨v, w, e, RepV.ext0 x d v a, RepL.ext0 x ds w b⟩
end
theorem RepV.ext (x : Ext N m H N' m' H') (d : D) (v : V) (r : RepV T N m H d v) : RepV T N' m' H' d v := RepV.ext0 x.to0 d v r
theorem RepL.ext (x : Ext N m H N' m' H') (ds : List D) (vs : List V) (r : RepL T N m H ds vs) : RepL T N' m' H' ds vs := RepL.ext0 x.to0 ds vs r
theorem RepL.length : ∀ {ds : List D} {vs : List V}, RepL T N m H ds vs → ds.length = vs.length
  | [], _, r => by cases r; rfl
  | d :: ds, _, ⟨v, w, e, _, b⟩ => by
    subst e
    show ds.length + 1 = w.length + 1
    rw [RepL.length b]
theorem RepL.get : ∀ {ds : List D} {vs : List V} {i : Nat} {d : D}, RepL T N m H ds vs → ds[i]? = some d → ∃ v, vs[i]? = some v ∧ RepV T N m H d v
  | [], _, _, _, _, e => by simp at e
  | x :: ds, _, 0, d, ⟨v, w, e, a, b⟩, q => by
    subst e
    simp at q
    subst q
    exact ⟨v, rfl, a⟩
  | x :: ds, _, i + 1, d, ⟨v, w, e, a, b⟩, q => by
    subst e
    obtain ⟨u, hu, r⟩ := RepL.get (i := i) (d := d) b (by simpa using q)
    exact ⟨u, by simpa using hu, r⟩
theorem RepL.get' : ∀ {ds : List D} {vs : List V} {i : Nat} {v : V}, RepL T N m H ds vs → vs[i]? = some v → ∃ d, ds[i]? = some d ∧ RepV T N m H d v := fun {ds vs i v} r e => by
  have hl := r.length
  have hi : i < vs.length := by
    rcases Nat.lt_or_ge i vs.length with h | h
    · exact h
    · rw [List.getElem?_eq_none h] at e; cases e
  have hd : ds[i]? = some ds[i] := List.getElem?_eq_getElem (by omega)
  obtain ⟨u, hu, ru⟩ := r.get hd
  rw [hu] at e
  cases e
  exact ⟨_, hd, ru⟩
theorem RepL.append : ∀ {ds es : List D} {vs ws : List V}, RepL T N m H ds vs → RepL T N m H es ws → RepL T N m H (ds ++ es) (vs ++ ws)
  | [], _, _, _, r, s => by cases r; exact s
  | d :: ds, _, _, _, ⟨v, w, e, a, b⟩, s => by
    subst e
    exact ⟨v, _, rfl, a, RepL.append b s⟩
theorem RepL.one {d : D} {v : V} (r : RepV T N m H d v) : RepL T N m H [d] [v] := ⟨v, [], rfl, r, rfl⟩
theorem RepL.take : ∀ {ds : List D} {vs : List V} (n : Nat), RepL T N m H ds vs → RepL T N m H (ds.take n) (vs.take n)
  | [], _, n, r => by cases r; simp [RepL]
  | _ :: _, _, 0, _ => by simp [RepL]
  | d :: ds, _, n + 1, ⟨v, w, e, a, b⟩ => by
    subst e
    exact ⟨v, _, rfl, a, RepL.take n b⟩
theorem RepL.drop : ∀ {ds : List D} {vs : List V} (n : Nat), RepL T N m H ds vs → RepL T N m H (ds.drop n) (vs.drop n)
  | [], _, n, r => by cases r; simp [RepL]
  | _ :: _, _, 0, r => r
  | d :: ds, _, n + 1, ⟨v, w, e, a, b⟩ => by
    subst e
    exact RepL.drop n b
theorem RepL.set {d : D} {v : V} (r : RepV T N m H d v) : ∀ {ds : List D} {vs : List V} (i : Nat), RepL T N m H ds vs → RepL T N m H (ds.set i d) (vs.set i v)
  | [], _, _, q => by cases q; rfl
  | x :: ds, _, 0, ⟨y, w, e, a, b⟩ => by
    subst e
    exact ⟨v, w, rfl, r, b⟩
  | x :: ds, _, i + 1, ⟨y, w, e, a, b⟩ => by
    subst e
    exact ⟨y, _, rfl, a, RepL.set r i b⟩
theorem RepL.reverse : ∀ {ds : List D} {vs : List V}, RepL T N m H ds vs → RepL T N m H ds.reverse vs.reverse
  | [], _, r => by cases r; exact rfl
  | d :: ds, _, ⟨v, w, e, a, b⟩ => by
    subst e
    rw [List.reverse_cons, List.reverse_cons]
    exact RepL.append (RepL.reverse b) (RepL.one a)
theorem RepL.eraseIdx : ∀ {ds : List D} {vs : List V} (i : Nat), RepL T N m H ds vs → RepL T N m H (ds.eraseIdx i) (vs.eraseIdx i)
  | [], _, _, r => by cases r; exact rfl
  | d :: ds, _, 0, ⟨v, w, e, a, b⟩ => by subst e; exact b
  | d :: ds, _, i + 1, ⟨v, w, e, a, b⟩ => by
    subst e
    exact ⟨v, _, rfl, a, RepL.eraseIdx i b⟩
theorem RepL.rep {ds : List D} {vs : List V} (r : RepL T N m H ds vs) : ∀ k : Nat, RepL T N m H (List.replicate k ds).flatten (List.replicate k vs).flatten
  | 0 => rfl
  | k + 1 => by
    rw [List.replicate_succ, List.replicate_succ, List.flatten_cons, List.flatten_cons]
    exact RepL.append r (RepL.rep r k)

/-! ### cells -/
/-- what is known of a kept exception: its class, its own dict -/
def ExH (a : Addr) (cls : Value) (d : Option Addr) : HO := .ext fun h => ∃ oe vs, h.get? a = some oe ∧ Zc cls d oe ∧ oe.data = .fields vs
/-- an exception: its class, its own dict -/
def RepX (T : Tb) (N : Nat) (m : Gh) (H : Hp) (x : Exn) (c : Value) (d : Option Addr) : Prop :=
  (c = .ref (T.xc x.cls) ∧ x.cls < T.nx) ∧ match x.args with
    | [] => d = none
    | [(f, e)] => ∃ a u, d = some a ∧ H a = some (.xd [(f, u)]) ∧ Off N m a ∧ RepV T N m H e u
    | _ => False
theorem RepX.ext0 {x : Exn} {c : Value} {d : Option Addr} (r : RepX T N m H x c d) (e : Ext0 N m H N' m' H') : RepX T N' m' H' x c d := by
  obtain ⟨k, args⟩ := x
  match args, r with
  | [], r => exact r
  | [(f, y)], ⟨e1, a, u, e2, e3, o, ru⟩ => exact ⟨e1, a, u, e2, (e.eq e3 o (fun _ z => nomatch z)).1, (e.eq e3 o (fun _ z => nomatch z)).2, RepV.ext0 e y u ru⟩
  | _ :: _ :: _, ⟨_, z⟩ => exact z.elim
theorem RepX.ext {x : Exn} {c : Value} {d : Option Addr} (r : RepX T N m H x c d) (e : Ext N m H N' m' H') : RepX T N' m' H' x c d := r.ext0 e.to0
theorem RepX.tb {T' : Tb} (hK : T'.K = T.K) (hx : T'.xc = T.xc) (hn : T'.nx = T.nx) (hv : ∀ (d : D) (v : V), RepV T N m H d v → RepV T' N m H d v) {x : Exn} {c : Value} {d : Option Addr} (r : RepX T N m H x c d) : RepX T' N m H x c d := by
  obtain ⟨k, args⟩ := x
  match args, r with
  | [], r => exact ⟨by rw [hx, hn]; exact r.1, r.2⟩
  | [(f, y)], ⟨e1, a, u, e2, e3, o, ru⟩ => exact ⟨by rw [hx, hn]; exact e1, a, u, e2, e3, o, hv y u ru⟩
  | _ :: _ :: _, ⟨_, z⟩ => exact z.elim
def CellR (T : Tb) (N : Nat) (m : Gh) (H : Hp) (a : Addr) : Cell → Prop
  | .lst ds => ∃ vs, H a = some (.lst vs) ∧ RepL T N m H ds vs
  | .dct ks ds => ∃ us, DK H a ks us ∧ RepL T N m H ds us
  | .ins c fs => ∃ dx us, H a = some (.ins (T.cl c) dx ((fs.map (·.1)).zip us)) ∧ H dx = some (.own a) ∧ Off N m dx ∧ RepL T N m H (fs.map (·.2)) us
  | .exn x => ∃ d, H a = some (ExH a (.ref (T.xc x.cls)) d) ∧ RepX T N m H x (.ref (T.xc x.cls)) d
structure HR (T : Tb) (m : Gh) (H : Hp) (h : Hv) : Prop where
  cell : ∀ (n : Nat) (c : Cell), h[n]? = some c → CellR T h.length m H (m n) c
  inj : ∀ i j, i < h.length → j < h.length → m i = m j → i = j
  off : ∀ i, i < h.length → ¬ m.P (m i)
  here : ∀ a, m.P a → ∃ o, H a = some o
def EnvR (T : Tb) (N : Nat) (m : Gh) (H : Hp) (σ : List (Option V)) (env : En) : Prop :=
  σ.length = env.length ∧ ∀ (i : Nat) (d : D), env[i]? = some (some d) → ∃ v, σ[i]? = some (some v) ∧ RepV T N m H d v
theorem EnvR.ext {σ : List (Option V)} {env : En} (e : EnvR T N m H σ env) (x : Ext N m H N' m' H') : EnvR T N' m' H' σ env :=
  ⟨e.1, fun i d q => let ⟨v, a, b⟩ := e.2 i d q; ⟨v, a, RepV.ext x d v b⟩⟩
theorem EnvR.ext0 {σ : List (Option V)} {env : En} (e : EnvR T N m H σ env) (x : Ext0 N m H N' m' H') : EnvR T N' m' H' σ env :=
  ⟨e.1, fun i d q => let ⟨v, a, b⟩ := e.2 i d q; ⟨v, a, RepV.ext0 x d v b⟩⟩
theorem EnvR.set {σ : List (Option V)} {env : En} {i : Nat} {d : D} {v : V} (e : EnvR T N m H σ env) (r : RepV T N m H d v) : EnvR T N m H (σ.set i (some v)) (env.set i (some d)) := by
  refine ⟨by rw [List.length_set, List.length_set]; exact e.1, fun j x q => ?_⟩
  by_cases hj : i = j
  · subst hj
    by_cases hl : i < env.length
    · rw [List.getElem?_set_self hl] at q
      cases q
      exact ⟨v, by rw [List.getElem?_set_self (by rw [e.1]; exact hl)], r⟩
    · rw [List.getElem?_eq_none (by simpa using hl)] at q
      cases q
  · rw [List.getElem?_set_ne hj] at q
    obtain ⟨u, a, b⟩ := e.2 j x q
    exact ⟨u, by rw [List.getElem?_set_ne hj]; exact a, b⟩
theorem EnvR.wipe {σ : List (Option V)} {env : En} (e : EnvR T N m H σ env) : ∀ vs : List Nat, EnvR T N m H (L2.wipe σ vs) (wipeD env vs)
  | [] => e
  | i :: vs => by
    have q := EnvR.wipe e vs
    refine ⟨by show ((L2.wipe σ vs).set i none).length = ((wipeD env vs).set i none).length; rw [List.length_set, List.length_set]; exact q.1, fun j x z => ?_⟩
    have z : ((wipeD env vs).set i none)[j]? = some (some x) := z
    show ∃ v, ((L2.wipe σ vs).set i none)[j]? = some (some v) ∧ _
    by_cases hj : i = j
    · subst hj
      by_cases hl : i < (wipeD env vs).length
      · rw [List.getElem?_set_self hl] at z
        cases z
      · rw [List.getElem?_eq_none (by simpa using hl)] at z
        cases z
    · rw [List.getElem?_set_ne hj] at z
      obtain ⟨u, a, b⟩ := q.2 j x z
      exact ⟨u, by rw [List.getElem?_set_ne hj]; exact a, b⟩
def XiR (T : Tb) (N : Nat) (m : Gh) (H : Hp) (σ : List (Option V)) : Prop := ∀ x, T.xi = some x → (∀ o, σ[x.i]? = some o → o = some (.ref x.a)) ∧ RepX T N m H x.x (.ref (T.xc x.x.cls)) x.d
theorem XiR.ext {σ : List (Option V)} (r : XiR T N m H σ) (e : Ext N m H N' m' H') : XiR T N' m' H' σ := fun x h => ⟨(r x h).1, (r x h).2.ext e⟩
theorem XiR.set {σ : List (Option V)} {i : Nat} {o : Option V} (r : XiR T N m H σ) (h : ∀ x, T.xi = some x → i ≠ x.i) : XiR T N m H (σ.set i o) := fun x hx => ⟨by rw [List.getElem?_set_ne (h x hx)]; exact (r x hx).1, (r x hx).2⟩
theorem XiR.calm {σ : List (Option V)} (h : T.xi = none) : XiR T N m H σ := fun x hx => by rw [h] at hx; cases hx
structure Sta (T : Tb) (m : Gh) (h : Hv) (H : Hp) (σ : List (Option V)) (env : En) : Prop where
  hr : HR T m H h
  en : EnvR T h.length m H σ env
  sx : XiR T h.length m H σ
theorem Sta.next {σ : List (Option V)} {env : En} (s : Sta T m h H σ env) (x : Ext h.length m H h'.length m' H') (r : HR T m' H' h') : Sta T m' h' H' σ env := ⟨r, s.en.ext x, s.sx.ext x⟩
theorem Sta.set {σ : List (Option V)} {env : En} {i : Nat} {d : D} {v : V} (s : Sta T m h H σ env) (r : RepV T h.length m H d v) (hi : ∀ x, T.xi = some x → i ≠ x.i) : Sta T m h H (σ.set i (some v)) (env.set i (some d)) := ⟨s.hr, s.en.set r, s.sx.set hi⟩
/-! ### another suite, the same values -/
mutual
theorem RepV.tb {T' : Tb} (hK : T'.K = T.K) : ∀ (d : D) (v : V), RepV T N m H d v → RepV T' N m H d v
  | .non, _, r => r
  | .bl _, _, r => r
  | .int _, _, r => r
  | .str _, _, r => r
  | .tup xs, v, ⟨a, vs, e, q, l⟩ => ⟨a, vs, e, by rw [hK]; exact q, RepL.tb hK xs vs l⟩
  | .lst xs, v, ⟨a, vs, e, q, l⟩ => ⟨a, vs, e, q, RepL.tb hK xs vs l⟩
  | .ro xs, v, ⟨a, vs, e, q, l⟩ => ⟨a, vs, e, by rw [hK]; exact q, RepL.tb hK xs vs l⟩
  | .dct ks xs, v, ⟨a, us, e, q, f, l⟩ => ⟨a, us, e, q, f, RepL.tb hK xs us l⟩
  | .ref n, v, r => r
theorem RepL.tb {T' : Tb} (hK : T'.K = T.K) : ∀ (ds : List D) (vs : List V), RepL T N m H ds vs → RepL T' N m H ds vs
  | [], _, r => r
  | d :: ds, vs, ⟨v, w, e, a, b⟩ => ⟨v, w, e, RepV.tb hK d v a, RepL.tb hK ds w b⟩
end
theorem HR.tb {T' : Tb} (hK : T'.K = T.K) (hc : T'.cl = T.cl) (hx : T'.xc = T.xc) (hn : T'.nx = T.nx) (r : HR T m H h) : HR T' m H h := ⟨fun n c e => by
  have q := r.cell n c e
  cases c with
  | lst ds => obtain ⟨vs, e1, l⟩ := q; exact ⟨vs, e1, RepL.tb hK _ _ l⟩
  | dct ks ds => obtain ⟨us, e1, l⟩ := q; exact ⟨us, e1, RepL.tb hK _ _ l⟩
  | ins c fs => obtain ⟨dx, us, e1, e2, f, l⟩ := q; exact ⟨dx, us, by rw [hc]; exact e1, e2, f, RepL.tb hK _ _ l⟩
  | exn x => obtain ⟨d, e1, l⟩ := q; exact ⟨d, by rw [hx]; exact e1, by rw [show T'.xc x.cls = T.xc x.cls from by rw [hx]]; exact RepX.tb hK hx hn (RepV.tb hK) l⟩, r.inj, r.off, r.here⟩
theorem EnvR.tb {T' : Tb} (hK : T'.K = T.K) {σ : List (Option V)} {env : En} (e : EnvR T N m H σ env) : EnvR T' N m H σ env := ⟨e.1, fun i d q => let ⟨v, a, b⟩ := e.2 i d q; ⟨v, a, RepV.tb hK d v b⟩⟩
theorem EnvR.gone {σ : List (Option V)} {env : En} {i : Nat} {o : Option V} (e : EnvR T N m H σ env) : EnvR T N m H (σ.set i o) (env.set i none) := by
  refine ⟨by rw [List.length_set, List.length_set]; exact e.1, fun j x q => ?_⟩
  by_cases hj : i = j
  · subst hj
    by_cases hl : i < env.length
    · rw [List.getElem?_set_self hl] at q
      cases q
    · rw [List.getElem?_eq_none (by simpa using hl)] at q
      cases q
  · rw [List.getElem?_set_ne hj] at q
    obtain ⟨u, a, b⟩ := e.2 j x q
    exact ⟨u, by rw [List.getElem?_set_ne hj]; exact a, b⟩

/-! ### what is wanted behind an evaluation -/
def Post {α β : Type} (T : Tb) (N : Nat) (m : Gh) (H : Hp) (Ra : Nat → Gh → Hp → α → β → Prop) (Q : β → Hp → Prop) (Wx : XK) : Rs α → Prop
  | .no => False
  | .ok a h' => ∀ m' H' b, Ext N m H h'.length m' H' → HR T m' H' h' → Ra h'.length m' H' a b → Q b H'
  | .ex x h' => ∀ m' H' c d, Ext N m H h'.length m' H' → HR T m' H' h' → RepX T h'.length m' H' x c d → Wx c d H'
abbrev PostV (T : Tb) := Post (α := D) (β := V) (T := T)
theorem Post.ext {α β : Type} {Ra : Nat → Gh → Hp → α → β → Prop} {Q : β → Hp → Prop} {Wx : XK} : ∀ {r : Rs α}, Post T N m H Ra Q Wx r → Ext N m H N' m' H' → Post T N' m' H' Ra Q Wx r
  | .no, p, _ => p
  | .ok a h', p, x => fun m2 H2 b e => p m2 H2 b (x.trans e)
  | .ex y h', p, x => fun m2 H2 c d e => p m2 H2 c d (x.trans e)
theorem Post.split {α β γ δ : Type} {Ra : Nat → Gh → Hp → α → β → Prop} {Rb : Nat → Gh → Hp → γ → δ → Prop} {Q : δ → Hp → Prop} {Q1 : β → Hp → Prop} {Wx : XK} {r : Rs α} {f : α → Hv → Rs γ}
    (p : Post T N m H Rb Q Wx (r.bind f))
    (k : ∀ a h1 m1 H1 b, Ext N m H h1.length m1 H1 → HR T m1 H1 h1 → Ra h1.length m1 H1 a b → Post T h1.length m1 H1 Rb Q Wx (f a h1) → Q1 b H1) : Post T N m H Ra Q1 Wx r := by
  cases r with
  | no => exact p
  | ok a h1 => exact fun m1 H1 b x hr ra => k a h1 m1 H1 b x hr ra (Post.ext (r := f a h1) p x)
  | ex y h1 => exact p
theorem Post.splitE {α β γ δ : Type} {Ra : Nat → Gh → Hp → α → β → Prop} {Rb : Nat → Gh → Hp → γ → δ → Prop} {Q : δ → Hp → Prop} {Q1 : β → Hp → Prop} {Wx : XK} {r : Rs α} {f : α → Hv → Rs γ}
    (p : Post T N m H Rb Q Wx (r.bind f))
    (k : ∀ a h1 m1 H1 b, r = .ok a h1 → Ext N m H h1.length m1 H1 → HR T m1 H1 h1 → Ra h1.length m1 H1 a b → Post T h1.length m1 H1 Rb Q Wx (f a h1) → Q1 b H1) : Post T N m H Ra Q1 Wx r := by
  cases r with
  | no => exact p
  | ok a h1 => exact fun m1 H1 b x hr ra => k a h1 m1 H1 b rfl x hr ra (Post.ext (r := f a h1) p x)
  | ex y h1 => exact p
theorem Post.mono {α β : Type} {Ra : Nat → Gh → Hp → α → β → Prop} {Q Q1 : β → Hp → Prop} {Wx : XK} : ∀ {r : Rs α}, Post T N m H Ra Q Wx r → (∀ b H, Q b H → Q1 b H) → Post T N m H Ra Q1 Wx r
  | .no, p, _ => p
  | .ok a h', p, k => fun m2 H2 b e hr ra => k _ _ (p m2 H2 b e hr ra)
  | .ex y h', p, _ => p
/-- the value itself -/
theorem Post.now {Q : V → Hp → Prop} {Wx : XK} {d : D} {v : V} (p : Post T h.length m H (RepV T) Q Wx (.ok d h)) (hr : HR T m H h) (r : RepV T h.length m H d v) : Q v H := p m H v .refl hr r

/-! ### new objects -/
theorem new_ne (hr : HR T m H h) {p : Addr} (hp : H p = none) (n : Nat) (hn : n < h.length) : m n ≠ p := fun e => by
  have q := hr.cell n (h[n]'hn) (List.getElem?_eq_getElem hn)
  rw [e] at q
  cases hc : h[n]'hn with
  | lst ds => rw [hc] at q; obtain ⟨vs, a, _⟩ := q; rw [hp] at a; cases a
  | dct _ _ => rw [hc] at q; obtain ⟨us, dk, _⟩ := q; obtain ⟨o, e⟩ := dk.here; rw [hp] at e; cases e
  | ins _ _ => rw [hc] at q; obtain ⟨dx, us, e, _⟩ := q; rw [hp] at e; cases e
  | exn _ => rw [hc] at q; obtain ⟨d, e, _⟩ := q; rw [hp] at e; cases e
theorem off_new (hr : HR T m H h) {p : Addr} (hp : H p = none) : Off h.length m p := ⟨new_ne hr hp, fun z => by
  obtain ⟨o, e⟩ := hr.here p z
  rw [hp] at e
  cases e⟩
theorem ext_new {p : Addr} {o : HO} (hp : H p = none) : Ext N m H N m (upd H p o) :=
  ⟨Nat.le_refl _, fun _ _ => rfl, fun a u e f => ⟨.inl (by rw [upd_ne (ne_of_none e hp)]; exact e), f⟩, rfl, fun a u _ e => by rw [upd_ne (ne_of_none e hp)]; exact e⟩
theorem CellR.ext {a : Addr} (x : Ext N m H N' m' H') (k : ∀ o, H a = some o → H' a = some o) : ∀ {c : Cell}, CellR T N m H a c → CellR T N' m' H' a c
  | .lst ds, ⟨vs, e, r⟩ => ⟨vs, k _ e, RepL.ext x ds vs r⟩
  | .dct ks ds, ⟨us, e, r⟩ => ⟨us, e.keep k, RepL.ext x ds us r⟩
  | .ins c fs, ⟨dx, us, e, e2, f, r⟩ => ⟨dx, us, k _ e, (x.eq e2 f (fun _ z => nomatch z)).1, (x.eq e2 f (fun _ z => nomatch z)).2, RepL.ext x _ us r⟩
  | .exn _, ⟨d, e, r⟩ => ⟨d, k _ e, r.ext x⟩
theorem hr_new (hr : HR T m H h) {p : Addr} {o : HO} (hp : H p = none) : HR T m (upd H p o) h :=
  ⟨fun n c e => CellR.ext (ext_new hp) (fun u q => by rw [upd_ne (ne_of_none q hp)]; exact q) (hr.cell n c e), hr.inj, hr.off, fun a z => let ⟨o, e⟩ := hr.here a z; ⟨o, by rw [upd_ne (ne_of_none e hp)]; exact e⟩⟩
/-- a new cell -/
def Gh.add (m : Gh) (N : Nat) (p : Addr) : Gh := ⟨fun n => if n = N then p else m n, m.P⟩
theorem add_same : (m.add N p) N = p := if_pos rfl
theorem add_ne {n : Nat} {p : Addr} (h : n ≠ N) : (m.add N p) n = m n := if_neg h
theorem ext_cell {p : Addr} {o : HO} (hp : H p = none) : Ext N m H (N + 1) (m.add N p) (upd H p o) where
  le := Nat.le_succ _
  mu := fun n hn => add_ne (Nat.ne_of_lt hn)
  keep := fun a u e f => ⟨.inl (by rw [upd_ne (ne_of_none e hp)]; exact e), fun n hn => by
    by_cases q : n = N
    · rw [q, add_same]
      exact fun z => by rw [← z, hp] at e; cases e
    · rw [add_ne q]
      exact f.1 n (by omega), f.2⟩
  side := rfl
  prot := fun a u _ e => by rw [upd_ne (ne_of_none e hp)]; exact e
theorem hr_cellC (hr : HR T m H h) {p : Addr} {o : HO} {c0 : Cell} (hp : H p = none) (r : CellR T (h.length + 1) (m.add h.length p) (upd H p o) p c0) : HR T (m.add h.length p) (upd H p o) (h ++ [c0]) := by
  have x : Ext h.length m H (h.length + 1) (m.add h.length p) (upd H p o) := ext_cell hp
  have hl : (h ++ [c0]).length = h.length + 1 := by simp
  have off := off_new hr hp
  refine ⟨fun n c e => ?_, fun i j hi hj e => ?_, fun i hi => ?_, fun a z => ?_⟩
  · rw [hl]
    by_cases hn : n = h.length
    · subst hn
      rw [List.getElem?_concat_length] at e
      cases e
      rw [add_same]
      exact r
    · have hlt : n < h.length := by
        have := (List.getElem?_eq_some_iff.mp e).1
        omega
      rw [List.getElem?_append_left hlt] at e
      rw [add_ne hn]
      exact CellR.ext x (fun u q => by rw [upd_ne (ne_of_none q hp)]; exact q) (hr.cell n c e)
  · rw [hl] at hi hj
    by_cases h1 : i = h.length
    · by_cases h2 : j = h.length
      · omega
      · rw [h1, add_same, add_ne h2] at e
        exact absurd e.symm (off.1 j (by omega))
    · by_cases h2 : j = h.length
      · rw [h2, add_same, add_ne h1] at e
        exact absurd e (off.1 i (by omega))
      · rw [add_ne h1, add_ne h2] at e
        exact hr.inj i j (by omega) (by omega) e
  · rw [hl] at hi
    by_cases h1 : i = h.length
    · rw [h1, add_same]
      exact off.2
    · rw [add_ne h1]
      exact hr.off i (by omega)
  · obtain ⟨o, e⟩ := hr.here a z
    exact ⟨o, by rw [upd_ne (ne_of_none e hp)]; exact e⟩
theorem hr_cell (hr : HR T m H h) {p : Addr} {vs : List V} {ds : List D} (hp : H p = none) (r : RepL T h.length m H ds vs) : HR T (m.add h.length p) (upd H p (.lst vs)) (h ++ [.lst ds]) :=
  hr_cellC hr hp ⟨vs, upd_same, RepL.ext (ext_cell hp) ds vs r⟩
/-- a new cell of an object that stands already -/
theorem hr_adoptNew (hr : HR T m H h) {p : Addr} {c0 : Cell} (hp : Off h.length m p) (r : CellR T (h.length + 1) (m.add h.length p) H p c0) (x : Ext h.length m H (h.length + 1) (m.add h.length p) H) : HR T (m.add h.length p) H (h ++ [c0]) := by
  have hl : (h ++ [c0]).length = h.length + 1 := by simp
  refine ⟨fun n c e => ?_, fun i j hi hj e => ?_, fun i hi => ?_, hr.here⟩
  · rw [hl]
    by_cases hn : n = h.length
    · subst hn
      rw [List.getElem?_concat_length] at e
      cases e
      rw [add_same]
      exact r
    · have hlt : n < h.length := by
        have := (List.getElem?_eq_some_iff.mp e).1
        omega
      rw [List.getElem?_append_left hlt] at e
      rw [add_ne hn]
      exact CellR.ext x (fun _ q => q) (hr.cell n c e)
  · rw [hl] at hi hj
    by_cases h1 : i = h.length
    · by_cases h2 : j = h.length
      · omega
      · rw [h1, add_same, add_ne h2] at e
        exact absurd e.symm (hp.1 j (by omega))
    · by_cases h2 : j = h.length
      · rw [h2, add_same, add_ne h1] at e
        exact absurd e (hp.1 i (by omega))
      · rw [add_ne h1, add_ne h2] at e
        exact hr.inj i j (by omega) (by omega) e
  · rw [hl] at hi
    by_cases h1 : i = h.length
    · rw [h1, add_same]
      exact hp.2
    · rw [add_ne h1]
      exact hr.off i (by omega)
/-- a cell is written -/
theorem ext_write (hr : HR T m H h) {n : Nat} {o : HO} (hn : n < h.length) : Ext h.length m H h.length m (upd H (m n) o) :=
  ⟨Nat.le_refl _, fun _ _ => rfl, fun a u e f => ⟨.inl (by rw [upd_ne (fun z => f.1 n hn z.symm)]; exact e), f⟩, rfl, fun a u z e => by rw [upd_ne (fun q => hr.off n hn (by rw [← q]; exact z))]; exact e⟩
theorem hr_writeC (hr : HR T m H h) {n : Nat} {o : HO} {c0 : Cell} (hn : n < h.length) (r : CellR T h.length m (upd H (m n) o) (m n) c0) : HR T m (upd H (m n) o) (h.set n c0) := by
  have x : Ext h.length m H h.length m (upd H (m n) o) := ext_write hr hn
  refine ⟨fun i c e => ?_, fun i j hi hj e => hr.inj i j (by simpa using hi) (by simpa using hj) e, fun i hi => hr.off i (by simpa using hi), fun a z => ?_⟩
  · rw [List.length_set]
    by_cases hi : n = i
    · subst hi
      rw [List.getElem?_set_self hn] at e
      cases e
      exact r
    · rw [List.getElem?_set_ne hi] at e
      have hlt : i < h.length := (List.getElem?_eq_some_iff.mp e).1
      have hne : m i ≠ m n := fun z => hi (hr.inj i n hlt hn z).symm
      exact CellR.ext x (fun u q => by rw [upd_ne hne]; exact q) (hr.cell i c e)
  · obtain ⟨o, e⟩ := hr.here a z
    exact ⟨o, x.prot a o z e⟩
theorem hr_write (hr : HR T m H h) {n : Nat} {vs : List V} {ds : List D} (hn : n < h.length) (r : RepL T h.length m H ds vs) : HR T m (upd H (m n) (.lst vs)) (h.set n (.lst ds)) :=
  hr_writeC hr hn ⟨vs, upd_same, RepL.ext (ext_write hr hn) ds vs r⟩
end
end Hr
set_option maxHeartbeats 1000000
/-! Reading values; operators by values. -/
namespace Hr
open PySem PySem.Spec PyProof.Rows L2
section
variable {T : Tb} {N : Nat} {m : Gh} {H : Hp} {h : Hv} {d : D} {ds : List D} {v : V}
theorem HR.lst (hr : HR T m H h) {n : Nat} (e : h[n]? = some (.lst ds)) : ∃ vs, H (m n) = some (.lst vs) ∧ RepL T h.length m H ds vs := hr.cell n _ e
theorem rep_tup {xs : List D} (r : RepV T N m H (.tup xs) v) : ∃ a vs, v = .ref a ∧ SqT T.K H a vs ∧ RepL T N m H xs vs := by
  obtain ⟨a, vs, e, q, l⟩ := r
  exact ⟨a, vs, e, q.imp (·.1) id, l⟩
theorem rep_lst {xs : List D} (r : RepV T N m H (.lst xs) v) : ∃ a vs, v = .ref a ∧ H a = some (.lst vs) ∧ RepL T N m H xs vs := by
  obtain ⟨a, vs, e, q, l⟩ := r
  exact ⟨a, vs, e, q.1, l⟩
theorem rep_ro {xs : List D} (r : RepV T N m H (.ro xs) v) : ∃ a vs, v = .ref a ∧ SqL T.K H a vs ∧ RepL T N m H xs vs := by
  obtain ⟨a, vs, e, q, l⟩ := r
  exact ⟨a, vs, e, q.imp (·.1) id, l⟩
theorem asL_rep (hr : HR T m H h) (r : RepV T h.length m H d v) (e : asL h d = some ds) : ∃ a vs, v = .ref a ∧ H a = some (.lst vs) ∧ RepL T h.length m H ds vs := by
  cases d with
  | lst xs =>
    cases e
    exact rep_lst r
  | ref n =>
    obtain ⟨hn, rfl⟩ := r
    have e : (match h[n]? with | some (.lst ds) => some ds | _ => none) = some ds := e
    split at e
    · rename_i xs q
      cases e
      obtain ⟨vs, a, b⟩ := hr.lst q
      exact ⟨_, vs, rfl, a, b⟩
    · cases e
  | _ => cases e
theorem asS_rep (hr : HR T m H h) (r : RepV T h.length m H d v) (e : asS h d = some ds) : ∃ a vs, v = .ref a ∧ (SqL T.K H a vs ∨ SqT T.K H a vs) ∧ RepL T h.length m H ds vs := by
  cases d with
  | tup xs =>
    cases e
    obtain ⟨a, vs, e, q, l⟩ := rep_tup r
    exact ⟨a, vs, e, .inr q, l⟩
  | ro xs =>
    cases e
    obtain ⟨a, vs, e, q, l⟩ := rep_ro r
    exact ⟨a, vs, e, .inl q, l⟩
  | lst xs =>
    obtain ⟨a, vs, e, q, l⟩ := asL_rep hr r (ds := ds) e
    exact ⟨a, vs, e, .inl (.inl (.inl q)), l⟩
  | ref n =>
    obtain ⟨a, vs, e, q, l⟩ := asL_rep hr r (ds := ds) e
    exact ⟨a, vs, e, .inl (.inl (.inl q)), l⟩
  | _ => cases e
/-! ### as plain data -/
/-- plain data, dicts too -/
inductive Dq (K : PySem.W.Frag) (H : Hp) : V → PyData → Prop where
  | non : Dq K H .non .none
  | bl (b : Bool) : Dq K H (.bl b) (.bool b)
  | int (i : Int) : Dq K H (.int i) (.int i)
  | str (x : Str) : Dq K H (.str x) (.str x)
  | lst {a : Addr} {xs : List V} {ds : List PyData} : SqL K H a xs → Paired (Dq K H) xs ds → Dq K H (.ref a) (.list ds)
  | tup {a : Addr} {xs : List V} {ds : List PyData} : SqT K H a xs → Paired (Dq K H) xs ds → Dq K H (.ref a) (.tuple ds)
  | dct {a : Addr} {kk : List Key} {xs : List V} {kvs : List (PyData × PyData)} : Rd H a (.dK (kk.zip xs)) → kk.length = xs.length → kvs.map (·.1) = kk.map keyP → Paired (Dq K H) xs (kvs.map (·.2)) → Dq K H (.ref a) (.dict kvs)
mutual
theorem strip_rep {f : Nat → Option PyData} (k : ∀ n p, f n = some p → n < N → Dq T.K H (.ref (m n)) p) : ∀ (d : D) (v : V) (p : PyData), RepV T N m H d v → strip f d = some p → Dq T.K H v p
  | .non, _, _, r, e => by
    have e : some PyData.none = some _ := e
    cases e; cases r; exact .non
  | .bl b, _, _, r, e => by
    have e : some (PyData.bool b) = some _ := e
    cases e; cases r; exact .bl b
  | .int i, _, _, r, e => by
    have e : some (PyData.int i) = some _ := e
    cases e; cases r; exact .int i
  | .str s, _, _, r, e => by
    have e : some (PyData.str s) = some _ := e
    cases e; cases r; exact .str s
  | .tup xs, v, p, r, e => by
    obtain ⟨a, vs, rfl, q, l⟩ := rep_tup r
    have e : (strips f xs).map PyData.tuple = some p := e
    cases z : strips f xs with
    | none => rw [z] at e; cases e
    | some ps =>
      rw [z] at e
      cases e
      exact .tup q (strips_rep k xs vs ps l z)
  | .lst xs, v, p, r, e => by
    obtain ⟨a, vs, rfl, q, l⟩ := rep_lst r
    have e : (strips f xs).map PyData.list = some p := e
    cases z : strips f xs with
    | none => rw [z] at e; cases e
    | some ps =>
      rw [z] at e
      cases e
      exact .lst (.inl (.inl q)) (strips_rep k xs vs ps l z)
  | .ro xs, v, p, r, e => by
    obtain ⟨a, vs, rfl, q, l⟩ := rep_ro r
    have e : (strips f xs).map PyData.list = some p := e
    cases z : strips f xs with
    | none => rw [z] at e; cases e
    | some ps =>
      rw [z] at e
      cases e
      exact .lst q (strips_rep k xs vs ps l z)
  | .dct ks ds, v, p, r, e => by
    obtain ⟨a, us, rfl, ⟨kk, e1, l1, h1⟩, _, l⟩ := r
    have e : (keysD ks).bind (fun kk => (strips f ds).map fun ps => PyData.dict ((kk.map keyP).zip ps)) = some p := e
    rw [e1] at e
    have e : (strips f ds).map (fun ps => PyData.dict ((kk.map keyP).zip ps)) = some p := e
    cases z : strips f ds with
    | none => rw [z] at e; cases e
    | some ps =>
      rw [z] at e
      cases e
      have q := strips_rep k ds us ps l z
      have ld : kk.length = ps.length := l1.trans q.length
      refine .dct h1 l1 (List.map_fst_zip (by simp; omega)) ?_
      rw [List.map_snd_zip (by simp; omega)]
      exact q
  | .ref n, v, p, r, e => by
    obtain ⟨hn, rfl⟩ := r
    exact k n p e hn
theorem strips_rep {f : Nat → Option PyData} (k : ∀ n p, f n = some p → n < N → Dq T.K H (.ref (m n)) p) : ∀ (ds : List D) (vs : List V) (ps : List PyData), RepL T N m H ds vs → strips f ds = some ps → Paired (Dq T.K H) vs ps
  | [], _, _, r, e => by
    cases r
    have e : some [] = some _ := e
    cases e
    exact .nil
  | d :: ds, vs, ps, ⟨v, w, q, a, b⟩, e => by
    subst q
    have e : ((strip f d).bind fun x => (strips f ds).map (x :: ·)) = some ps := e
    cases z : strip f d with
    | none => rw [z] at e; cases e
    | some p =>
      rw [z] at e
      have e : (strips f ds).map (p :: ·) = some ps := e
      cases y : strips f ds with
      | none => rw [y] at e; cases e
      | some qs =>
        rw [y] at e
        cases e
        exact .cons (strip_rep k d v p a z) (strips_rep k ds w qs b y)
end
theorem cellP_rep (hr : HR T m H h) {g : Nat → Option PyData} (k : ∀ n p, g n = some p → n < h.length → Dq T.K H (.ref (m n)) p) : ∀ n p, cellP h g n = some p → n < h.length → Dq T.K H (.ref (m n)) p := fun n p e hn => by
  unfold cellP at e
  split at e
  · rename_i ds q
    obtain ⟨vs, a, l⟩ := hr.lst q
    cases z : strips g ds with
    | none => rw [z] at e; cases e
    | some ps =>
      rw [z] at e
      cases e
      exact .lst (.inl (.inl a)) (strips_rep k ds vs ps l z)
  · cases e
theorem toQ_rep (hr : HR T m H h) {p : PyData} (r : RepV T h.length m H d v) (e : toP h d = some p) : Dq T.K H v p :=
  strip_rep (cellP_rep hr (cellP_rep hr (by intro n p z; cases z))) d v p r e
mutual
theorem Dq.dp {K : PySem.W.Frag} {H : Hp} : ∀ (p : PyData) {v : V}, Dq K H v p → p.plain = true → Dp K H v p
  | .none, _, d, _ => by cases d; exact .non
  | .bool _, _, d, _ => by cases d; exact .bl _
  | .int _, _, d, _ => by cases d; exact .int _
  | .str _, _, d, _ => by cases d; exact .str _
  | .list ds, _, d, c => by
    cases d with
    | lst q l => exact .lst q (Dq.dps ds l (by simpa only [PyData.plain] using c))
  | .tuple ds, _, d, c => by
    cases d with
    | tup q l => exact .tup q (Dq.dps ds l (by simpa only [PyData.plain] using c))
  | .dict _, _, _, c => by simp only [PyData.plain] at c; cases c
theorem Dq.dps {K : PySem.W.Frag} {H : Hp} : ∀ (ps : List PyData) {vs : List V}, Paired (Dq K H) vs ps → PyData.plainAll ps = true → DpAll K H vs ps
  | [], _, l, _ => by cases l; exact .nil
  | p :: ps, _, l, c => by
    cases l with
    | cons a b =>
      simp only [PyData.plainAll, Bool.and_eq_true] at c
      exact .cons (Dq.dp p a c.1) (Dq.dps ps b c.2)
end
/-- as plain data, where no dict lies within -/
theorem toP_rep (hr : HR T m H h) {p : PyData} (r : RepV T h.length m H d v) (e : toP h d = some p) (c : p.plain = true) : Dp T.K H v p := (toQ_rep hr r e).dp p c
theorem truth_rep (hr : HR T m H h) {b : Bool} (r : RepV T h.length m H d v) (e : truth h d = some b) : TruV T.K v H b := by
  cases d with
  | non => cases e; cases r; rfl
  | bl c => cases e; cases r; rfl
  | int i => cases e; cases r; rfl
  | str s =>
    cases r
    have e : (if s.length ≤ sizeLine then some (s.length != 0) else none) = some b := e
    by_cases c : s.length ≤ sizeLine
    case neg => rw [if_neg c] at e; cases e
    rw [if_pos c] at e
    cases e
    refine ⟨c, ?_⟩
    show (s.length != 0) = ((s.length : Int) != 0)
    by_cases q : s.length = 0
    · rw [q]; rfl
    · have h1 : (s.length != 0) = true := bne_iff_ne.mpr q
      have h2 : ((s.length : Int) != 0) = true := bne_iff_ne.mpr (by omega)
      rw [h1, h2]
  | tup xs =>
    cases e
    obtain ⟨a, vs, rfl, q, l⟩ := rep_tup r
    refine .inr (.inl ⟨vs, q, ?_⟩)
    have := l.length
    cases xs <;> cases vs <;> first | rfl | (simp at this)
  | lst xs =>
    cases e
    obtain ⟨a, vs, rfl, q, l⟩ := rep_lst r
    refine .inl ⟨vs, .inl (.inl q), ?_⟩
    have := l.length
    cases xs <;> cases vs <;> first | rfl | (simp at this)
  | ro xs =>
    cases e
    obtain ⟨a, vs, rfl, q, l⟩ := rep_ro r
    refine .inl ⟨vs, q, ?_⟩
    have := l.length
    cases xs <;> cases vs <;> first | rfl | (simp at this)
  | dct _ _ => cases e
  | ref n =>
    obtain ⟨hn, rfl⟩ := r
    have e : (match h[n]? with | some (.lst ds) => some (!ds.isEmpty) | _ => none) = some b := e
    split at e
    · rename_i xs q
      cases e
      obtain ⟨vs, a, l⟩ := hr.lst q
      refine .inl ⟨vs, .inl (.inl a), ?_⟩
      have := l.length
      cases xs <;> cases vs <;> first | rfl | (simp at this)
    · cases e
/-! ### what is made -/
theorem post_tup {Q : V → Hp → Prop} {Wx : XK} {vs : List V} {p : Addr} (z : Post T h.length m H (RepV T) Q Wx (.ok (.tup ds) h)) (hr : HR T m H h) (r : RepL T h.length m H ds vs) (hp : H p = none) : Q (.ref p) (upd H p (.tup vs)) :=
  z m _ _ (ext_new hp) (hr_new hr hp) ⟨p, vs, rfl, .inl ⟨.inl upd_same, off_new hr hp⟩, RepL.ext (ext_new hp) _ _ r⟩
theorem post_mkL {Q : V → Hp → Prop} {Wx : XK} {vs : List V} {p : Addr} {b : Bool} (z : Post T h.length m H (RepV T) Q Wx (mkL b ds h)) (hr : HR T m H h) (r : RepL T h.length m H ds vs) (hp : H p = none) : Q (.ref p) (upd H p (.lst vs)) := by
  cases b with
  | false => exact z m _ _ (ext_new hp) (hr_new hr hp) ⟨p, vs, rfl, ⟨upd_same, off_new hr hp⟩, RepL.ext (ext_new hp) _ _ r⟩
  | true =>
    have hl : (h ++ [Cell.lst ds]).length = h.length + 1 := by simp
    refine z (m.add h.length p) _ _ (hl ▸ ext_cell hp) (hr_cell hr hp r) ?_
    refine ⟨by rw [hl]; exact Nat.lt_succ_self _, ?_⟩
    rw [add_same]
end
theorem post_mkDc {Q : V → Hp → Prop} {Wx : XK} {p : Addr} {b : Bool} (z : Post T h.length m H (RepV T) Q Wx (mkDc b [] [] h)) (hr : HR T m H h) (hp : H p = none) : Q (.ref p) (upd H p (.dK [])) := by
  have dk : DK (upd H p (.dK [])) p [] [] := ⟨[], rfl, rfl, upd_same⟩
  cases b with
  | false => exact z m _ _ (ext_new hp) (hr_new hr hp) ⟨p, [], rfl, dk.rd, off_new hr hp, rfl⟩
  | true =>
    have hl : (h ++ [Cell.dct [] []]).length = h.length + 1 := by simp
    refine z (m.add h.length p) _ _ (hl ▸ ext_cell hp) (hr_cellC hr hp ⟨[], dk, rfl⟩) ?_
    refine ⟨by rw [hl]; exact Nat.lt_succ_self _, ?_⟩
    rw [add_same]
/-! ### dicts -/
theorem dctAt_rep (hr : HR T m H h) {ks : List D} (r : RepV T h.length m H d v) (e : dctAt h d = some (ks, ds)) : ∃ a us, v = .ref a ∧ DR H a ks us ∧ RepL T h.length m H ds us := by
  cases d with
  | dct k x =>
    cases e
    obtain ⟨a, us, rfl, q, _, l⟩ := r
    exact ⟨a, us, rfl, q, l⟩
  | ref n =>
    obtain ⟨hn, rfl⟩ := r
    have e : (match h[n]? with | some (.dct ks vs) => some (ks, vs) | _ => none) = some (ks, ds) := e
    split at e
    · rename_i k x q
      cases e
      obtain ⟨us, a, l⟩ := hr.cell n _ q
      exact ⟨_, us, rfl, a.rd, l⟩
    · cases e
  | _ => cases e
theorem findK_rep {N : Nat} {q : L2.Key} : ∀ {kk : List L2.Key} {ds : List D} {us : List V}, RepL T N m H ds us → (∀ d, findK kk q ds = some d → ∃ v, valV (kk.zip us) q = some v ∧ RepV T N m H d v)
  | [], _, _, _, d, e => by cases e
  | _ :: _, [], _, _, d, e => by cases e
  | k :: kk, x :: ds, _, ⟨v, w, e1, a, b⟩, d, e => by
    subst e1
    have e : (((k, x) :: kk.zip ds).find? fun p => decide (p.1 = q)).map (·.2) = some d := e
    show ∃ u, valV ((k, v) :: kk.zip w) q = some u ∧ _
    by_cases c : k = q
    · rw [List.find?_cons_of_pos (by simp [c])] at e
      cases e
      exact ⟨v, valV_pos c, a⟩
    · rw [List.find?_cons_of_neg (by simp [c])] at e
      rw [valV_neg c]
      exact findK_rep b d e
theorem hasK_val {q : L2.Key} : ∀ {kk : List L2.Key} {us : List V}, kk.length = us.length → (valV (kk.zip us) q).isSome = hasK kk q
  | [], [], _ => rfl
  | k :: kk, u :: us, e => by
    show (valV ((k, u) :: kk.zip us) q).isSome = (decide (k = q) || hasK kk q)
    by_cases c : k = q
    · rw [valV_pos c, decide_eq_true c]; rfl
    · rw [valV_neg c, decide_eq_false c, Bool.false_or]
      exact hasK_val (by simpa using e)
  | [], _ :: _, e => by simp at e
  | _ :: _, [], e => by simp at e
theorem putF_rep {N : Nat} {q : L2.Key} {d : D} {v : V} (r : RepV T N m H d v) : ∀ {kk : List L2.Key} {ds : List D} {us : List V}, RepL T N m H ds us → RepL T N m H (putF kk q d ds) (putF kk q v us)
  | [], _, _, _ => rfl
  | _ :: _, [], _, e => by cases e; rfl
  | k :: kk, x :: ds, _, ⟨y, w, e1, a, b⟩ => by
    subst e1
    refine ⟨if k = q then v else y, putF kk q v w, rfl, ?_, putF_rep r b⟩
    show RepV T N m H (if k = q then d else x) _
    by_cases c : k = q
    · rw [if_pos c, if_pos c]; exact r
    · rw [if_neg c, if_neg c]; exact a
theorem putF_len {α : Type} {q : L2.Key} {v : α} {kk : List L2.Key} {us : List α} (e : kk.length = us.length) : kk.length = (putF kk q v us).length := by
  unfold putF
  rw [List.length_map, List.length_zip]
  omega
theorem putF_zip {q : L2.Key} {v : V} : ∀ {kk : List L2.Key} {us : List V}, kk.length = us.length → kk.zip (putF kk q v us) = (kk.zip us).map fun kv => if kv.1 = q then (kv.1, v) else kv
  | [], [], _ => rfl
  | k :: kk, u :: us, e => by
    show (k, if k = q then v else u) :: kk.zip (putF kk q v us) = (if k = q then (k, v) else (k, u)) :: _
    rw [putF_zip (by simpa using e)]
    by_cases c : k = q
    · rw [if_pos c, if_pos c]; rfl
    · rw [if_neg c, if_neg c]; rfl
  | [], _ :: _, e => by simp at e
  | _ :: _, [], e => by simp at e
theorem key_rep {N : Nat} {k : D} {q : L2.Key} (e : keyD k = some q) (r : RepV T N m H k v) : v = kV q := by
  cases k <;> cases e <;> exact r
theorem dget_rd {a : Addr} {kvs : List (L2.Key × V)} {k : L2.Key} (e : Rd H a (.dK kvs)) : DGet H a (kV k) (valV kvs k) := .inl ⟨kvs, k, e, rfl, rfl⟩
theorem keys_rep {T : Tb} {N : Nat} {m : Gh} {H : Hp} : ∀ {ks : List D} {kk : List L2.Key}, keysD ks = some kk → RepL T N m H ks (kk.map kV)
  | [], kk, e => by cases e; rfl
  | d :: ds, kk, e => by
    have e : (keyD d).bind (fun k => (keysD ds).map (k :: ·)) = some kk := e
    cases z : keyD d with
    | none => rw [z] at e; cases e
    | some q =>
      rw [z] at e
      cases y : keysD ds with
      | none => rw [y] at e; cases e
      | some ll =>
        rw [y] at e
        cases e
        refine ⟨_, _, rfl, ?_, keys_rep y⟩
        cases d <;> cases z <;> rfl
theorem keys_append : ∀ {ks : List D} {kk : List L2.Key} {k : D} {q : L2.Key}, keysD ks = some kk → keyD k = some q → keysD (ks ++ [k]) = some (kk ++ [q])
  | [], kk, k, q, e, f => by
    cases e
    show (keyD k).bind (fun x => (keysD []).map (x :: ·)) = _
    rw [f]; rfl
  | d :: ds, kk, k, q, e, f => by
    have e : (keyD d).bind (fun k => (keysD ds).map (k :: ·)) = some kk := e
    show (keyD d).bind (fun x => (keysD (ds ++ [k])).map (x :: ·)) = _
    cases z : keyD d with
    | none => rw [z] at e; cases e
    | some q0 =>
      rw [z] at e
      cases y : keysD ds with
      | none => rw [y] at e; cases e
      | some ll =>
        rw [y] at e
        cases e
        rw [keys_append y f]
        rfl
theorem keys_len : ∀ {ks : List D} {kk : List L2.Key}, keysD ks = some kk → kk.length = ks.length
  | [], _, e => by cases e; rfl
  | d :: ds, kk, e => by
    have e : (keyD d).bind (fun k => (keysD ds).map (k :: ·)) = some kk := e
    cases z : keyD d with
    | none => rw [z] at e; cases e
    | some q0 =>
      rw [z] at e
      cases y : keysD ds with
      | none => rw [y] at e; cases e
      | some ll =>
        rw [y] at e
        cases e
        show ll.length + 1 = ds.length + 1
        rw [keys_len y]
theorem hasK_any {q : L2.Key} : ∀ {kk : List L2.Key} {us : List V}, kk.length = us.length → ((kk.zip us).any fun kv => decide (kv.1 = q)) = hasK kk q
  | [], [], _ => rfl
  | k :: kk, u :: us, e => by
    exact congrArg (decide (k = q) || ·) (hasK_any (by simpa using e))
  | [], _ :: _, e => by simp at e
  | _ :: _, [], e => by simp at e
/-- what a store makes of a dict -/
theorem putD_rep {N : Nat} {ks ds ks' ds' : List D} {us : List V} {k d : D} {y v : V} {a : Addr} (e : putD ks ds k d = some (ks', ds')) (dk : DK H a ks us) (l : RepL T N m H ds us) (rk : RepV T N m H k y) (rd : RepV T N m H d v) :
    ∃ us' o, DPut H a y v (upd H a o) ∧ DK (upd H a o) a ks' us' ∧ RepL T N m H ds' us' := by
  obtain ⟨kk, e1, l1, h1⟩ := dk
  have e : (keysD ks).bind (fun kk => (keyD k).bind fun q => if ks.length < sizeLine then some (if hasK kk q then (ks, putF kk q d ds) else (ks ++ [k], ds ++ [d])) else none) = some (ks', ds') := e
  rw [e1] at e
  cases z : keyD k with
  | none => rw [z] at e; cases e
  | some q =>
    rw [z] at e
    have e : (if ks.length < sizeLine then some (if hasK kk q then (ks, putF kk q d ds) else (ks ++ [k], ds ++ [d])) else none) = some (ks', ds') := e
    by_cases c : ks.length < sizeLine
    · rw [if_pos c] at e
      have ey := key_rep z rk
      subst ey
      have hl : (kk.zip us).length < sizeLine := by rw [List.length_zip, keys_len e1]; omega
      by_cases f : hasK kk q = true
      · rw [if_pos f] at e
        cases e
        refine ⟨putF kk q v us, _, DPut.k h1 hl, ⟨kk, e1, putF_len l1, ?_⟩, putF_rep rd l⟩
        rw [upd_same, putF_zip l1]
        unfold putK
        rw [if_pos (by rw [hasK_any l1]; exact f)]
      · rw [if_neg f] at e
        cases e
        refine ⟨us ++ [v], _, DPut.k h1 hl, ⟨kk ++ [q], keys_append e1 z, by simp [l1], ?_⟩, l.append (.one rd)⟩
        rw [upd_same, List.zip_append l1]
        unfold putK
        rw [if_neg (by rw [hasK_any l1]; exact f)]
        rfl
    · rw [if_neg c] at e
      cases e
/-! ### operators -/
section
variable {X : Cx} {T : Tb}
theorem op_mulM : OpR X (binaryOp .Mult) (rI mulOk fun i j => .int (i * j)) := opI fun i j _ _ _ _ _ hc q => mul_int q (by
  rcases hc with h | h | h
  · exact .of_left (intBits_le_64 (by omega) (by omega))
  · exact .of_right (intBits_le_64 (by omega) (by omega))
  · exact CMulW.ok h)
theorem op_fdivM : OpR X (binaryOp .FloorDiv) (rI (fun _ j => divOk j) fun i j => .int (i.fdiv j)) := opI fun i j _ _ _ _ _ hc q => floordiv_int hc.1 q (.inl (PyProof.noPylong_of_log2 hc.2))
/-- two operands that stand for values, what follows the operation -/
def rBin (T : Tb) (f : D → D → Hv → Rs D) : R2 := fun x y H Q => ∃ h m d e Wx, HR T m H h ∧ RepV T h.length m H d x ∧ RepV T h.length m H e y ∧ Post T h.length m H (RepV T) Q Wx (f d e h)
theorem bin_int {o : Operator} {i j : Int} {pins : List (Addr × Obj)} {σ : L2.St} {H : Hp} {s : Shared} {v u : Value} {Q : VK} {h : Hv} {m : Gh} {Wx : XK} (I : Inv X pins σ H s) (rx : RelV (.int i) v) (ry : RelV (.int j) u) (hr : HR T m H h)
    (p : Post T h.length m H (RepV T) Q Wx (intD (intOp o i j) h)) : wpAny (model X.prog X.w) X.A (binaryOp o v u) (EP X pins σ Q) X.xe s := by
  have go : ∀ k : Int, intOp o i j = some k → Q (.int k) H := fun k e => by
    rw [e] at p
    exact Post.now p hr rfl
  cases o with
  | Add => exact op_add pins s σ H _ _ v u Q I rx ry ⟨i, j, rfl, rfl, go _ rfl⟩
  | Sub => exact op_sub pins s σ H _ _ v u Q I rx ry ⟨i, j, rfl, rfl, go _ rfl⟩
  | Mult =>
    by_cases c : mulOk i j
    · exact op_mulM pins s σ H _ _ v u Q I rx ry ⟨i, j, rfl, rfl, c, go _ (if_pos c)⟩
    · rw [show intOp .Mult i j = none from if_neg c] at p
      exact p.elim
  | FloorDiv =>
    by_cases c : divOk j
    · exact op_fdivM pins s σ H _ _ v u Q I rx ry ⟨i, j, rfl, rfl, c, go _ (if_pos c)⟩
    · rw [show intOp .FloorDiv i j = none from if_neg c] at p
      exact p.elim
  | Mod =>
    by_cases c : j = 0
    · rw [show intOp .Mod i j = none from if_pos c] at p
      exact p.elim
    · exact op_modN pins s σ H _ _ v u Q I rx ry ⟨i, j, rfl, rfl, c, go _ (if_neg c)⟩
  | Pow =>
    by_cases c : powOk i j
    · exact op_pow pins s σ H _ _ v u Q I rx ry ⟨i, j, rfl, rfl, c, go _ (if_pos c)⟩
    · rw [show intOp .Pow i j = none from if_neg c] at p
      exact p.elim
  | _ => exact p.elim
theorem cut_whole {α : Type} {xs : List α} {lo hi : Option Int} (c : HT.sIx xs.length 0 lo = 0 ∧ HT.sIx xs.length xs.length hi = xs.length) : cutB xs lo hi = xs := by
  unfold cutB
  rw [c.1, c.2, List.drop_zero, Nat.sub_zero, List.take_length]
theorem bin_ok (hK : X.K = T.K) (b : Bool) (o : Operator) : OpR X (binaryOp o) (rBin T (binD b o)) := by
  intro pins s σ H x y v u Q I rx ry h
  obtain ⟨h, m, d, e, Wx, hr, rd, re, p⟩ := h
  -- two lists
  have cat : ∀ f : Rs D, f = (if o = .Add then catL b h (asL h d) (asL h e) else .no) → Post T h.length m H (RepV T) Q Wx f → wpAny (model X.prog X.w) X.A (binaryOp o v u) (EP X pins σ Q) X.xe s := fun f ef pf => by
    subst ef
    by_cases c : o = .Add
    · rw [if_pos c] at pf
      subst c
      cases z1 : asL h d with
      | none => rw [z1] at pf; exact pf.elim
      | some xs =>
        cases z2 : asL h e with
        | none => rw [z1, z2] at pf; exact pf.elim
        | some ys =>
          rw [z1, z2] at pf
          obtain ⟨a, vs, rfl, q1, l1⟩ := asL_rep hr rd z1
          obtain ⟨a2, vs2, rfl, q2, l2⟩ := asL_rep hr re z2
          by_cases c : xs.length + ys.length ≤ sizeLine
          · have p' : Post T h.length m H (RepV T) Q Wx (if xs.length + ys.length ≤ sizeLine then mkL b (xs ++ ys) h else .no) := pf
            rw [if_pos c] at p'
            refine op_cat pins s σ H _ _ v u Q I rx ry ⟨a, a2, vs, vs2, rfl, rfl, q1, q2, by rw [← l1.length, ← l2.length]; exact c, fun q hq => post_mkL p' hr (l1.append l2) hq⟩
          · have p' : Post T h.length m H (RepV T) Q Wx (if xs.length + ys.length ≤ sizeLine then mkL b (xs ++ ys) h else .no) := pf
            rw [if_neg c] at p'
            exact p'.elim
    · rw [if_neg c] at pf
      exact pf.elim
  -- a list and an int
  have repl : ∀ (j : Int) (f : Rs D), e = .int j → f = (if o = .Mult then repL b h j (asL h d) else .no) → Post T h.length m H (RepV T) Q Wx f → wpAny (model X.prog X.w) X.A (binaryOp o v u) (EP X pins σ Q) X.xe s := fun j f ee ef pf => by
    subst ef ee
    by_cases c : o = .Mult
    · rw [if_pos c] at pf
      subst c
      cases re
      cases z1 : asL h d with
      | none => rw [z1] at pf; exact pf.elim
      | some xs =>
        rw [z1] at pf
        obtain ⟨a, vs, rfl, q1, l1⟩ := asL_rep hr rd z1
        have p' : Post T h.length m H (RepV T) Q Wx (if repOk xs.length j then mkL b (rep xs j) h else .no) := pf
        by_cases c : repOk xs.length j
        · rw [if_pos c] at p'
          exact op_rep pins s σ H _ _ v u Q I rx ry ⟨a, j, vs, rfl, rfl, q1, c.1, c.2.1, by rw [← l1.length]; exact c.2.2, fun q hq => post_mkL p' hr (l1.rep _) hq⟩
        · rw [if_neg c] at p'
          exact p'.elim
    · rw [if_neg c] at pf
      exact pf.elim
  cases d with
  | int i =>
    cases rd
    cases e with
    | int j =>
      cases re
      exact bin_int I rx ry hr p
    | _ => exact cat _ rfl p
  | str a =>
    cases rd
    cases e with
    | str c =>
      cases re
      by_cases q : o = .Add ∧ a.length + c.length ≤ sizeLine
      · have p' : Post T h.length m H (RepV T) Q Wx (if o = .Add ∧ a.length + c.length ≤ sizeLine then .ok (.str (a ++ c)) h else .no) := p
        rw [if_pos q] at p'
        obtain ⟨rfl, q⟩ := q
        exact op_add_str pins s σ H _ _ v u Q I rx ry ⟨a, c, rfl, rfl, q, Post.now p' hr rfl⟩
      · have p' : Post T h.length m H (RepV T) Q Wx (if o = .Add ∧ a.length + c.length ≤ sizeLine then .ok (.str (a ++ c)) h else .no) := p
        rw [if_neg q] at p'
        exact p'.elim
    | int j =>
      cases re
      have p' : Post T h.length m H (RepV T) Q Wx (if o = .Mult ∧ strTOk a.length j then .ok (.str (PySem.Txt.mul a j)) h else .no) := p
      by_cases q : o = .Mult ∧ strTOk a.length j
      · rw [if_pos q] at p'
        obtain ⟨rfl, c1, c2, c3⟩ := q
        obtain ⟨t, rfl⟩ := rx
        obtain ⟨t', rfl⟩ := ry
        have mo : MulOk a j := by
          refine ⟨?_, fun hn _ => ?_, fun hn _ => ?_⟩
          · rw [decide_eq_false (by omega), decide_eq_false (by omega)]; rfl
          · have k : (a.length : Int) * j ≤ 1000 * 1000 := Int.mul_le_mul (by omega) c3 (by omega) (by decide)
            have : (a.length : Int) ≤ (2 ^ 63 - 1) / j := Int.le_ediv_of_mul_le (by omega) (Int.le_trans k (by decide))
            omega
          · have k : a.length * j.toNat ≤ 1000 * 1000 := Nat.mul_le_mul c1 (by omega)
            unfold PySem.Builtin.Str.tooLong
            rw [sizeLine_eq]
            exact decide_eq_false (by omega)
        exact PySem.SB.mul mo fun t2 k => ⟨.str (PySem.Txt.mul a j), H, I.tok _, ⟨_, rfl⟩, Post.now p' hr rfl⟩
      · rw [if_neg q] at p'
        exact p'.elim
    | _ => exact cat _ rfl p
  | tup xs =>
    cases e with
    | tup ys =>
      obtain ⟨a, vs, rfl, q1, l1⟩ := rep_tup rd
      obtain ⟨a2, vs2, rfl, q2, l2⟩ := rep_tup re
      have p' : Post T h.length m H (RepV T) Q Wx (if o = .Add ∧ xs.length + ys.length ≤ sizeLine then .ok (.tup (xs ++ ys)) h else .no) := p
      by_cases q : o = .Add ∧ xs.length + ys.length ≤ sizeLine
      · rw [if_pos q] at p'
        obtain ⟨rfl, q⟩ := q
        have e1 := l1.length
        have e2 := l2.length
        rw [← hK] at q1 q2
        refine op_catA pins s σ H _ _ v u Q I rx ry ⟨a, a2, vs, vs2, rfl, rfl, q1, q2, by rw [← e1, ← e2]; exact q, fun z => ?_, fun _ z => ?_, fun _ _ pn hpn => post_tup p' hr (l1.append l2) hpn⟩
        · subst z
          cases xs with
          | nil => exact p' m H _ .refl hr re
          | cons _ _ => simp at e1
        · subst z
          cases ys with
          | nil =>
            rw [List.append_nil] at p'
            exact p' m H _ .refl hr rd
          | cons _ _ => simp at e2
      · rw [if_neg q] at p'
        exact p'.elim
    | int j =>
      have p' : Post T h.length m H (RepV T) Q Wx (if o = .Mult then tupO h (repTD xs j) else .no) := p
      by_cases q : o = .Mult
      · rw [if_pos q] at p'
        subst q
        have rd0 := rd
        obtain ⟨a, vs, rfl, q1, l1⟩ := rep_tup rd
        cases re
        have e1 := l1.length
        rw [← hK] at q1
        unfold repTD at p'
        by_cases c : repTOk xs.length j
        · rw [if_pos c] at p'
          obtain ⟨c1, c2, c3, c4⟩ := c
          exact op_repT pins s σ H _ _ v u Q I rx ry ⟨a, j, vs, rfl, rfl, q1, fun z => by subst z; simp at e1; exact c1 (by rw [e1]; rfl), c2, c3, by omega, fun pn hpn => post_tup p' hr (l1.rep _) hpn⟩
        · rw [if_neg c] at p'
          by_cases d : -1000 ≤ j ∧ j ≤ 1000
          · rw [if_pos d] at p'
            refine op_repS pins s σ H _ _ v u Q I rx ry ⟨a, j, vs, rfl, rfl, q1, d.1, d.2, ?_⟩
            by_cases f : xs.isEmpty = true ∨ j = 1
            · rw [if_pos f] at p'
              refine .inl ⟨f.imp (fun z => ?_) id, p' m H _ .refl hr rd0⟩
              rw [List.isEmpty_iff] at z
              subst z
              exact List.eq_nil_of_length_eq_zero e1.symm
            · rw [if_neg f] at p'
              by_cases g : j ≤ 0
              · rw [if_pos g] at p'
                refine .inr ⟨fun z => f (.inl ?_), g, fun pn hpn => post_tup p' hr rfl hpn⟩
                subst z
                rw [List.isEmpty_iff]
                exact List.eq_nil_of_length_eq_zero e1
              · rw [if_neg g] at p'
                exact p'.elim
          · rw [if_neg d] at p'
            exact p'.elim
      · rw [if_neg q] at p'
        exact p'.elim
    | _ => exact cat _ rfl p
  | non => cases e with
    | int j => exact repl j _ rfl rfl p
    | _ => exact cat _ rfl p
  | bl c => cases e with
    | int j => exact repl j _ rfl rfl p
    | _ => exact cat _ rfl p
  | lst xs => cases e with
    | int j => exact repl j _ rfl rfl p
    | _ => exact cat _ rfl p
  | ro xs => cases e with
    | int j => exact repl j _ rfl rfl p
    | _ => exact cat _ rfl p
  | dct _ _ => cases e with
    | int j => exact repl j _ rfl rfl p
    | _ => exact cat _ rfl p
  | ref n => cases e with
    | int j => exact repl j _ rfl rfl p
    | _ => exact cat _ rfl p
end
end Hr
set_option maxHeartbeats 1000000
/-! Comparisons, places, slices, built-in functions and methods, by values. -/
namespace Hr
open PySem PySem.Spec PyProof.Rows L2
section
variable {T : Tb} {N : Nat} {m : Gh} {H : Hp} {h : Hv} {d : D} {ds : List D} {v : V}
theorem asR_rep (hr : HR T m H h) (r : RepV T h.length m H d v) (e : asR h d = some ds) : ∃ a vs, v = .ref a ∧ SqL T.K H a vs ∧ RepL T h.length m H ds vs := by
  cases d with
  | ro xs =>
    cases e
    exact rep_ro r
  | _ =>
    obtain ⟨a, vs, e1, q, l⟩ := asL_rep hr r e
    exact ⟨a, vs, e1, .of q, l⟩
theorem rep_isNon (r : RepV T N m H d v) : decide (v = .non) = isNon d := by
  cases d with
  | non => cases r; rfl
  | bl _ => cases r; rfl
  | int _ => cases r; rfl
  | str _ => cases r; rfl
  | tup _ => obtain ⟨a, vs, rfl, _⟩ := r; rfl
  | lst _ => obtain ⟨a, vs, rfl, _⟩ := r; rfl
  | ro _ => obtain ⟨a, vs, rfl, _⟩ := r; rfl
  | dct _ _ => obtain ⟨a, us, rfl, _⟩ := r; rfl
  | ref n => obtain ⟨_, rfl⟩ := r; rfl
theorem isNon_rep (r : RepV T N m H d v) (e : isNon d = true) : v = .non := of_decide_eq_true ((rep_isNon r).trans e)
theorem dp_flat {K : PySem.W.Frag} {x : V} {p : PyData} (d : Dp K H x p) (f : flatP p = true) : flatV x = true := by
  cases d <;> first | rfl | cases f
theorem dp_flats {K : PySem.W.Frag} : ∀ {xs : List V} {ps : List PyData}, DpAll K H xs ps → ps.all flatP = true → xs.all flatV = true
  | _, _, .nil, _ => rfl
  | _, _, .cons a b, f => by
    rw [List.all_cons, Bool.and_eq_true] at f
    rw [List.all_cons, dp_flat a f.1, dp_flats b f.2]
    rfl
theorem dp_eqV {K : PySem.W.Frag} {x y : V} {p q : PyData} (d : Dp K H x p) (e : Dp K H y q) (f : flatP p = true) (g : flatP q = true) : eqV x y = PyData.eqv p q := by
  cases d <;> cases e <;> first | rfl | cases f | cases g
theorem dp_inV {K : PySem.W.Frag} {x : V} {p : PyData} (d : Dp K H x p) (f : flatP p = true) : ∀ {xs : List V} {ps : List PyData}, DpAll K H xs ps → ps.all flatP = true → inV x xs = ps.any fun z => PyData.eqv z p
  | _, _, .nil, _ => rfl
  | _, _, .cons (v := v) (vs := vs) (d := q) (ds := qs) a b, g => by
    rw [List.all_cons, Bool.and_eq_true] at g
    show (eqV v x || inV x vs) = (PyData.eqv q p || qs.any fun z => PyData.eqv z p)
    rw [dp_eqV a d g.1 f, dp_inV d f b g.2]
end
section
variable {X : Cx} {T : Tb}
theorem sameLeaf_eq {x y : D} {a b : V} {N' : Nat} (e : sameLeaf x y = true) (r : RepV T N' m H x a) (q : RepV T N' m H y b) : b = a ∧ flatB a = true := by
  cases x <;> cases y <;> first | exact absurd e Bool.false_ne_true | skip
  · cases r; cases q; exact ⟨rfl, rfl⟩
  · cases r; cases q; exact ⟨by rw [eq_of_beq e], rfl⟩
  · cases r; cases q; exact ⟨by rw [of_decide_eq_true e], rfl⟩
  · cases r; cases q; exact ⟨by rw [of_decide_eq_true e], rfl⟩
theorem subK_rep {N' : Nat} {ll : List L2.Key} {ys : List D} {ws : List V} (ry : RepL T N' m H ys ws) : ∀ {kk : List L2.Key} {xs : List D} {us : List V}, RepL T N' m H xs us → subK ll ys kk xs = true → ∀ p ∈ kk.zip us, valV (ll.zip ws) p.1 = some p.2 ∧ flatB p.2 = true
  | [], _, _, _, _, p, hp => by simp at hp
  | k :: kk, [], _, rx, _, p, hp => by cases rx; simp at hp
  | k :: kk, x :: xs, _, ⟨v, w, e1, a, b⟩, e, p, hp => by
    subst e1
    have e : ((match findK ll k ys with | some y => sameLeaf x y | none => false) && subK ll ys kk xs) = true := e
    rw [Bool.and_eq_true] at e
    rcases List.mem_cons.mp (show p ∈ (k, v) :: kk.zip w from hp) with rfl | hp
    · cases f : findK ll k ys with
      | none => rw [f] at e; cases e.1
      | some y =>
        rw [f] at e
        obtain ⟨u, eu, ru⟩ := findK_rep ry y f
        obtain ⟨rfl, fl⟩ := sameLeaf_eq e.1 a ru
        exact ⟨eu, fl⟩
    · exact subK_rep ry b e.2 p hp
theorem eqT_rep {e : D} {u : V} (hr : HR T m H h) (rd : RepV T h.length m H d v) (re : RepV T h.length m H e u) (q : eqT h d e = true) : ∃ a b ks ls, v = .ref a ∧ u = .ref b ∧ Rd H a (.dK ks) ∧ Rd H b (.dK ls) ∧ ks.length = ls.length ∧ ∀ p ∈ ks, valV ls p.1 = some p.2 ∧ flatB p.2 = true := by
  unfold eqT at q
  cases z1 : dctAt h d with
  | none => rw [z1] at q; cases q
  | some p1 =>
    cases z2 : dctAt h e with
    | none => rw [z1, z2] at q; cases q
    | some p2 =>
      obtain ⟨ks, xs⟩ := p1
      obtain ⟨ls, ys⟩ := p2
      rw [z1, z2] at q
      have q : (match keysD ks, keysD ls with
        | some kk, some ll => decide (ks.length = ls.length) && subK ll ys kk xs
        | _, _ => false) = true := q
      obtain ⟨a, us, rfl, ⟨kk, e1, l1, g1⟩, r1⟩ := dctAt_rep hr rd z1
      obtain ⟨b, ws, rfl, ⟨ll, e2, l2, g2⟩, r2⟩ := dctAt_rep hr re z2
      rw [e1, e2] at q
      have q : (decide (ks.length = ls.length) && subK ll ys kk xs) = true := q
      rw [Bool.and_eq_true, decide_eq_true_eq] at q
      have n1 := keys_len e1
      have n2 := keys_len e2
      exact ⟨a, b, _, _, rfl, rfl, g1, g2, by rw [List.length_zip, List.length_zip]; omega, subK_rep r2 r1 q.2⟩
/-- two dicts of the same leaves, each as it stands or locked -/
theorem op_dictR {X : Cx} (neg : Bool) (hu : X.A.units < cLine) : OpR X (compareOp (if neg then .NotEq else .Eq)) (fun x y H Q => ∃ (a b : Addr) (kx ky : List (L2.Key × V)), x = .ref a ∧ y = .ref b ∧ Rd H a (.dK kx) ∧ Rd H b (.dK ky) ∧ kx.length = ky.length ∧ (∀ p ∈ kx, valV ky p.1 = some p.2 ∧ flatB p.2 = true) ∧ Q (.bl (!neg)) H) := by
  rintro pins s σ H x y v u Q I rx ry ⟨a, b, kx, ky, rfl, rfl, g1, g2, len, same, q⟩
  cases rx
  cases ry
  obtain ⟨_, n1, w1, r1, d1⟩ := dk_rd I.hok g1
  obtain ⟨_, n2, w2, r2, d2⟩ := dk_rd I.hok g2
  have l12 : w1.length = w2.length := r1.length.symm.trans (len.trans r2.length)
  cases neg with
  | false => exact PySem.W.keq_eq (r := true) (knd := mixKind X.prog X.w) n1 n2 d1 d2 hu (fun _ => hits_all r2 r1 same) (fin_bl I q (by simp [l12]))
  | true => exact PySem.W.keq_ne (r := true) (knd := mixKind X.prog X.w) n1 n2 d1 d2 hu (fun _ => hits_all r2 r1 same) (fin_bl I q (by simp [l12]))
theorem cmp_ok (hK : X.K = T.K) (hu : X.A.units + 65 < cLine) (o : CmpOp) : OpR X (compareOp o) (rBin T (cmpD o)) := by
  intro pins s σ H x y v u Q I rx ry h
  obtain ⟨h, m, d, e, Wx, hr, rd, re, p⟩ := h
  have p : Post T h.length m H (RepV T) Q Wx (blD (cmpO o d e h) h) := p
  have go : ∀ b : Bool, cmpO o d e h = some b → Q (.bl b) H := fun b z => by
    rw [z] at p
    exact Post.now p hr rfl
  have no : cmpO o d e h = none → False := fun z => by
    rw [z] at p
    exact p
  have rel : ∀ o' : CmpOp, o = o' → (∀ i j : Int, d = .int i → e = .int j → ∃ b, cmpInt o' i j = some b ∧ (Q (.bl b) H → wpAny (model X.prog X.w) X.A (compareOp o' v u) (EP X pins σ Q) X.xe s)) →
      (cmpO o d e h = cmpI2 o' d e) → wpAny (model X.prog X.w) X.A (compareOp o v u) (EP X pins σ Q) X.xe s := fun o' eo k z => by
    subst eo
    cases d with
    | int i => cases e with
      | int j =>
        obtain ⟨b, e1, e2⟩ := k i j rfl rfl
        exact e2 (go b (z.trans e1))
      | _ => exact (no z).elim
    | str i => cases e with
      | str j =>
        have z : cmpO o (.str i) (.str j) h = cmpStr o i j := z
        cases rd
        cases re
        cases o with
        | Lt => exact op_lt_str pins s σ H _ _ v u Q I rx ry ⟨i, j, rfl, rfl, go _ z⟩
        | LtE => exact op_le_str pins s σ H _ _ v u Q I rx ry ⟨i, j, rfl, rfl, go _ z⟩
        | _ => exact (no z).elim
      | _ => exact (no z).elim
    | _ => exact (no z).elim
  have isin : ∀ (neg : Bool) (o' : CmpOp), o = o' → (o' = if neg then .NotIn else .In) → (∀ b, inD h d e = some b → Q (.bl (if neg then !b else b)) H) → (inD h d e = none → False) →
      wpAny (model X.prog X.w) X.A (compareOp o v u) (EP X pins σ Q) X.xe s := fun neg o' eo en k k0 => by
    unfold inD at k k0
    cases zd : dctAt h e with
    | some kd =>
      obtain ⟨ks, ds⟩ := kd
      rw [zd] at k k0
      have k : ∀ b, hasD ks d = some b → Q (.bl (if neg then !b else b)) H := k
      have k0 : hasD ks d = none → False := k0
      obtain ⟨a, us, rfl, ⟨kk, e1, l1, h1⟩, l⟩ := dctAt_rep hr re zd
      cases ry
      unfold hasD at k k0
      rw [e1] at k k0
      cases z : keyD d with
      | none => rw [z] at k0; exact (k0 rfl).elim
      | some q =>
        rw [z] at k
        have k : Q (.bl (if neg then !hasK kk q else hasK kk q)) H := k (hasK kk q) rfl
        have ey := key_rep z rd
        subst ey
        have g := dget_rd (k := q) h1
        rw [← hasK_val l1] at k
        cases neg with
        | false =>
          subst eo en
          exact d_in (by omega) I g rx fun s' I' => ⟨.bl _, H, I', rfl, k⟩
        | true =>
          subst eo en
          exact d_notIn (by omega) I g rx fun s' I' => ⟨.bl _, H, I', rfl, k⟩
    | none =>
    rw [zd] at k k0
    have k : ∀ b, inS h d e = some b → Q (.bl (if neg then !b else b)) H := k
    have k0 : inS h d e = none → False := k0
    by_cases bs : ∃ a b, d = .str a ∧ e = .str b
    · obtain ⟨a, b, rfl, rfl⟩ := bs
      cases rd
      cases re
      have k := k (strIn a b) rfl
      cases neg with
      | false =>
        subst eo en
        exact op_in_str pins s σ H _ _ v u Q I rx ry ⟨a, b, rfl, rfl, k⟩
      | true =>
        subst eo en
        exact op_notin_str pins s σ H _ _ v u Q I rx ry ⟨a, b, rfl, rfl, k⟩
    have es : inS h d e = inL h d e := by
      unfold inS
      split
      · exact absurd ⟨_, _, rfl, rfl⟩ bs
      · rfl
    rw [es] at k k0
    have k : ∀ b, inL h d e = some b → Q (.bl (if neg then !b else b)) H := k
    have k0 : inL h d e = none → False := k0
    unfold inL at k k0
    cases z1 : toP h d with
    | none => rw [z1] at k0; exact (k0 rfl).elim
    | some a =>
      cases z2 : toP h e with
      | none => rw [z1, z2] at k0; exact (k0 rfl).elim
      | some b =>
        rw [z1, z2] at k k0
        have k : ∀ c, inP a b = some c → Q (.bl (if neg then !c else c)) H := k
        have k0 : inP a b = none → False := k0
        have d1 := toP_rep hr rd z1
        have d2 := toP_rep hr re z2
        rw [← hK] at d1 d2
        cases b with
        | list ds =>
          by_cases c : (shp a && shp (.list ds)) = true
          · have q := k _ (if_pos c)
            rw [Bool.and_eq_true] at c
            obtain ⟨c1, c2⟩ := c
            have c1 : (a.plain && decide (a.depth ≤ 60)) = true := c1
            have c2 : (PyData.plainAll ds && decide (PyData.depthAll ds + 1 ≤ 60)) = true := c2
            simp only [Bool.and_eq_true, decide_eq_true_eq] at c1 c2
            obtain ⟨as, r1⟩ := Dp.reads I a _ v (d1 c1.1) rx
            obtain ⟨bs, r2⟩ := Dp.reads I (.list ds) _ u (d2 (by simp only [PyData.plain]; exact c2.1)) ry
            have hu' : X.A.units + 1 + min (PyData.depthAll ds) a.depth < cLine := by omega
            cases neg with
            | false =>
              subst eo en
              exact SeqAt.in_list_data r2 r1 c2.1 c1.1 hu' ⟨.bl _, H, I, rfl, q⟩
            | true =>
              subst eo en
              exact SeqAt.notIn_list_data r2 r1 c2.1 c1.1 hu' ⟨.bl _, H, I, rfl, q⟩
          · exact (k0 (if_neg c)).elim
        | tuple ds =>
          by_cases c : (shp a && shp (.tuple ds)) = true
          · have q := k _ (if_pos c)
            rw [Bool.and_eq_true] at c
            obtain ⟨c1, c2⟩ := c
            have c1 : (a.plain && decide (a.depth ≤ 60)) = true := c1
            have c2 : (PyData.plainAll ds && decide (PyData.depthAll ds + 1 ≤ 60)) = true := c2
            simp only [Bool.and_eq_true, decide_eq_true_eq] at c1 c2
            obtain ⟨as, r1⟩ := Dp.reads I a _ v (d1 c1.1) rx
            obtain ⟨bs, r2⟩ := Dp.reads I (.tuple ds) _ u (d2 (by simp only [PyData.plain]; exact c2.1)) ry
            have hu' : X.A.units + 1 + min (PyData.depthAll ds) a.depth < cLine := by omega
            cases neg with
            | false =>
              subst eo en
              exact SeqAt.in_tuple_data r2 r1 c2.1 c1.1 hu' ⟨.bl _, H, I, rfl, q⟩
            | true =>
              subst eo en
              exact SeqAt.notIn_tuple_data r2 r1 c2.1 c1.1 hu' ⟨.bl _, H, I, rfl, q⟩
          · exact (k0 (if_neg c)).elim
        | _ => exact (k0 rfl).elim
  have eqs : ∀ neg : Bool, o = (if neg then .NotEq else .Eq) → (∀ b, eqD h d e = some b → Q (.bl (if neg then !b else b)) H) → (eqD h d e = none → False) →
      wpAny (model X.prog X.w) X.A (compareOp o v u) (EP X pins σ Q) X.xe s := fun neg eo k k0 => by
    cases zl : eqL h d e with
    | none =>
      by_cases dl : difL h d e = true
      · have ee : eqD h d e = some false := by
          unfold eqD
          rw [zl]
          exact if_pos dl
        have q := k false ee
        unfold difL at dl
        cases y1 : asR h d with
        | none => rw [y1] at dl; cases dl
        | some xs =>
          cases y2 : asR h e with
          | none => rw [y1, y2] at dl; cases dl
          | some ys =>
            rw [y1, y2] at dl
            have dl : (!decide (xs.length = ys.length)) = true := dl
            obtain ⟨a, vs, rfl, q1, l1⟩ := asR_rep hr rd y1
            obtain ⟨b, ws, rfl, q2, l2⟩ := asR_rep hr re y2
            rw [← hK] at q1 q2
            cases rx
            cases ry
            obtain ⟨its, r1, p1, z1⟩ := I.list q1
            obtain ⟨its2, r2, p2, z2⟩ := I.list q2
            have hsz : (its.toArray.size != its2.toArray.size) = true := by
              rw [List.size_toArray, List.size_toArray, ← r1.length, ← r2.length, ← l1.length, ← l2.length]
              have := of_decide_eq_false (by simpa using dl)
              simpa using this
            cases neg with
            | false =>
              subst eo
              exact SeqAt.RcAt.lists_lengths p1.isList p2.isList hsz (by omega) _ _ _ _ ⟨.bl _, H, I, rfl, q⟩
            | true =>
              subst eo
              exact SeqAt.RcNeAt.lists_lengths p1.isList p2.isList hsz (by omega) _ _ _ _ ⟨.bl _, H, I, rfl, q⟩
      · by_cases tl : eqT h d e = true
        · have q := k true (by unfold eqD; rw [zl]; exact (if_neg dl).trans (if_pos tl))
          obtain ⟨a, b, ks, ls, e1, e2, g1, g2, ll, hp⟩ := eqT_rep hr rd re tl
          cases neg with
          | false =>
            subst eo
            exact op_dictR false (by omega) pins s σ H _ _ v u Q I rx ry ⟨a, b, ks, ls, e1, e2, g1, g2, ll, hp, q⟩
          | true =>
            subst eo
            exact op_dictR true (by omega) pins s σ H _ _ v u Q I rx ry ⟨a, b, ks, ls, e1, e2, g1, g2, ll, hp, q⟩
        · exact (k0 (by unfold eqD; rw [zl]; exact (if_neg dl).trans (if_neg tl))).elim
    | some bb =>
      have ee : eqD h d e = some bb := by unfold eqD; rw [zl]
      have k : ∀ b, eqL h d e = some b → Q (.bl (if neg then !b else b)) H := fun b z => k b (by rw [zl] at z; cases z; exact ee)
      have k0 : eqL h d e = none → False := fun z => by rw [zl] at z; cases z
      unfold eqL at k k0
      cases z1 : toP h d with
      | none => rw [z1] at k0; exact (k0 rfl).elim
      | some a =>
        cases z2 : toP h e with
        | none => rw [z1, z2] at k0; exact (k0 rfl).elim
        | some b =>
          rw [z1, z2] at k k0
          have k : ∀ c, (if (shp a && shp b) = true then some (PyData.eqv a b) else none) = some c → Q (.bl (if neg then !c else c)) H := k
          have k0 : (if (shp a && shp b) = true then some (PyData.eqv a b) else none) = none → False := k0
          have d1 := toP_rep hr rd z1
          have d2 := toP_rep hr re z2
          rw [← hK] at d1 d2
          by_cases c : (shp a && shp b) = true
          · have q := k _ (if_pos c)
            rw [Bool.and_eq_true] at c
            obtain ⟨c1, c2⟩ := c
            have c1 : (a.plain && decide (a.depth ≤ 60)) = true := c1
            have c2 : (b.plain && decide (b.depth ≤ 60)) = true := c2
            simp only [Bool.and_eq_true, decide_eq_true_eq] at c1 c2
            obtain ⟨as, r1⟩ := Dp.reads I a _ v (d1 c1.1) rx
            obtain ⟨bs, r2⟩ := Dp.reads I b _ u (d2 c2.1) ry
            cases neg with
            | false =>
              subst eo
              exact SeqAt.eq_plain r1 r2 c1.1 c2.1 (by omega) ⟨.bl _, H, I, rfl, q⟩
            | true =>
              subst eo
              exact SeqAt.ne_plain r1 r2 c1.1 c2.1 (by omega) ⟨.bl _, H, I, rfl, q⟩
          · exact (k0 (if_neg c)).elim
  cases o with
  | Eq => exact eqs false rfl (fun b z => go b z) no
  | NotEq => exact eqs true rfl (fun b z => go (!b) (by show (eqD h d e).map (!·) = _; rw [z]; rfl)) fun z => no (by show (eqD h d e).map (!·) = _; rw [z]; rfl)
  | Lt => exact rel .Lt rfl (fun i j e1 e2 => by subst e1 e2; cases rd; cases re; exact ⟨_, rfl, fun q => op_lt pins s σ H _ _ v u Q I rx ry ⟨i, j, rfl, rfl, q⟩⟩) rfl
  | LtE => exact rel .LtE rfl (fun i j e1 e2 => by subst e1 e2; cases rd; cases re; exact ⟨_, rfl, fun q => op_le pins s σ H _ _ v u Q I rx ry ⟨i, j, rfl, rfl, q⟩⟩) rfl
  | Gt => exact rel .Gt rfl (fun i j e1 e2 => by subst e1 e2; cases rd; cases re; exact ⟨_, rfl, fun q => op_gt pins s σ H _ _ v u Q I rx ry ⟨i, j, rfl, rfl, q⟩⟩) rfl
  | GtE => exact rel .GtE rfl (fun i j e1 e2 => by subst e1 e2; cases rd; cases re; exact ⟨_, rfl, fun q => op_ge pins s σ H _ _ v u Q I rx ry ⟨i, j, rfl, rfl, q⟩⟩) rfl
  | Is =>
    cases c : isNon e with
    | false =>
      have zz : cmpO .Is d e h = sameB d e := by show (if isNon e then _ else _) = _; rw [c]; rfl
      cases d with
      | bl a => cases e with
        | bl b =>
          cases rd
          cases re
          cases rx
          cases ry
          have q := go (a == b) zz
          exact wpAny_bind (wpAny_pure (wpAny_pure (fin_bl I q (by cases a <;> cases b <;> rfl))))
        | _ => exact (no zz).elim
      | _ => exact (no zz).elim
    | true =>
      refine op_isN pins s σ H _ _ v u Q I rx ry ⟨isNon_rep re c, ?_⟩
      rw [rep_isNon rd]
      exact go _ (by show (if isNon e then some (isNon d) else _) = _; rw [c]; rfl)
  | IsNot =>
    cases c : isNon e with
    | false =>
      have zz : cmpO .IsNot d e h = (sameB d e).map (!·) := by show (if isNon e then _ else _) = _; rw [c]; rfl
      cases d with
      | bl a => cases e with
        | bl b =>
          cases rd
          cases re
          cases rx
          cases ry
          have q := go (!(a == b)) zz
          exact wpAny_bind (wpAny_pure (wpAny_pure (fin_bl I q (by cases a <;> cases b <;> rfl))))
        | _ => exact (no zz).elim
      | _ => exact (no zz).elim
    | true =>
      refine op_notN pins s σ H _ _ v u Q I rx ry ⟨isNon_rep re c, ?_⟩
      rw [rep_isNon rd]
      exact go _ (by show (if isNon e then some (!isNon d) else _) = _; rw [c]; rfl)
  | In => exact isin false .In rfl rfl (fun b z => go b z) no
  | NotIn => exact isin true .NotIn rfl rfl (fun b z => go (!b) (by show (inD h d e).map (!·) = _; rw [z]; rfl)) fun z => no (by show (inD h d e).map (!·) = _; rw [z]; rfl)

/-! ### places, slices -/
theorem atI_rep {N : Nat} {m : Gh} {H : Hp} {ds : List D} {vs : List V} {i : Int} {d : D} (r : RepL T N m H ds vs) (e : atI ds i = some d) : ∃ v, atI vs i = some v ∧ RepV T N m H d v := by
  unfold atI at e ⊢
  rw [← r.length]
  cases z : ixN ds.length i with
  | none => rw [z] at e; cases e
  | some j =>
    rw [z] at e
    exact r.get e
theorem ix_dict (hu : X.A.units + 1 < cLine) : IxR X (fun x y H Q => ∃ a v, x = .ref a ∧ DGet H a y (some v) ∧ Q v H) := by
  intro value slice pins s σ H x y v u Q I rx ry ⟨a, w, ex, g, q⟩ hs
  subst ex
  cases rx
  have hT := dict_typeIs I g
  unfold subscriptTail
  refine wpAny_bind ?_
  rw [getitemInPython_of_ne hT.not_modules]
  refine wpAny_bind (wpAny_specialOf hT PySem.F.slot_dict_getitem.lookup ?_)
  have fin : wpAny (model X.prog X.w) X.A (subscripted slice false (.ref a) u) (fun r s₃ => wpAny (model X.prog X.w) X.A (letTemporaryGo value (.ref a) r >>= fun _ => pure r) (EP X pins σ Q) X.xe s₃) X.xe s := by
    rw [hs]
    exact wpAny_operating (d_getItem hu I g ry fun w' s3 I3 rw' => wpAny_bind (wpAny_letTemporaryGo (wpAny_pure ⟨w, H, I3, rw', q⟩)))
  first
    | exact wpAny_pure (wpAny_bind fin)
    | exact wpAny_bind (wpAny_pure (wpAny_bind fin))
    | exact wpAny_bind fin
theorem idx_ok (hK : X.K = T.K) (hu : X.A.units + 1 < cLine) : IxR X (rBin T fun x y h => okD (idxD h x y) h) := by
  intro value slice pins s σ H x y v u Q I rx ry h hs
  obtain ⟨h, m, d, e, Wx, hr, rd, re, p⟩ := h
  have p : Post T h.length m H (RepV T) Q Wx (okD (idxD h d e) h) := p
  unfold idxD at p
  cases zd : dctAt h d with
  | some kd =>
    obtain ⟨ks, ds⟩ := kd
    rw [zd] at p
    have p : Post T h.length m H (RepV T) Q Wx (okD (dGetD ks ds e) h) := p
    obtain ⟨a, us, rfl, ⟨kk, e1, l1, h1⟩, l⟩ := dctAt_rep hr rd zd
    unfold dGetD at p
    rw [e1] at p
    have p : Post T h.length m H (RepV T) Q Wx (okD ((keyD e).bind fun q => findK kk q ds) h) := p
    cases z : keyD e with
    | none => rw [z] at p; exact p.elim
    | some q =>
      rw [z] at p
      have p : Post T h.length m H (RepV T) Q Wx (okD (findK kk q ds) h) := p
      cases z2 : findK kk q ds with
      | none => rw [z2] at p; exact p.elim
      | some b =>
        rw [z2] at p
        obtain ⟨w, e2, r2⟩ := findK_rep l b z2
        have ey := key_rep z re
        subst ey
        have g := dget_rd (k := q) h1
        rw [e2] at g
        exact ix_dict hu value slice pins s σ H _ _ v u Q I rx ry ⟨a, w, rfl, g, Post.now p hr r2⟩ hs
  | none =>
  rw [zd] at p
  have p : Post T h.length m H (RepV T) Q Wx (okD (idxL h d e) h) := p
  cases e with
  | int i =>
    cases re
    have split : (∃ z, d = .str z) ∨ idxL h d (.int i) = (asS h d).bind (fun ds => atD ds i) := by
      cases d <;> first | exact .inr rfl | exact .inl ⟨_, rfl⟩
    rcases split with ⟨z, rfl⟩ | z
    · cases rd
      have p : Post T h.length m H (RepV T) Q Wx (okD (if z.length ≤ sizeLine then (atI z.cps.toList i).map fun c => .str ⟨#[c]⟩ else none) h) := p
      by_cases c : z.length ≤ sizeLine
      · rw [if_pos c] at p
        cases z2 : atI z.cps.toList i with
        | none => rw [z2] at p; exact p.elim
        | some b =>
          rw [z2] at p
          exact ix_str value slice pins s σ H _ _ v u Q I rx ry ⟨z, i, b, rfl, rfl, c, z2, Post.now p hr rfl⟩ hs
      · rw [if_neg c] at p
        exact p.elim
    · rw [z] at p
      cases z1 : asS h d with
      | none => rw [z1] at p; exact p.elim
      | some ds =>
        rw [z1] at p
        have p : Post T h.length m H (RepV T) Q Wx (okD (atI ds i) h) := p
        obtain ⟨a, vs, rfl, q1, l1⟩ := asS_rep hr rd z1
        cases z2 : atI ds i with
        | none => rw [z2] at p; exact p.elim
        | some b =>
          rw [z2] at p
          obtain ⟨w, e1, r1⟩ := atI_rep l1 z2
          rw [← hK] at q1
          refine ix_seq value slice pins s σ H _ _ v u Q I rx ry ?_ hs
          rcases q1 with q1 | q1
          · exact .inl ⟨a, vs, i, w, rfl, rfl, q1, e1, Post.now p hr r1⟩
          · exact .inr (.inl ⟨a, vs, i, w, rfl, rfl, q1, e1, Post.now p hr r1⟩)
  | _ =>
    exfalso
    cases d <;> exact p
def rCut (T : Tb) (b : Bool) : V → Option Int → Option Int → Hp → VK → Prop := fun x lo hi H Q => ∃ h m d Wx, HR T m H h ∧ RepV T h.length m H d x ∧ Post T h.length m H (RepV T) Q Wx (cutD b h d lo hi)
theorem cut_rep {N : Nat} {m : Gh} {H : Hp} {ds : List D} {vs : List V} (lo hi : Option Int) (r : RepL T N m H ds vs) : RepL T N m H (cutB ds lo hi) (cutV vs lo hi) := by
  unfold cutB cutV
  rw [r.length]
  exact (r.drop _).take _
theorem cut_ok (hK : X.K = T.K) (b : Bool) : SlR X (rCut T b) := by
  intro pins s σ H x v vl vu lo hi sl Q I rx hs pl pu h
  obtain ⟨h, m, d, Wx, hr, rd, p⟩ := h
  have split : (∃ ds, d = .tup ds) ∨ cutD b h d lo hi = (match asL h d with | some ds => mkL b (cutB ds lo hi) h | none => .no) := by
    cases d <;> first | exact .inr rfl | exact .inl ⟨_, rfl⟩
  rcases split with ⟨ds, rfl⟩ | z
  · obtain ⟨a, vs, rfl, q1, l1⟩ := rep_tup rd
    rw [← hK] at q1
    have p' : Post T h.length m H (RepV T) Q Wx (.ok (.tup (cutB ds lo hi)) h) := p
    refine sl_tupA pins s σ H _ v vl vu lo hi sl Q I rx hs pl pu ⟨a, vs, rfl, q1, fun c => ?_, fun _ q hq => post_tup p' hr (cut_rep lo hi l1) hq⟩
    rw [← l1.length] at c
    rw [cut_whole c] at p'
    exact p' m H _ .refl hr rd
  · rw [z] at p
    cases z1 : asL h d with
    | none => rw [z1] at p; exact p.elim
    | some ds =>
      rw [z1] at p
      obtain ⟨a, vs, rfl, q1, l1⟩ := asL_rep hr rd z1
      exact sl_list pins s σ H _ v vl vu lo hi sl Q I rx hs pl pu ⟨a, vs, rfl, .of q1, fun q hq => post_mkL p hr (cut_rep lo hi l1) hq⟩
end
end Hr
set_option maxHeartbeats 1000000
/-! zip of two sequences, each a list or a tuple. -/
namespace Hr
open PySem PySem.Spec PyProof.Rows L2
/-- a list (true) or a tuple (false) that is read -/
def SqB (b : Bool) (K : PySem.W.Frag) (H : Hp) (a : Addr) (xs : List V) : Prop := if b then SqL K H a xs else SqT K H a xs
def VlB (b : Bool) (h : Heap) (a : Addr) (its : Array Value) : Prop := if b then h.IsList a its else h.IsTuple a its
def ItB (b : Bool) (h : Heap) (it a : Addr) (i : Nat) : Prop := if b then h.IsListIter it a i else h.IsTupleIter it a i
def oIt (b : Bool) (a : Addr) : Obj := if b then { cls := .type "list_iterator", data := .fields #[.ref a, .int 0 0] } else { cls := .type "tuple_iterator", data := .fields #[.ref a, .int 0 0] }
theorem oIt_begins (b : Bool) (a : Addr) (its : Array Value) : PySem.Begins (.ref a) (oIt b a) fun h => VlB b h a its := by
  cases b
  · exact begins_tuple a its
  · exact begins_list a its
theorem oIt_at {b : Bool} {h : Heap} {it a : Addr} (e : h.get? it = some (oIt b a)) : ItB b h it a 0 := by
  cases b
  · exact ⟨_, e, rfl, rfl⟩
  · exact ⟨_, e, rfl, rfl⟩
theorem ItB.kept {b : Bool} {h h' : Heap} {it a : Addr} {i : Nat} (x : ItB b h it a i) (k : ∀ o, h.get? it = some o → h'.get? it = some o) : ItB b h' it a i := by
  cases b
  · exact Heap.IsTupleIter.at x k
  · exact Heap.IsListIter.at x k
theorem ItB.obj {b : Bool} {h : Heap} {it a : Addr} {i : Nat} (x : ItB b h it a i) : ∃ o, h.get? it = some o ∧ ∀ v, o.data ≠ .cell v := by
  cases b
  · obtain ⟨o, e, _, d⟩ := (show h.IsTupleIter it a i from x)
    exact ⟨o, e, fun v q => by rw [d] at q; cases q⟩
  · obtain ⟨o, e, _, d⟩ := (show h.IsListIter it a i from x)
    exact ⟨o, e, fun v q => by rw [d] at q; cases q⟩
theorem VlB.lt {b : Bool} {h : Heap} {a : Addr} {its : Array Value} (x : VlB b h a its) : a < h.objs.size := by
  cases b
  · obtain ⟨o, e, _⟩ := (show h.IsTuple a its from x)
    exact Heap.lt_size e
  · obtain ⟨o, e, _⟩ := (show h.IsList a its from x)
    exact Heap.lt_size e
theorem draws {prog : Program} {w : World} {A : Around} (hh : A.handled = none) (b : Bool) (it a : Addr) (hne : a ≠ it) (its : Array Value) :
    Draws prog w A it [it, a] its.size (fun i v => its[i]? = some v) (fun i h => ItB b h it a i ∧ VlB b h a its) := by
  cases b
  · exact Draws.tuple hh it a hne its
  · exact Draws.list hh it a hne its
theorem SqB.vals {X : Cx} {pins : List (Addr × Obj)} {σ : L2.St} {H : Hp} {s : Shared} {b : Bool} {a : Addr} {xs : List V} (I : Inv X pins σ H s) (h : SqB b X.K H a xs) : ∃ its : List Value, Vals xs its ∧ VlB b s.heap a its.toArray := by
  cases b
  · obtain ⟨its, r, p, _⟩ := I.tuple (show SqT X.K H a xs from h)
    exact ⟨its, r, p⟩
  · obtain ⟨its, r, p, _⟩ := I.list (show SqL X.K H a xs from h)
    exact ⟨its, r, p.isList⟩
theorem SqB.inj {X : Cx} {pins : List (Addr × Obj)} {σ : L2.St} {H : Hp} {s : Shared} {b : Bool} {a : Addr} {xs ys : List V} (I : Inv X pins σ H s) (h : SqB b X.K H a xs) (h' : SqB b X.K H a ys) : xs = ys := by
  cases b
  · exact I.tuple_inj (show SqT X.K H a xs from h) h'
  · exact I.list_inj (show SqL X.K H a xs from h) h'
def Itzb (K : PySem.W.Frag) (p q : Bool) (a b : Addr) : It :=
  ⟨fun i H => ∃ (xs ys : List V) (x y : V), SqB p K H a xs ∧ SqB q K H b ys ∧ xs[i]? = some x ∧ ys[i]? = some y,
    fun i H v H' => ∃ t x y, v = .ref t ∧ H t = none ∧ H' = upd H t (.tup [x, y]) ∧ (∀ xs, SqB p K H a xs → xs[i]? = some x) ∧ ∀ ys, SqB q K H b ys → ys[i]? = some y,
    fun i H => ∃ xs ys : List V, SqB p K H a xs ∧ SqB q K H b ys ∧ i = min xs.length ys.length⟩
/-- the parts of a zip's iterator stand apart -/
structure Apart (z TI TO i1 i2 a b : Addr) : Prop where
  sep : PySem.ZipSep2 z TI TO i1 i2 [i1, a] [i2, b]
  n1 : a ≠ i1
  n2 : b ≠ i2
theorem apart_new {n a b : Nat} (ha : a < n) (hb : b < n) : Apart (n + 4) (n + 2) (n + 3) n (n + 1) a b :=
  ⟨zip_sep2 (fp1 := [a]) (fp2 := [b]) (fun c hc => by rw [List.mem_singleton.mp hc]; exact ha) (fun c hc => by rw [List.mem_singleton.mp hc]; exact hb), Nat.ne_of_lt ha, Nat.ne_of_lt (Nat.lt_succ_of_lt hb)⟩
theorem turn_zipb {P : Program} {w : World} {K : PySem.W.Frag} {elts : List Expr} {kk : Nat} {tpos : Pos} {p q : Bool} {a b z TI TO i1 i2 : Addr} (ap : Apart z TI TO i1 i2 a b) :
    Turn P w K (.Tuple elts kk tpos) (Itzb K p q a b) [z, TI, TO, i1, i2] z (fun i h => IsZip h z TI TO .none ∧ PySem.IsTupOf2 h TI (.ref i1) (.ref i2) ∧ (∃ x y, PySem.IsTupOf2 h TO x y) ∧ ItB p h i1 a i ∧ ItB q h i2 b i) where
  mem := by simp
  obj := fun i h st c hc => by
    obtain ⟨hz, hTI, ⟨x, y, hTO⟩, h1, h2⟩ := st
    simp only [List.mem_cons, List.not_mem_nil, or_false] at hc
    rcases hc with e | e | e | e | e
    · subst e; exact ⟨_, hz, fun v q => nomatch q⟩
    · subst e; exact ⟨_, hTI, fun v q => nomatch q⟩
    · subst e; exact ⟨_, hTO, fun v q => nomatch q⟩
    · subst e; exact h1.obj
    · subst e; exact h2.obj
  keep := fun i h h' st k => by
    obtain ⟨hz, hTI, ⟨x, y, hTO⟩, h1, h2⟩ := st
    exact ⟨k z (by simp) _ hz, k TI (by simp) _ hTI, ⟨x, y, k TO (by simp) _ hTO⟩, h1.kept (k i1 (by simp)), h2.kept (k i2 (by simp))⟩
  item := by
    intro X hP hw hK hc i pins s σ H E I hf st hg
    subst hP hw hK
    obtain ⟨hz, hTI, hTO, h1, h2⟩ := st
    obtain ⟨xs, ys, x, y, sx, sy, ex, ey⟩ := hg
    obtain ⟨us, rx, vx⟩ := sx.vals I
    obtain ⟨ws, ry, vy⟩ := sy.vals I
    obtain ⟨u, eu, ru⟩ := rx.get ex
    obtain ⟨v, ew, rw'⟩ := ry.get ey
    have lx : i < us.toArray.size := by rw [List.size_toArray]; exact (List.getElem?_eq_some_iff.mp eu).1
    have ly : i < ws.toArray.size := by rw [List.size_toArray]; exact (List.getElem?_eq_some_iff.mp ew).1
    have G := PySem.GoesN.zip2 (prog := X.prog) (w := X.w) (A := X.A) (elts := elts) (x1 := kk) (pos := tpos) ap.sep (draws (A := X.A.in1) (I.ok.hd hc) p i1 a ap.n1 us.toArray) (draws (A := X.A.in1) (I.ok.hd hc) q i2 b ap.n2 ws.toArray)
    refine thn (G.goes i s _ E (by omega) ⟨hz, hTI, hTO, ⟨h1, vx⟩, h2, vy⟩ fun t h' tk y0 st' keep _ => ?_) fun r s1 ⟨t, e, k⟩ => ⟨t, e, k⟩
    obtain ⟨n, x1, y1, e, hn, e1, e2, ht⟩ := y0
    subst e
    have e1 : u = x1 := by
      have : us.toArray[i]? = some u := by simpa using eu
      exact Option.some.inj (this.symm.trans e1)
    have e2 : v = y1 := by
      have : ws.toArray[i]? = some v := by simpa using ew
      exact Option.some.inj (this.symm.trans e2)
    subst e1 e2
    have hk : ∀ c o, c ∉ [z, TI, TO, i1, i2] → s.heap.get? c = some o → h'.get? c = some o := fun c o hc e => keep c o (fun m => hc (by
      simp only [List.mem_cons, List.not_mem_nil, or_false] at m ⊢
      rcases m with e | e | e | e
      · exact .inl e
      · exact .inr (.inr (.inl e))
      · exact .inr (.inr (.inr (.inl e)))
      · exact .inr (.inr (.inr (.inr e))))) e
    have fr : H n = none := I.hok.fresh hn
    have J : Inv X pins σ (upd H n (.tup [x, y])) { s with heap := h', toks := tk } := I.turnedNew hk hf hn ⟨by show 2 ≤ sizeLine; decide, [u, v], .cons ru (.cons rw' .nil), ht⟩
    refine ⟨.ref n, _, J, rfl, ⟨n, x, y, rfl, fr, rfl, fun l hl => by rw [hl.inj I sx]; exact ex, fun l hl => by rw [hl.inj I sy]; exact ey⟩, ⟨st'.1, st'.2.1, st'.2.2.1, st'.2.2.2.1.1, st'.2.2.2.2.1⟩, fun c hcm => ?_⟩
    have hlt : c < s.heap.objs.size := by
      simp only [List.mem_cons, List.not_mem_nil, or_false] at hcm
      obtain ⟨_, _, eTO⟩ := hTO
      obtain ⟨_, q1, _⟩ := h1.obj
      obtain ⟨_, q2, _⟩ := h2.obj
      rcases hcm with e | e | e | e | e
      · subst e; exact Heap.lt_size hz
      · subst e; exact Heap.lt_size hTI
      · subst e; exact Heap.lt_size eTO
      · subst e; exact Heap.lt_size q1
      · subst e; exact Heap.lt_size q2
    rw [upd_ne (Nat.ne_of_lt (Nat.lt_of_lt_of_le hlt hn))]
    exact (hf c hcm).1
  done := by
    intro X hP hw hK hc i pins s σ H E I hf st hg
    subst hP hw hK
    obtain ⟨hz, hTI, hTO, h1, h2⟩ := st
    obtain ⟨xs, ys, sx, sy, ei⟩ := hg
    obtain ⟨us, rx, vx⟩ := sx.vals I
    obtain ⟨ws, ry, vy⟩ := sy.vals I
    have G := PySem.GoesN.zip2 (prog := X.prog) (w := X.w) (A := X.A) (elts := elts) (x1 := kk) (pos := tpos) ap.sep (draws (A := X.A.in1) (I.ok.hd hc) p i1 a ap.n1 us.toArray) (draws (A := X.A.in1) (I.ok.hd hc) q i2 b ap.n2 ws.toArray)
    have en : min us.toArray.size ws.toArray.size = i := by rw [List.size_toArray, List.size_toArray, ← rx.length, ← ry.length]; exact ei.symm
    rw [en] at G
    exact G.stops s (fun s1 => Inv X pins σ H s1) E ⟨hz, hTI, hTO, ⟨h1, vx⟩, h2, vy⟩ fun h' tk keep _ => I.turnedL (fun c o hc e => keep c o (fun m => hc (by
      simp only [List.mem_cons, List.not_mem_nil, or_false] at m ⊢
      rcases m with e | e | e | e
      · exact .inl e
      · exact .inr (.inr (.inl e))
      · exact .inr (.inr (.inr (.inl e)))
      · exact .inr (.inr (.inr (.inr e))))) e) hf
  self := fun A i s Q E st h => wpAny_pyIter_zip st.1 h
def iZipb (K : PySem.W.Frag) (ta : TA) : TI := fun σ H R => ta σ H fun vs H1 => ∃ p q a b xs ys, vs = [.ref a, .ref b] ∧ SqB p K H1 a xs ∧ SqB q K H1 b ys ∧ R (Itzb K p q a b) H1
theorem pi_zipb {X : Cx} {e e2 : Expr} {ta : TA} {pz pos tpos : Pos} {elts : List Expr} {kk : Nat} (hg : Gl X "zip") (hm : X.mg "zip" = none) (ha : PA X [e, e2] ta)
    (hs : starEach [e, e2] X.env = (false, eval e X.env) :: starEach [e2] X.env) (hpl : (backTo pos (starEach [e2] X.env)).any (·.1) = false) :
    PI X (.Tuple elts kk tpos) (.Call (.Name "zip" pz) [e, e2] [] pos) (iZipb X.K ta) := by
  refine ⟨fun pins s σ H R I h => Call_ (ld_blt I hg hm PyProof.Rows.boot_zip (PyProof.Rows.callWith_type1 (thn (ha.run pos pins s σ H _ I h) fun us s1 hq => ?_) hs hpl))⟩
  obtain ⟨vs, H1, I1, r1, p, q, a, b, xs, ys, ev, sx, sy, k⟩ := hq
  subst ev
  obtain ⟨u1, u2, rfl, r1, r2⟩ := vals2 r1
  cases (show u1 = Value.ref a from r1)
  cases (show u2 = Value.ref b from r2)
  obtain ⟨us, rx, vx⟩ := sx.vals I1
  obtain ⟨ws, ry, vy⟩ := sy.vals I1
  refine zip_begins2 (oIt_begins p a us.toArray) (oIt_begins q b ws.toArray) vx vy fun h' hz hTI hTO e1 e2 _ keep => wpAny_pyIter_zip hz ?_
  refine ⟨s1.heap.objs.size + 4, [s1.heap.objs.size + 4, s1.heap.objs.size + 2, s1.heap.objs.size + 3, s1.heap.objs.size, s1.heap.objs.size + 1], _, _, H1, rfl, I1.kept (t' := s1.toks) keep, turn_zipb (apart_new vx.lt vy.lt), ⟨hz, hTI, ⟨_, _, hTO⟩, oIt_at e1, oIt_at e2⟩, fun c hc => ?_, k⟩
  have hle : s1.heap.objs.size ≤ c := by
    simp only [List.mem_cons, List.not_mem_nil, or_false] at hc
    rcases hc with e | e | e | e | e <;> (rw [e]; first | exact Nat.le_refl _ | exact Nat.le_add_right _ _)
  exact I1.fpOk hle (I1.hok.fresh hle)
theorem walk_zipb {K : PySem.W.Frag} {p q : Bool} {a b : Addr} {xs ys : List V} : Walk (Itzb K p q a b) (min xs.length ys.length) (fun H => SqB p K H a xs ∧ SqB q K H b ys) (YPair (fun i => xs[i]?) (fun i => ys[i]?)) where
  goes := fun i H hi g => ⟨xs, ys, xs[i]'(by omega), ys[i]'(by omega), g.1, g.2, List.getElem?_eq_getElem _, List.getElem?_eq_getElem _⟩
  stops := fun H g => ⟨xs, ys, g.1, g.2, rfl⟩
  yields := fun i H v H' hi g y => by
    obtain ⟨t, x, y, e, hn, e2, k1, k2⟩ := y
    exact ⟨t, x, y, e, hn, e2, k1 xs g.1, k2 ys g.2⟩
end Hr
set_option maxHeartbeats 4000000
/-! enumerate of a tuple. -/
namespace Hr
open PySem PySem.Spec PyProof.Rows L2
/-- the records that are laid: the tuple's iterator, the enumeration -/
def tIt (l : Addr) : Obj := { cls := .type "tuple_iterator", data := .fields #[.ref l, .int 0 0] }
def enO (it : Addr) : Obj := { cls := .type "enumerate", data := .fields #[.none, .bool false, .ref it, rawInt 0, .none, .none] }
theorem meets_enumT (l : Addr) (items : Array Value) (n : Nat) (dd : Option Addr) (sl : Array (Option Value)) :
    Meets (Builtin.«enumerate.__new__» ⟨[.type "enumerate", .ref l], []⟩) (fun _ R s => s.heap.get? l = some { cls := .type "tuple", dict := dd, data := .seq items n, slots := sl } ∧
      R (.ok (.ret (.ref (s.heap.push (tIt l)).objs.size))) { s with heap := (s.heap.push (tIt l)).push (enO s.heap.objs.size) }) :=
  .of_wp fun prog w A R s h => by
    obtain ⟨hp, g, d, tk, os⟩ := s
    obtain ⟨hl, h⟩ := h
    have sb := sub_enumerate
    have isT : Heap.IsTuple hp l items := ⟨_, hl, rfl, n, rfl⟩
    wp_walk using PySem.AutoSeq1.wpAny_loadPart' hl
    refine wpAny_stack_any fun st => wpAny_pure ?_
    split
    · rename_i c _ _ _ _ _
      cases (c == Value.type "enumerate") <;>
        (wp_walk using PySem.AutoSeq1.wpAny_loadPart' hl, wpAny_pyIter_tuple isT
         exact ⟨_, rfl, h⟩)
    · wp_walk using PySem.AutoSeq1.wpAny_loadPart' hl, wpAny_pyIter_tuple isT
      exact ⟨_, rfl, h⟩
theorem call_enumT {prog : Program} {w : World} {A : Around} {E : Value → Shared → Prop} {s : Shared} {l : Addr} {items : Array Value} {Q : Value → Shared → Prop} (ht : s.heap.IsTuple l items)
    (h : ∀ h', IsEnum h' (s.heap.objs.size + 1) s.heap.objs.size 0 .none → h'.IsTupleIter s.heap.objs.size l 0 → (∀ b o, s.heap.get? b = some o → h'.get? b = some o) → Q (.ref (s.heap.objs.size + 1)) { s with heap := h' }) :
    wpAny (model prog w) A (call (.type "enumerate") [.ref l]) Q E s := by
  obtain ⟨⟨c, dd, dt, sl⟩, hl, hc, n, hd⟩ := ht
  have hc : c = .type "tuple" := hc
  have hd : dt = .seq items n := hd
  subst hc hd
  have z1 : (s.heap.push (tIt l)).objs.size = s.heap.objs.size + 1 := Heap.size_push ..
  refine callType_new F.called_enumerate (by decide) (F.typeCall_enumerate_1 _) (F.newCall_enumerate_1 _) (fun obj => F.args_object_init_2 obj _) F.entry_enumerate_new (meets_enumT l items n dd sl) ⟨hl, ?_⟩
  show _ ∧ _
  rw [z1]
  have e1 : ((s.heap.push (tIt l)).push (enO s.heap.objs.size)).get? (s.heap.objs.size + 1) = some (enO s.heap.objs.size) := by
    have := Heap.get?_push_size (s.heap.push (tIt l)) (o := enO s.heap.objs.size) rfl
    rwa [z1] at this
  exact ⟨⟨_, e1, rfl⟩, h _ e1 ⟨_, Heap.get?_push_of_some _ (Heap.get?_push_size _ rfl), rfl, rfl⟩ fun b o x => Heap.get?_push_of_some _ (Heap.get?_push_of_some _ x)⟩
/-- the tuple at a, each item in a new pair -/
def Itn (K : PySem.W.Frag) (a : Addr) : It :=
  ⟨fun i H => ∃ (xs : List V) (x : V), SqT K H a xs ∧ xs[i]? = some x,
    fun i H v H' => ∃ t x, v = .ref t ∧ H t = none ∧ H' = upd H t (.tup [.int (i : Nat), x]) ∧ ∀ xs, SqT K H a xs → xs[i]? = some x,
    fun i H => ∃ xs : List V, SqT K H a xs ∧ xs.length = i⟩
theorem turn_enumT {P : Program} {w : World} {K : PySem.W.Frag} {elts : List Expr} {kk : Nat} {tpos : Pos} (a e it : Addr) (hai : a ≠ it) (hae : a ≠ e) :
    Turn P w K (.Tuple elts kk tpos) (Itn K a) [e, it] e (fun i h => (∃ old, IsEnum h e it ((i : Nat) : Int) old) ∧ h.IsTupleIter it a i ∧ e ≠ it) where
  mem := List.mem_cons_self
  obj := fun i h ⟨⟨old, he⟩, ⟨o, ho, _, hd⟩, _⟩ b hb => by
    rcases List.mem_cons.mp hb with z | z
    · rw [z]
      exact ⟨_, he, fun v q => nomatch q⟩
    · rw [List.mem_singleton.mp z]
      exact ⟨o, ho, fun v q => by rw [hd] at q; cases q⟩
  keep := fun i h h' ⟨⟨old, he⟩, hi, hne⟩ k => ⟨⟨old, k e List.mem_cons_self _ he⟩, hi.at fun o q => k it (by simp) o q, hne⟩
  item := by
    rintro X rfl rfl rfl hc i pins s σ H E I hf ⟨⟨old, he⟩, hit, hne⟩ ⟨xs, x, hq, hx⟩
    obtain ⟨its, rv, p, _⟩ := I.tuple hq
    obtain ⟨u, hu, ru⟩ := rv.get hx
    have lte : e < s.heap.objs.size := Heap.lt_size he
    have lti : it < s.heap.objs.size := let ⟨_, q, _⟩ := hit; Heap.lt_size q
    have lta : a < s.heap.objs.size := let ⟨_, q, _⟩ := p; Heap.lt_size q
    have hii : i < its.toArray.size := by
      rcases Nat.lt_or_ge i its.length with z | z
      · simpa using z
      · rw [List.getElem?_eq_none z] at hu; cases hu
    have D := Draws.tuple (prog := X.prog) (w := X.w) (A := X.A.in1) (I.ok.hd hc) it a hai its.toArray
    refine wpAny_pyNext_enum_itemD D he ⟨hit, p⟩ hii hne (by simp [hne, Ne.symm hae]) fun v h1 tk hv ho st1 hT hsz hk => ?_
    have ev : v = u := by
      have hv : its.toArray[i]? = some v := hv
      rw [List.getElem?_toArray, hu] at hv
      exact (Option.some.inj hv).symm
    subst ev
    refine ⟨_, rfl, wpAny_letOwnedTupleGo_enum (s := { s with heap := h1, toks := tk + 1 }) ho fun h2 he2 sb => ?_⟩
    have hT2 : h2.get? s.heap.objs.size = some { cls := .type "tuple", data := .seq #[.int i tk, v] } := (sb.2 _ (Nat.ne_of_gt lte)).trans hT
    have new : ObjOk X.prog X.w (upd H s.heap.objs.size (.tup [.int (i : Nat), x])) h2 s.heap.objs.size (.tup [.int (i : Nat), x]) :=
      ⟨by show 2 ≤ sizeLine; decide, [.int i tk, v], .cons ⟨_, rfl⟩ (.cons ru .nil), ⟨_, hT2, rfl, _, rfl⟩⟩
    have kp : ∀ b o, b ∉ [e, it] → s.heap.get? b = some o → h2.get? b = some o := fun b o hb q => by
      have be : b ≠ e := fun z => hb (by simp [z])
      exact (sb.2 b be).trans (hk b o be (fun z => hb (by simp [z])) q)
    have I1 := I.turnedNew (ch := [e, it]) (t' := tk + 1) kp hf (Nat.le_refl _) new
    refine ⟨.ref s.heap.objs.size, _, I1, rfl, ⟨_, x, rfl, I.hok.fresh (Nat.le_refl _), rfl, fun ys hy => by rw [I.tuple_inj hy hq]; exact hx⟩, ⟨⟨v, by rw [show ((i + 1 : Nat) : Int) = (i : Int) + 1 from by omega]; exact he2⟩, st1.1.at fun o q => (sb.2 it (Ne.symm hne)).trans q, hne⟩, fun b hb => ?_⟩
    have lb : b < s.heap.objs.size := by
      rcases List.mem_cons.mp hb with z | z
      · rw [z]; exact lte
      · rw [List.mem_singleton.mp z]; exact lti
    rw [upd_ne (Nat.ne_of_lt lb)]
    exact (hf b hb).1
  done := by
    rintro X rfl rfl rfl hc i pins s σ H E I hf ⟨⟨old, he⟩, hit, hne⟩ ⟨xs, hq, hx⟩
    obtain ⟨its, rv, p, _⟩ := I.tuple hq
    obtain ⟨f0, f1, f2, f3, f4, f5⟩ := hf it (by simp)
    have le : i = its.toArray.size := by have := rv.length; simp; omega
    have D := Draws.tuple (prog := X.prog) (w := X.w) (A := X.A.in1) (I.ok.hd hc) it a hai its.toArray
    rw [le] at he hit
    exact wpAny_pyNext_enum_endD D he ⟨hit, p⟩ fun h1 eb => ⟨rfl, I.turned (t' := s.toks) (fun b o hb q => eb b o hb q) f0 f1 f3 f4 f5⟩
  self := fun A i s Q E st h => let ⟨⟨_, he⟩, _⟩ := st; wpAny_pyIter_enum he h
theorem pi_enumT {X : Cx} {e : Expr} {ta : TA} {p pos tpos : Pos} {elts : List Expr} {kk : Nat} (hg : Gl X "enumerate") (hm : X.mg "enumerate" = none) (ha : PA X [e] ta) (hs : starEach [e] X.env = [(false, eval e X.env)]) :
    PI X (.Tuple elts kk tpos) (.Call (.Name "enumerate" p) [e] [] pos) (fun σ H R => ta σ H fun vs H1 => ∃ a xs, vs = [.ref a] ∧ SqT X.K H1 a xs ∧ R (Itn X.K a) H1) := by
  refine ⟨fun pins s σ H R I h => Call_ (ld_blt I hg hm boot_enumerate (PyProof.Rows.callWith_type1 (thn (ha.run pos pins s σ H _ I h) fun us s1 ⟨vs, H1, I1, r1, a, xs, ex, hq, q⟩ => ?_) hs rfl))⟩
  subst ex
  obtain ⟨u, rfl, ru⟩ := vals1 r1
  cases ru
  obtain ⟨its, rv, pt, _⟩ := I1.tuple hq
  have lta : a < s1.heap.objs.size := let ⟨_, q, _⟩ := pt; Heap.lt_size q
  refine call_enumT pt fun h1 he hit hk => wpAny_pyIter_enum he ?_
  have I2 : Inv X pins σ H1 { s1 with heap := h1 } := I1.kept (t' := s1.toks) hk
  refine ⟨_, [s1.heap.objs.size + 1, s1.heap.objs.size], _, Itn X.K a, H1, rfl, I2, turn_enumT a (s1.heap.objs.size + 1) s1.heap.objs.size (Nat.ne_of_lt lta) (Nat.ne_of_lt (Nat.lt_succ_of_lt lta)), ⟨⟨.none, he⟩, hit, Nat.succ_ne_self _⟩, fun b hb => ?_, q⟩
  have le : s1.heap.objs.size ≤ b := by
    rcases List.mem_cons.mp hb with z | z
    · rw [z]; exact Nat.le_succ _
    · rw [List.mem_singleton.mp z]; exact Nat.le_refl _
  exact I1.fpOk le (I1.hok.fresh le)
end Hr
set_option maxHeartbeats 1000000
/-! any, all of a list or a tuple of bools and ints. -/
namespace Hr
open PySem PySem.Spec PyProof.Rows L2
def trV : V → Option Bool
  | .bl b => some b
  | .int i => some (i != 0)
  | _ => none
def TrsV (xs : List V) (bs : List Bool) : Prop := xs.length = bs.length ∧ ∀ (i : Nat) (v : V), xs[i]? = some v → ∃ b, bs[i]? = some b ∧ trV v = some b
theorem truth_mix {prog : Program} {w : World} {A : Around} {bs : List Bool} {xs : List V} {its : List Value} (r : Vals xs its) (t : TrsV xs bs) :
    TruthOf prog w A (fun i v => its.toArray[i]? = some v) (fun i => bs.getD i false) := fun i v s Q E hv hq => by
  have hv' : its[i]? = some v := by simpa using hv
  have hi : i < xs.length := by rw [r.length]; exact (List.getElem?_eq_some_iff.mp hv').1
  obtain ⟨u, eu, ru⟩ := r.get (List.getElem?_eq_getElem hi)
  rw [hv'] at eu
  cases eu
  obtain ⟨b, hb, tb⟩ := t.2 i _ (List.getElem?_eq_getElem hi)
  have hg : bs.getD i false = b := by rw [List.getD_eq_getElem?_getD, hb] <;> rfl
  have hq' : Q (bs.getD i false) s := hq
  rw [hg] at hq'
  generalize xs[i]'hi = x at ru tb
  cases x with
  | bl c => cases tb; cases ru; exact wpAny_truthy_bool hq'
  | int c => cases tb; obtain ⟨t, rfl⟩ := ru; exact P.truthy_int hq'
  | _ => cases tb
section
variable {X : Cx}
def rAnyB (K : PySem.W.Frag) (f : List Bool → Bool) : List V → Hp → VK → Prop := fun vs H Q => ∃ (p : Bool) (a : Addr) (xs : List V) (bs : List Bool), vs = [V.ref a] ∧ SqB p K H a xs ∧ TrsV xs bs ∧ Q (.bl (f bs)) H
theorem cr_anyB (hc : X.calm = true) : CallR X (.builtin "any") (rAnyB X.K fun bs => bs.any id) := by
  intro pins s σ H vs us Q I r h
  obtain ⟨p, a, xs, bs, rfl, hs, ht, q⟩ := h
  rw [Vals.ref1 r]
  have fin : ∀ (its : List Value) (n : Nat) h' tk, its.toArray.size = bs.length → (∀ b o, b ∉ [s.heap.objs.size] → (s.heap.push (oIt p a)).get? b = some o → h'.get? b = some o) → EP X pins σ Q (.bool ((List.range its.toArray.size).any fun i => bs.getD i false)) { s with heap := h', toks := tk } := fun its n h' tk e hk => by
    refine ⟨.bl _, H, I.kept fun b o eo => hk b o (fun hmem => ?_) (Heap.get?_push_of_some _ eo), ?_, q⟩
    · rcases List.mem_cons.mp hmem with e1 | hmem
      · exact absurd (e1 ▸ Heap.lt_size eo) (Nat.lt_irrefl _)
      · cases hmem
    · show Value.bool _ = Value.bool (bs.any id)
      rw [← L2.any_range, e]
  cases p with
  | true =>
    obtain ⟨its, rv, hl, _⟩ := I.list (show SqL X.K H a xs from hs)
    have el : its.toArray.size = bs.length := by rw [List.size_toArray, ← rv.length, ht.1]
    refine call_any_walk (iter_any hl.isList fun s₂ e2 st hne => ?_)
    subst e2
    exact ⟨_, _, _, _, _, _, _, rfl, Walks.list (A := X.A.in1) (I.ok.hd hc) _ a hne its.toArray, st, truth_mix rv ht, fun h' tk hk => fin its 0 h' tk el hk⟩
  | false =>
    obtain ⟨its, rv, hl, _⟩ := I.tuple (show SqT X.K H a xs from hs)
    have hl : s.heap.IsTuple a its.toArray := hl
    have el : its.toArray.size = bs.length := by rw [List.size_toArray, ← rv.length, ht.1]
    have hne : a ≠ s.heap.objs.size := Nat.ne_of_lt (by obtain ⟨_, e, _⟩ := hl; exact Heap.lt_size e)
    refine call_any_walk (wpAny_pyIter_tuple hl ?_)
    exact ⟨_, _, _, _, _, _, _, rfl, Walks.tuple (A := X.A.in1) (I.ok.hd hc) _ a hne its.toArray, ⟨⟨_, Heap.get?_push_size _ rfl, rfl, rfl⟩, hl.at fun o e => Heap.get?_push_of_some _ e⟩, truth_mix rv ht, fun h' tk hk => fin its 0 h' tk el hk⟩
theorem cr_allB (hc : X.calm = true) : CallR X (.builtin "all") (rAnyB X.K fun bs => bs.all id) := by
  intro pins s σ H vs us Q I r h
  obtain ⟨p, a, xs, bs, rfl, hs, ht, q⟩ := h
  rw [Vals.ref1 r]
  have fin : ∀ (its : List Value) (n : Nat) h' tk, its.toArray.size = bs.length → (∀ b o, b ∉ [s.heap.objs.size] → (s.heap.push (oIt p a)).get? b = some o → h'.get? b = some o) → EP X pins σ Q (.bool ((List.range its.toArray.size).all fun i => bs.getD i false)) { s with heap := h', toks := tk } := fun its n h' tk e hk => by
    refine ⟨.bl _, H, I.kept fun b o eo => hk b o (fun hmem => ?_) (Heap.get?_push_of_some _ eo), ?_, q⟩
    · rcases List.mem_cons.mp hmem with e1 | hmem
      · exact absurd (e1 ▸ Heap.lt_size eo) (Nat.lt_irrefl _)
      · cases hmem
    · show Value.bool _ = Value.bool (bs.all id)
      rw [← L2.all_range, e]
  cases p with
  | true =>
    obtain ⟨its, rv, hl, _⟩ := I.list (show SqL X.K H a xs from hs)
    have el : its.toArray.size = bs.length := by rw [List.size_toArray, ← rv.length, ht.1]
    refine call_all_walk (iter_any hl.isList fun s₂ e2 st hne => ?_)
    subst e2
    exact ⟨_, _, _, _, _, _, _, rfl, Walks.list (A := X.A.in1) (I.ok.hd hc) _ a hne its.toArray, st, truth_mix rv ht, fun h' tk hk => fin its 0 h' tk el hk⟩
  | false =>
    obtain ⟨its, rv, hl, _⟩ := I.tuple (show SqT X.K H a xs from hs)
    have hl : s.heap.IsTuple a its.toArray := hl
    have el : its.toArray.size = bs.length := by rw [List.size_toArray, ← rv.length, ht.1]
    have hne : a ≠ s.heap.objs.size := Nat.ne_of_lt (by obtain ⟨_, e, _⟩ := hl; exact Heap.lt_size e)
    refine call_all_walk (wpAny_pyIter_tuple hl ?_)
    exact ⟨_, _, _, _, _, _, _, rfl, Walks.tuple (A := X.A.in1) (I.ok.hd hc) _ a hne its.toArray, ⟨⟨_, Heap.get?_push_size _ rfl, rfl, rfl⟩, hl.at fun o e => Heap.get?_push_of_some _ e⟩, truth_mix rv ht, fun h' tk hk => fin its 0 h' tk el hk⟩
end
section
variable {T : Tb} {N : Nat} {m : Gh} {H : Hp}
theorem trs_rep : ∀ {ds : List D} {vs : List V} {bs : List Bool}, RepL T N m H ds vs → trsD ds = some bs → TrsV vs bs
  | [], _, _, r, e => by
    cases r
    cases e
    exact ⟨rfl, fun i v z => by simp at z⟩
  | d :: ds, _, bs, ⟨v, w, e1, a, b⟩, e => by
    subst e1
    have k : ∃ t bs', trV v = some t ∧ trsD ds = some bs' ∧ bs = t :: bs' := by
      cases d with
      | bl c =>
        have e : (trsD ds).map (c :: ·) = some bs := e
        cases z : trsD ds with
        | none => rw [z] at e; cases e
        | some ks =>
          rw [z] at e
          cases e
          cases a
          exact ⟨c, ks, rfl, rfl, rfl⟩
      | int c =>
        have e : (trsD ds).map ((c != 0) :: ·) = some bs := e
        cases z : trsD ds with
        | none => rw [z] at e; cases e
        | some ks =>
          rw [z] at e
          cases e
          cases a
          exact ⟨c != 0, ks, rfl, rfl, rfl⟩
      | _ => cases e
    obtain ⟨t, bs', h1, h2, h3⟩ := k
    subst h3
    obtain ⟨l, q⟩ := trs_rep b h2
    refine ⟨by rw [List.length_cons, List.length_cons, l], fun i u z => ?_⟩
    cases i with
    | zero => simp at z; subst z; exact ⟨t, rfl, h1⟩
    | succ i => exact (q i u (by simpa using z)).imp fun b hb => ⟨by simpa using hb.1, hb.2⟩
end
end Hr
set_option maxHeartbeats 1000000
/-! Built-in functions and methods, by values. -/
namespace Hr
open PySem PySem.Spec PyProof.Rows L2
section
variable {T : Tb} {N : Nat} {m : Gh} {H : Hp} {h : Hv} {d : D} {ds : List D} {v : V}
theorem ints_rep : ∀ {ds : List D} {vs : List V} {ns : List Int}, RepL T N m H ds vs → intsD ds = some ns → vs = ns.map V.int
  | [], _, _, r, e => by
    cases r
    cases e
    rfl
  | .int i :: ds, _, ns, ⟨v, w, e1, a, b⟩, e => by
    subst e1
    cases a
    have e : (intsD ds).map (i :: ·) = some ns := e
    cases z : intsD ds with
    | none => rw [z] at e; cases e
    | some ks =>
      rw [z] at e
      cases e
      rw [ints_rep b z]
      rfl
  | .non :: _, _, _, _, e => by cases e
  | .bl _ :: _, _, _, _, e => by cases e
  | .str _ :: _, _, _, _, e => by cases e
  | .tup _ :: _, _, _, _, e => by cases e
  | .lst _ :: _, _, _, _, e => by cases e
  | .ro _ :: _, _, _, _, e => by cases e
  | .dct _ _ :: _, _, _, _, e => by cases e
  | .ref _ :: _, _, _, _, e => by cases e
theorem bls_rep : ∀ {ds : List D} {vs : List V} {ns : List Bool}, RepL T N m H ds vs → blsD ds = some ns → vs = ns.map V.bl
  | [], _, _, r, e => by
    cases r
    cases e
    rfl
  | .bl i :: ds, _, ns, ⟨v, w, e1, a, b⟩, e => by
    subst e1
    cases a
    have e : (blsD ds).map (i :: ·) = some ns := e
    cases z : blsD ds with
    | none => rw [z] at e; cases e
    | some ks =>
      rw [z] at e
      cases e
      rw [bls_rep b z]
      rfl
  | .non :: _, _, _, _, e => by cases e
  | .int _ :: _, _, _, _, e => by cases e
  | .str _ :: _, _, _, _, e => by cases e
  | .tup _ :: _, _, _, _, e => by cases e
  | .lst _ :: _, _, _, _, e => by cases e
  | .ro _ :: _, _, _, _, e => by cases e
  | .dct _ _ :: _, _, _, _, e => by cases e
  | .ref _ :: _, _, _, _, e => by cases e
theorem rep_ints : ∀ ns : List Int, RepL T N m H (ns.map D.int) (ns.map V.int)
  | [] => rfl
  | i :: ns => ⟨_, _, rfl, rfl, rep_ints ns⟩
theorem insSort_perm (i : Int) : ∀ ns : List Int, (insSort i ns).Perm (i :: ns)
  | [] => .refl _
  | j :: r => by
    unfold insSort
    split
    · exact .refl _
    · exact .trans (.cons j (insSort_perm i r)) (.swap i j r)
theorem sortI_perm : ∀ ns : List Int, (sortI ns).Perm ns
  | [] => .refl _
  | i :: r => .trans (insSort_perm i _) (.cons i (sortI_perm r))
theorem insSort_rise (i : Int) : ∀ {ns : List Int}, ns.Pairwise (· ≤ ·) → (insSort i ns).Pairwise (· ≤ ·)
  | [], _ => List.pairwise_singleton _ _
  | j :: r, h => by
    rw [List.pairwise_cons] at h
    unfold insSort
    split
    · rename_i c
      refine List.pairwise_cons.mpr ⟨fun k hk => ?_, List.pairwise_cons.mpr h⟩
      rcases List.mem_cons.mp hk with e | e
      · rw [e]; exact c
      · exact Int.le_trans c (h.1 k e)
    · rename_i c
      refine List.pairwise_cons.mpr ⟨fun k hk => ?_, insSort_rise i h.2⟩
      rcases List.mem_cons.mp ((insSort_perm i r).mem_iff.mp hk) with e | e
      · rw [e]; omega
      · exact h.1 k e
theorem sortI_rise : ∀ ns : List Int, (sortI ns).Pairwise (· ≤ ·)
  | [] => .nil
  | i :: r => insSort_rise i (sortI_rise r)
theorem sort_one {a b : List Int} (p : a.Perm b) (ha : a.Pairwise (· ≤ ·)) (hb : b.Pairwise (· ≤ ·)) : a = b :=
  p.eq_of_pairwise (fun x y _ _ h1 h2 => Int.le_antisymm h1 h2) ha hb
mutual
theorem dp_noDict {K : PySem.W.Frag} : ∀ {x : V} {p : PyData}, Dp K H x p → p.hasDict = false
  | _, _, .non => by simp only [PyData.hasDict]
  | _, _, .bl _ => by simp only [PyData.hasDict]
  | _, _, .int _ => by simp only [PyData.hasDict]
  | _, _, .str _ => by simp only [PyData.hasDict]
  | _, _, .lst _ h => by simp only [PyData.hasDict]; exact dp_noDicts h
  | _, _, .tup _ h => by simp only [PyData.hasDict]; exact dp_noDicts h
theorem dp_noDicts {K : PySem.W.Frag} : ∀ {xs : List V} {ps : List PyData}, DpAll K H xs ps → PyData.hasDictAll ps = false
  | _, _, .nil => by simp only [PyData.hasDictAll]
  | _, _, .cons a b => by simp only [PyData.hasDictAll, dp_noDict a, dp_noDicts b, Bool.or_self]
end
end
section
variable {X : Cx} {T : Tb}
def rCall (T : Tb) (f : List D → Hv → Rs D) : List V → Hp → VK → Prop := fun xs H Q => ∃ h m ds Wx, HR T m H h ∧ RepL T h.length m H ds xs ∧ Post T h.length m H (RepV T) Q Wx (f ds h)
mutual
theorem Dq.reads {pins : List (Addr × Obj)} {σ : List (Option V)} {H : Hp} {s : Shared} (I : Inv X pins σ H s) : ∀ (d : PyData) (v : V) (u : Value), Dq X.K H v d → RelV v u → ∃ as, Reads s.heap u d as ∧ (lfree d = true → ¬ sysModules ∈ as)
  | .none, _, _, h, r => by
    cases h
    cases r
    exact ⟨_, Reads.none, fun _ z => nomatch z⟩
  | .bool b, _, _, h, r => by
    cases h
    cases r
    exact ⟨_, Reads.bool b, fun _ z => nomatch z⟩
  | .int i, _, _, h, r => by
    cases h
    obtain ⟨t, rfl⟩ := r
    exact ⟨_, Reads.int i t, fun _ z => nomatch z⟩
  | .str x, _, _, h, r => by
    cases h
    obtain ⟨t, rfl⟩ := r
    exact ⟨_, Reads.str x t, fun _ z => nomatch z⟩
  | .list ds, _, _, h, r => by
    cases h with
    | lst hs ha =>
      cases r
      obtain ⟨its, rv, ⟨o, n, ho, hc, _, hd⟩, _⟩ := I.list hs
      obtain ⟨as, hr, _⟩ := Dq.readsAll I ds _ its ha rv
      exact ⟨_, Reads.list ho hc hd hr, fun z => by simp [lfree] at z⟩
  | .tuple ds, _, _, h, r => by
    cases h with
    | tup hs ha =>
      cases r
      obtain ⟨its, rv, ⟨o, ho, hc, n, hd⟩, _⟩ := I.tuple hs
      obtain ⟨as, hr, hf⟩ := Dq.readsAll I ds _ its ha rv
      exact ⟨_, Reads.tuple ho hc hd hr, fun z => hf (by simpa only [lfree] using z)⟩
  | .dict kvs, _, _, h, r => by
    cases h with
    | @dct a kk xs _ ha hl hk hp =>
      cases r
      obtain ⟨_, hsm, vs, kv, o, es, ep, ho, hc, hd, _, hpr, _⟩ := dk_rd I.hok ha
      have lv : ∀ (kk : List Key) (xs : List V) (vs : List (Key × Value)), kk.length = xs.length → KV (kk.zip xs) vs → vs.map (·.1) = kk ∧ Vals xs (vs.map (·.2)) := fun kk => by
        induction kk with
        | nil => intro xs vs l k; cases xs with
          | nil => cases k; exact ⟨rfl, .nil⟩
          | cons _ _ => cases l
        | cons k kk ih => intro xs vs l kv; cases xs with
          | nil => cases l
          | cons x xs =>
            cases kv with
            | @cons _ b _ t hb ht =>
              obtain ⟨e1, e2⟩ := ih xs t (Nat.succ.inj l) ht
              exact ⟨by rw [List.map_cons, e1, ← hb.1], .cons hb.2 e2⟩
      obtain ⟨e1, e2⟩ := lv kk xs vs hl kv
      have pk : ∀ (es : List DictEntry) (vs : List (Key × Value)), Pairs (mixKind X.prog X.w) es vs → ReadsAll s.heap (es.map (·.key)) ((vs.map (·.1)).map keyP) [] ∧ es.map (·.val) = vs.map (·.2) := fun es => by
        induction es with
        | nil => intro vs p; cases p; exact ⟨.nil, rfl⟩
        | cons e es ih =>
          intro vs p
          cases p with
          | cons he hv ht =>
            obtain ⟨i1, i2⟩ := ih _ ht
            refine ⟨?_, by rw [List.map_cons, List.map_cons, i2, hv]⟩
            rcases keyIs_shape (show keyIs _ _ = true from he) with ⟨i, t, q, q2⟩ | ⟨x, t, q, q2⟩
            · rw [List.map_cons, List.map_cons, List.map_cons, q, q2]
              exact ReadsAll.cons (as := []) (Reads.int i t) i1
            · rw [List.map_cons, List.map_cons, List.map_cons, q, q2]
              exact ReadsAll.cons (as := []) (Reads.str x t) i1
      obtain ⟨p1, p2⟩ := pk _ _ hpr
      obtain ⟨bs, hr, hf⟩ := Dq.readsK I kvs _ _ hp e2
      refine ⟨_, Reads.dict (as := []) (bs := bs) ho hc.1 hd (by rw [hk, ← e1]; exact p1) (by rw [p2]; exact hr), fun z w => ?_⟩
      have z : lfreeK kvs = true := by simpa only [lfree] using z
      simp only [List.cons_append, List.nil_append, List.mem_cons] at w
      rcases w with w | w
      · rw [← w] at hsm; simp at hsm
      · exact hf z w
theorem Dq.readsK {pins : List (Addr × Obj)} {σ : List (Option V)} {H : Hp} {s : Shared} (I : Inv X pins σ H s) : ∀ (kvs : List (PyData × PyData)) (vs : List V) (us : List Value), Paired (Dq X.K H) vs (kvs.map (·.2)) → Vals vs us → ∃ as, ReadsAll s.heap us (kvs.map (·.2)) as ∧ (lfreeK kvs = true → ¬ sysModules ∈ as)
  | [], _, _, h, r => by
    cases h
    cases r
    exact ⟨_, ReadsAll.nil, fun _ z => nomatch z⟩
  | (k, d) :: kvs, _, _, h, r => by
    cases h with
    | cons h1 h2 =>
      cases r with
      | cons r1 r2 =>
        obtain ⟨as, q1, f1⟩ := Dq.reads I d _ _ h1 r1
        obtain ⟨bs, q2, f2⟩ := Dq.readsK I kvs _ _ h2 r2
        refine ⟨_, ReadsAll.cons q1 q2, fun z w => ?_⟩
        simp only [lfreeK, Bool.and_eq_true] at z
        rcases List.mem_append.mp w with w | w
        · exact f1 z.1 w
        · exact f2 z.2 w
theorem Dq.readsAll {pins : List (Addr × Obj)} {σ : List (Option V)} {H : Hp} {s : Shared} (I : Inv X pins σ H s) : ∀ (ds : List PyData) (vs : List V) (us : List Value), Paired (Dq X.K H) vs ds → Vals vs us → ∃ as, ReadsAll s.heap us ds as ∧ (lfrees ds = true → ¬ sysModules ∈ as)
  | [], _, _, h, r => by
    cases h
    cases r
    exact ⟨_, ReadsAll.nil, fun _ z => nomatch z⟩
  | d :: ds, _, _, h, r => by
    cases h with
    | cons h1 h2 =>
      cases r with
      | cons r1 r2 =>
        obtain ⟨as, q1, f1⟩ := Dq.reads I d _ _ h1 r1
        obtain ⟨bs, q2, f2⟩ := Dq.readsAll I ds _ _ h2 r2
        refine ⟨_, ReadsAll.cons q1 q2, fun z w => ?_⟩
        simp only [lfrees, Bool.and_eq_true] at z
        rcases List.mem_append.mp w with w | w
        · exact f1 z.1 w
        · exact f2 z.2 w
end
open Classical in
/-- repr -/
theorem repr_ok (hK : X.K = T.K) (hg : X.A.guards = some []) (hu : X.A.units + 70 < cLine) {b : Bool} : CallR X (.builtin "repr") (rCall T (biD b .repr)) := by
  intro pins s σ H xs us Q I r h
  obtain ⟨h, m, ds, Wx, hr, rl, p⟩ := h
  match ds, rl, p with
  | [d], ⟨v, w, e1, a, e2⟩, p =>
    subst e1
    have e2 : w = [] := e2
    subst e2
    have p : Post T h.length m H (RepV T) Q Wx (okD (reprD h d) h) := p
    unfold reprD at p
    cases z : toP h d with
    | none => rw [z] at p; exact p.elim
    | some y =>
      rw [z] at p
      have p : Post T h.length m H (RepV T) Q Wx (okD (if reprOk y then some (.str y.shown) else none) h) := p
      by_cases c : reprOk y
      case neg => rw [if_neg c] at p; exact p.elim
      rw [if_pos c] at p
      obtain ⟨u, eu, ru⟩ := vals1 r
      subst eu
      have dp := toQ_rep hr a z
      rw [← hK] at dp
      have q : Q (.str y.shown) H := Post.now p hr rfl
      have fin : ∀ h' tk' t, (∀ b o, s.heap.get? b = some o → h'.get? b = some o) → EP X pins σ Q (.str y.shown t) { s with heap := h', toks := tk' } := fun h' tk' t k => ⟨.str _, H, I.kept (t' := tk') k, ⟨t, rfl⟩, q⟩
      have kk : ∀ b o, s.heap.get? b = some o → s.heap.get? b = some o := fun _ _ e => e
      obtain ⟨c1, c2, c3, c4⟩ := c
      obtain ⟨as, rd, sm⟩ := Dq.reads I y v u dp ru
      cases rd with
      | none => exact PySem.P.repr_of_none (by simpa only [PyData.shown] using fin _ _ _ kk)
      | bool b => exact PySem.P.repr_of_bool (by simpa only [PyData.shown] using fin _ _ _ kk)
      | int i t => exact PySem.P.repr_of_int (of_decide_eq_true (by simpa only [PyData.showable] using c1)) (by simpa only [PyData.shown] using fin _ _ _ kk)
      | str x t => exact PySem.P.repr_of_str (by simpa only [PyData.shown] using fin _ _ _ kk) (by simpa only [PyData.shown] using c3)
      | list h1 h2 h3 h4 => exact repr_of_reads' (.list h1 h2 h3 h4) c1 (fun z => sm (c4 z)) hg (by omega) kk (fun h' u tk k => fin h' tk u k) c3
      | tuple h1 h2 h3 h4 => exact repr_of_reads' (.tuple h1 h2 h3 h4) c1 (fun z => sm (c4 z)) hg (by omega) kk (fun h' u tk k => fin h' tk u k) c3
      | dict h1 h2 h3 h4 h5 => exact repr_of_reads' (.dict h1 h2 h3 h4 h5) c1 (fun z => sm (c4 z)) hg (by omega) kk (fun h' u tk k => fin h' tk u k) c3
  | [], _, p => exact p.elim
  | _ :: _ :: _, _, p => exact p.elim
/-- the function of that name, as a value -/
def fnV : Bi → Value
  | .len => .builtin "len"
  | .abs => .builtin "abs"
  | .max => .builtin "max"
  | .min => .builtin "min"
  | .int => .type "int"
  | .list => .type "list"
  | .tuple => .type "tuple"
  | .sum => .builtin "sum"
  | .any => .builtin "any"
  | .all => .builtin "all"
  | .repr => .builtin "repr"
  | .sorted => .builtin "sorted"
/-- one argument that is a list by its values -/
theorem one_arg {f : Value} {b : Bool} {i : Bi} (k : ∀ (pins : List (Addr × Obj)) (s : Shared) (σ : L2.St) (H : Hp) (v : V) (us : List Value) (Q : VK) (h : Hv) (m : Gh) (d : D) (Wx : XK), Inv X pins σ H s → Vals [v] us → HR T m H h → RepV T h.length m H d v →
      Post T h.length m H (RepV T) Q Wx (biD b i [d] h) → wpAny (model X.prog X.w) X.A (call f us) (EP X pins σ Q) X.xe s)
    (k0 : ∀ h, biD b i [] h = .no) (k2 : ∀ h x y r, biD b i (x :: y :: r) h = .no) : CallR X f (rCall T (biD b i)) := by
  intro pins s σ H xs us Q I r h
  obtain ⟨h, m, ds, Wx, hr, rl, p⟩ := h
  match ds, rl, p with
  | [d], ⟨v, w, e1, a, e2⟩, p =>
    subst e1
    have e2 : w = [] := e2
    subst e2
    exact k pins s σ H v us Q h m d Wx I r hr a p
  | [], _, p =>
    rw [k0] at p
    exact p.elim
  | x :: y :: r, _, p =>
    rw [k2] at p
    exact p.elim
theorem bi_ok (hK : X.K = T.K) (i : Bi) (hc0 : i = .repr ∨ X.calm = true) (hg : X.A.guards = some []) (hu : X.A.units + 70 < cLine) (b : Bool) : CallR X (fnV i) (rCall T (biD b i)) := by
  by_cases ir : i = .repr
  · subst ir
    exact repr_ok hK hg hu
  have hc : X.calm = true := hc0.resolve_left ir
  clear ir hc0
  cases i with
  | repr => exact repr_ok hK hg hu
  | len =>
    refine one_arg (fun pins s σ H v us Q h m d Wx I r hr a p => ?_) (fun _ => rfl) (fun _ _ _ _ => rfl)
    have p : Post T h.length m H (RepV T) Q Wx (okD ((lenD h d).map fun n => .int n) h) := p
    unfold lenD at p
    cases zd : dctAt h d with
    | some kd =>
      obtain ⟨ks, ds⟩ := kd
      rw [zd] at p
      obtain ⟨ad, vs, rfl, ⟨kk, e1, l1, h1⟩, l⟩ := dctAt_rep hr a zd
      obtain ⟨u, rfl, ru⟩ : ∃ u, us = [u] ∧ RelV (.ref ad) u := by
        cases r with
        | cons r1 t => cases t; exact ⟨_, rfl, r1⟩
      cases ru
      refine d_len I h1 fun t s' I' => ⟨.int _, H, I', ⟨t, rfl⟩, ?_⟩
      have q := Post.now p hr rfl
      rw [List.length_zip, l1, Nat.min_self]
      rw [← l1, keys_len e1]
      exact q
    | none =>
    rw [zd] at p
    have p : Post T h.length m H (RepV T) Q Wx (okD ((lenL h d).map fun n => .int n) h) := p
    have split : (∃ z, d = .str z) ∨ lenL h d = (asS h d).map (·.length) := by
      cases d <;> first | exact .inr rfl | exact .inl ⟨_, rfl⟩
    rcases split with ⟨z, rfl⟩ | z
    · cases a
      have p : Post T h.length m H (RepV T) Q Wx (okD ((if z.length ≤ sizeLine then some z.length else none).map fun n => .int n) h) := p
      by_cases c : z.length ≤ sizeLine
      · rw [if_pos c] at p
        exact call_len_str pins s σ H _ us Q I r ⟨z, rfl, c, Post.now p hr rfl⟩
      · rw [if_neg c] at p
        exact p.elim
    · rw [z] at p
      cases z1 : asS h d with
      | none => rw [z1] at p; exact p.elim
      | some ds =>
        rw [z1] at p
        obtain ⟨ad, vs, rfl, q1, l1⟩ := asS_rep hr a z1
        rw [← hK] at q1
        refine call_len_seq pins s σ H _ us Q I r ⟨ad, vs, rfl, q1, ?_⟩
        rw [← l1.length]
        exact Post.now p hr rfl
  | abs =>
    refine one_arg (fun pins s σ H v us Q h m d Wx I r hr a p => ?_) (fun _ => rfl) (fun _ x _ _ => by cases x <;> rfl)
    cases d with
    | int i => cases a; exact call_abs pins s σ H _ us Q I r ⟨i, rfl, Post.now p hr rfl⟩
    | _ => exact p.elim
  | int =>
    refine one_arg (fun pins s σ H v us Q h m d Wx I r hr a p => ?_) (fun _ => rfl) (fun _ x _ _ => by cases x <;> rfl)
    cases d with
    | int i => cases a; exact call_int1 pins s σ H _ us Q I r (.inl ⟨i, rfl, Post.now p hr rfl⟩)
    | bl i => cases a; exact call_int1 pins s σ H _ us Q I r (.inr ⟨i, rfl, Post.now p hr rfl⟩)
    | _ => exact p.elim
  | max =>
    intro pins s σ H xs us Q I r h
    obtain ⟨h, m, ds, Wx, hr, rl, p⟩ := h
    match ds, rl, p with
    | [.int i, .int j], ⟨v, w, e1, a, v2, w2, e2, a2, e3⟩, p =>
      subst e1 e2
      have e3 : w2 = [] := e3
      subst e3
      cases a
      cases a2
      exact call_max2 hc pins s σ H _ us Q I r ⟨i, j, rfl, Post.now p hr rfl⟩
    | [], _, p => exact p.elim
    | [d], _, p => cases d <;> exact p.elim
    | d :: e :: _ :: _, _, p => cases d <;> cases e <;> exact p.elim
  | min =>
    intro pins s σ H xs us Q I r h
    obtain ⟨h, m, ds, Wx, hr, rl, p⟩ := h
    match ds, rl, p with
    | [.int i, .int j], ⟨v, w, e1, a, v2, w2, e2, a2, e3⟩, p =>
      subst e1 e2
      have e3 : w2 = [] := e3
      subst e3
      cases a
      cases a2
      exact call_min2 hc pins s σ H _ us Q I r ⟨i, j, rfl, Post.now p hr rfl⟩
    | [], _, p => exact p.elim
    | [d], _, p => cases d <;> exact p.elim
    | d :: e :: _ :: _, _, p => cases d <;> cases e <;> exact p.elim
  | list =>
    refine one_arg (fun pins s σ H v us Q h m d Wx I r hr a p => ?_) (fun _ => rfl) (fun _ _ _ _ => rfl)
    have p : Post T h.length m H (RepV T) Q Wx (mkLo b h (asS h d)) := p
    cases z1 : asS h d with
    | none => rw [z1] at p; exact p.elim
    | some ds =>
      rw [z1] at p
      obtain ⟨ad, vs, rfl, q1, l1⟩ := asS_rep hr a z1
      rw [← hK] at q1
      exact call_list_of pins s σ H _ us Q I r ⟨ad, vs, rfl, q1, fun q hq => post_mkL (b := b) p hr l1 hq⟩
  | tuple =>
    refine one_arg (fun pins s σ H v us Q h m d Wx I r hr a p => ?_) (fun _ => rfl) (fun _ _ _ _ => rfl)
    have p : Post T h.length m H (RepV T) Q Wx (okD ((asS h d).map .tup) h) := p
    cases z1 : asS h d with
    | none => rw [z1] at p; exact p.elim
    | some ds =>
      rw [z1] at p
      have p' : Post T h.length m H (RepV T) Q Wx (.ok (.tup ds) h) := p
      cases d with
      | tup es =>
        cases z1
        obtain ⟨a', vs, rfl, q1, l1⟩ := rep_tup a
        rw [← hK] at q1
        exact call_tuple_of pins s σ H _ us Q I r ⟨a', vs, rfl, .inr ⟨q1, p' m H _ .refl hr a⟩⟩
      | ro es =>
        cases z1
        obtain ⟨a', vs, rfl, q1, l1⟩ := rep_ro a
        rw [← hK] at q1
        exact call_tuple_of pins s σ H _ us Q I r ⟨a', vs, rfl, .inl ⟨q1, fun q hq => post_tup p' hr l1 hq⟩⟩
      | lst es =>
        obtain ⟨a', vs, rfl, q1, l1⟩ := asL_rep hr a (ds := ds) z1
        exact call_tuple_of pins s σ H _ us Q I r ⟨a', vs, rfl, .inl ⟨.of q1, fun q hq => post_tup p' hr l1 hq⟩⟩
      | ref n =>
        obtain ⟨a', vs, rfl, q1, l1⟩ := asL_rep hr a (ds := ds) z1
        exact call_tuple_of pins s σ H _ us Q I r ⟨a', vs, rfl, .inl ⟨.of q1, fun q hq => post_tup p' hr l1 hq⟩⟩
      | _ => cases z1
  | sum =>
    refine one_arg (fun pins s σ H v us Q h m d Wx I r hr a p => ?_) (fun _ => rfl) (fun _ _ _ _ => rfl)
    have p : Post T h.length m H (RepV T) Q Wx (okD (((asL h d).bind intsD).map fun ns => .int ns.sum) h) := p
    cases z1 : asL h d with
    | none => rw [z1] at p; exact p.elim
    | some ds =>
      rw [z1] at p
      have p : Post T h.length m H (RepV T) Q Wx (okD ((intsD ds).map fun ns => .int ns.sum) h) := p
      obtain ⟨ad, vs, rfl, q1, l1⟩ := asL_rep hr a z1
      cases z2 : intsD ds with
      | none => rw [z2] at p; exact p.elim
      | some ns =>
        rw [z2] at p
        have e := ints_rep l1 z2
        subst e
        exact cr_sum hc pins s σ H _ us Q I r ⟨ad, ns, rfl, .of q1, Post.now p hr rfl⟩
  | any =>
    refine one_arg (fun pins s σ H v us Q h m d Wx I r hr a p => ?_) (fun _ => rfl) (fun _ _ _ _ => rfl)
    have p : Post T h.length m H (RepV T) Q Wx (okD (((asS h d).bind trsD).map fun ns => .bl (ns.any id)) h) := p
    cases z1 : asS h d with
    | none => rw [z1] at p; exact p.elim
    | some ds =>
      rw [z1] at p
      have p : Post T h.length m H (RepV T) Q Wx (okD ((trsD ds).map fun ns => .bl (ns.any id)) h) := p
      obtain ⟨ad, vs, rfl, q1, l1⟩ := asS_rep hr a z1
      cases z2 : trsD ds with
      | none => rw [z2] at p; exact p.elim
      | some ns =>
        rw [z2] at p
        rw [← hK] at q1
        rcases q1 with q1 | q1
        · exact cr_anyB hc pins s σ H _ us Q I r ⟨true, ad, vs, ns, rfl, q1, trs_rep l1 z2, Post.now p hr rfl⟩
        · exact cr_anyB hc pins s σ H _ us Q I r ⟨false, ad, vs, ns, rfl, q1, trs_rep l1 z2, Post.now p hr rfl⟩
  | all =>
    refine one_arg (fun pins s σ H v us Q h m d Wx I r hr a p => ?_) (fun _ => rfl) (fun _ _ _ _ => rfl)
    have p : Post T h.length m H (RepV T) Q Wx (okD (((asS h d).bind trsD).map fun ns => .bl (ns.all id)) h) := p
    cases z1 : asS h d with
    | none => rw [z1] at p; exact p.elim
    | some ds =>
      rw [z1] at p
      have p : Post T h.length m H (RepV T) Q Wx (okD ((trsD ds).map fun ns => .bl (ns.all id)) h) := p
      obtain ⟨ad, vs, rfl, q1, l1⟩ := asS_rep hr a z1
      cases z2 : trsD ds with
      | none => rw [z2] at p; exact p.elim
      | some ns =>
        rw [z2] at p
        rw [← hK] at q1
        rcases q1 with q1 | q1
        · exact cr_allB hc pins s σ H _ us Q I r ⟨true, ad, vs, ns, rfl, q1, trs_rep l1 z2, Post.now p hr rfl⟩
        · exact cr_allB hc pins s σ H _ us Q I r ⟨false, ad, vs, ns, rfl, q1, trs_rep l1 z2, Post.now p hr rfl⟩
  | sorted =>
    refine one_arg (fun pins s σ H v us Q h m d Wx I r hr a p => ?_) (fun _ => rfl) (fun _ _ _ _ => rfl)
    have p : Post T h.length m H (RepV T) Q Wx (mkLo b h (((asL h d).bind intsD).bind fun ns => some ((sortI ns).map .int))) := p
    cases z1 : asL h d with
    | none => rw [z1] at p; exact p.elim
    | some ds =>
      rw [z1] at p
      have p : Post T h.length m H (RepV T) Q Wx (mkLo b h ((intsD ds).bind fun ns => some ((sortI ns).map .int))) := p
      obtain ⟨ad, vs, rfl, q1, l1⟩ := asL_rep hr a z1
      cases z2 : intsD ds with
      | none => rw [z2] at p; exact p.elim
      | some ns =>
        rw [z2] at p
        have p : Post T h.length m H (RepV T) Q Wx (mkL b ((sortI ns).map .int) h) := p
        have e := ints_rep l1 z2
        subst e
        refine cr_sortedI pins s σ H _ us Q I r ⟨ad, ns, rfl, .of q1, fun ns' q pm rise hq => ?_⟩
        have e := sort_one (pm.trans (sortI_perm ns).symm) rise (sortI_rise ns)
        subst e
        exact post_mkL p hr (rep_ints _) hq
end
end Hr
set_option maxHeartbeats 1000000
/-! A def's promise where no repr is under way. -/
namespace Hr
open PySem PySem.Spec PyProof.Rows L2
/-- called where no repr is under way, with room for k calls, it keeps sp -/
structure FnG (P : Program) (w : World) (K : PySem.W.Frag) (mg : Str → Option Value) (base : Heap) (CX : CXT) (k : Nat) (f : Addr) (fd : FuncData) (ps : List Str) (sp : Sp) : Prop where
  len : ∀ vs H Q E, sp vs H Q E → vs.length = ps.length
  run : ∀ (A : Around) (outer : List Env) (s : Shared) (H : Hp) (args : Args) (us : List Value) (vs : List V) (Q : VK) (E : XK), Room k A → A.guards = some [] → Env0 P w K mg base A outer s H → BindsTo s fd args (ps.zip us) → Vals vs us →
    sp vs H Q E → codeAny (model P w) A (.call (.ref f) args) (CR CX outer P w H s Q E) s
section
variable {P : Program} {w : World} {K : PySem.W.Frag} {mg : Str → Option Value} {base : Heap} {CX : CXT} {k : Nat} {f : Addr} {fd : FuncData} {ps : List Str} {sp : Sp}
theorem FnG.mono {j : Nat} (F : FnG P w K mg base CX j f fd ps sp) (h : j ≤ k) : FnG P w K mg base CX k f fd ps sp :=
  ⟨F.len, fun A outer s H args us vs Q E hr => F.run A outer s H args us vs Q E (hr.mono h)⟩
theorem FnG.imp {sp' : Sp} (F : FnG P w K mg base CX k f fd ps sp) (h : ∀ vs H Q E, sp' vs H Q E → sp vs H Q E) : FnG P w K mg base CX k f fd ps sp' :=
  ⟨fun vs H Q E q => F.len vs H Q E (h _ _ _ _ q), fun A outer s H args us vs Q E hr hg e b r q => F.run A outer s H args us vs Q E hr hg e b r (h _ _ _ _ q)⟩
/-- by its body -/
theorem fnG_of {x qual : Str} {params : Arguments} {body : List Stmt} {scope : Scope} {dvs : List V} {kws : List (Str × V)} {N : List Str} (F : FunD K x qual params body scope dvs kws f fd) (S : FnScope N ps scope)
    (len : ∀ vs H Q E, sp vs H Q E → vs.length = ps.length)
    (hb : ∀ (cdv : Value) (A : Around) (outer : List Env) (s : Shared) (H : Hp) (vs : List V) (Q : VK) (E : XK), Room k (A.deeper (envOfC qual scope s.heap.objs.size f cdv)) → A.guards = some [] → sp vs H Q E →
      ∃ t, PSs (cxOf CX P w K mg base N qual scope f cdv A outer s H E) body t ∧ t { nx := fun _ H' => Q .non H', rt := Q } (start N vs) H) : FnG P w K mg base CX (k + 1) f fd ps sp := by
  obtain ⟨oc, od, dV, kV, doc, pm, an, cdv, ct, osl, rfl, lk, hcd, _, _⟩ := F.ex
  refine ⟨len, fun A outer s H args us vs Q E room hg e0 hbind rel hsp => ?_⟩
  have kin : K.In s.heap := e0.mod.kin.keeps fun b o e => (e0.bs b o e).1
  have nolim : s.heap.NoLimit := e0.mod.nolimit.keeps fun b o e => (e0.bs b o e).1
  have kinds : ∀ y ∈ ps.zip us, scope.names.lookup y.1 = some .local ∨ (scope.names.lookup y.1 = some .cell ∧ ((cellsFrom (s.heap.objs.size + 1) scope.names []).lookup y.1).isSome = true) := fun y hy =>
    (S.par y.1 (List.of_mem_zip hy).1).imp id fun c => ⟨c, PySem.W.cellsFrom_some _ _ _ (.inl c)⟩
  refine codeAny_call_function room.depth (kin f _ lk) rfl S.co S.gen rfl (PySem.W.codeRec_of kin hcd) (hbind _ _ _ _ (wpAny_newFunctionEnv_cells S.kind kinds fun env ee s1 inC => ?_))
  subst ee
  refine ⟨nolim.keeps inC.toInCall.keep, codeAny_func ?_⟩
  obtain ⟨t, dt, ht⟩ := hb cdv A outer s H vs Q E (room.deeper _) hg hsp
  refine wpAny_mono (dt.run [] s1 (start N vs) H _ (inv_start S room.hd e0 (len _ _ _ _ hsp) rel inC) ht) (fun fl s2 q => ?_) fun _ _ q => q
  cases fl with
  | ret u => obtain ⟨v, σ2, H2, J, r, q⟩ := q; exact ⟨v, H2, J.os, J.bare, J.base, J.hok, r, q⟩
  | next => obtain ⟨σ2, H2, J, q⟩ := q; exact ⟨.non, H2, J.os, J.bare, J.base, J.hok, rfl, q⟩
  | brk => obtain ⟨_, _, _, q⟩ := q; exact q.elim
  | cont => obtain ⟨_, _, _, q⟩ := q; exact q.elim
end
section
variable {X : Cx} {CX : CXT} {k : Nat} {f : Addr} {fd : FuncData} {ps : List Str} {sp : Sp} {dvs : List V} {ds : List Value} {E : L2.St → XK}
theorem run_fnG {pins : List (Addr × Obj)} {σ : L2.St} {H : Hp} {s : Shared} {Q : VK} {us : List Value} {vs : List V} (F : FnG X.prog X.w X.K X.mg X.base CX k f fd ps sp) (room : Room k X.A) (hg : X.A.guards = some [])
    (hb : Binds X.K fd ps ds) (hd : Vals dvs ds) (hx : PassesAt CX X σ (E σ)) (I : Inv X pins σ H s) (r : Vals vs us) (h : sp (vs ++ dvs) H Q (E σ)) : wpAny (model X.prog X.w) X.A (call (.ref f) us) (EP X pins σ Q) X.xe s := by
  have all : Vals (vs ++ dvs) (us ++ ds) := r.append hd
  have hl : (us ++ ds).length = ps.length := all.length.symm.trans (F.len _ _ _ _ h)
  refine wpAny_call (codeAny_mono (F.run X.A X.stack s H ⟨us, []⟩ (us ++ ds) (vs ++ dvs) Q (E σ) room hg I.env0 (hb s us I.kIn hl) all h) fun res s' q => ?_)
  match res, q with
  | .error e, q => exact hx pins H s e s' I q
  | .ok (.ret u), q => exact I.after q
theorem pe_callG {x : Str} {p pos : Pos} {es : List Expr} {t : TA} (F : FnG X.prog X.w X.K X.mg X.base CX k f fd ps sp) (room : Room k X.A) (hgd : X.A.guards = some []) (hg : Gl X x) (hm : X.mg x = some (.ref f)) (hk : PySem.W.keepIn X.K (.ref f) = true)
    (hb : Binds X.K fd ps ds) (hd : Vals dvs ds) (hx : ∀ σ, PassesAt CX X σ (E σ)) {e : Expr} (ha : PA X (e :: es) t) (hdb : (x == ("__debug__" : Str)) = false) (hs : starEach (e :: es) X.env = (false, eval e X.env) :: starEach es X.env)
    (hpl : (backTo pos (starEach es X.env)).any (·.1) = false) : PE X (.Call (.Name x p) (e :: es) [] pos) (tCallSD sp dvs E t) := by
  refine ⟨fun pins s σ H Q I h => wpAny_Call_Name_kw (ld_glob I hg hm (PySem.W.callWith_K (h₀ := X.base) I.ok.mod.kin hk (thn (ha.run pos pins s σ H _ I h) fun us s1 q => ?_) hs hpl) hdb)⟩
  obtain ⟨vs, H1, I1, r, q⟩ := q
  exact ⟨I1.kIn, run_fnG F room hgd hb hd (hx σ) I1 r q⟩
theorem pe_callG0 {x : Str} {p pos : Pos} (F : FnG X.prog X.w X.K X.mg X.base CX k f fd ps sp) (room : Room k X.A) (hgd : X.A.guards = some []) (hg : Gl X x) (hm : X.mg x = some (.ref f)) (hk : PySem.W.keepIn X.K (.ref f) = true)
    (hb : Binds X.K fd ps ds) (hd : Vals dvs ds) (hx : ∀ σ, PassesAt CX X σ (E σ)) (hdb : (x == ("__debug__" : Str)) = false) : PE X (.Call (.Name x p) [] [] pos) (tCallSD sp dvs E tNil) :=
  ⟨fun pins s σ H Q I h => wpAny_Call_Name_kw (ld_glob I hg hm (PySem.W.callWith_K0 I.kIn hk (run_fnG (us := []) F room hgd hb hd (hx σ) I .nil h)) hdb)⟩
end
/-! ### methods, instances made -/
def tMethSD (C : Addr) (m : Str) (sp : Sp) (dvs : List V) (E : L2.St → XK) (ta : TE) (t : TA) : TE := fun σ H Q => ta σ H fun x H1 => ∃ a dx fs, x = .ref a ∧ H1 a = some (.ins C dx fs) ∧ fs.lookup m = none ∧
  t σ H1 fun vs H2 => sp (x :: (vs ++ dvs)) H2 Q (E σ)
def tMakeSD (C : Addr) (sp : Sp) (dvs : List V) (E : L2.St → XK) (t : TA) : TE := fun σ H Q => t σ H fun vs H1 => ∀ x dx, H1 x = none → H1 dx = none → dx ≠ x →
  sp (.ref x :: (vs ++ dvs)) (upd (upd H1 dx (.own x)) x (.ins C dx [])) (fun v H2 => v = .non ∧ Q (.ref x) H2) (E σ)
section
variable {X : Cx} {CX : CXT} {k : Nat} {f C : Addr} {fd : FuncData} {ps : List Str} {sp : Sp} {dvs : List V} {ds : List Value} {E : L2.St → XK} {x m : Str} {p pos apos : Pos} {e o : Expr} {es : List Expr} {ta : TE} {t : TA}
theorem ev_meth {env : Env} (hb : attributeBase o m env (eval o env) = eval o env) (hline : (apos.endLine == pos.line) = true) (hform : methodCallForm (es.length + 0) (backTo pos (starEach es env)) (backToKw pos (keywordEach [] env)) = true) : eval (.Call (.Attribute o m apos) es [] pos) env = (do
      let ov ← eval o env
      standAt apos.atName
      let (f, first) ← holding [ov] (getMethod ov m (do return (← importBound o env).getD true))
      callWith pos f first (backTo pos (starEach es env)) (backToKw pos (keywordEach [] env))) := by
  simp only [eval, hb]
  show (eval o env >>= fun ov => standAt apos.atName >>= fun _ => methodCall o m apos pos env ov (es.length + 0) (backTo pos (starEach es env)) (backToKw pos (keywordEach [] env))) = _
  unfold methodCall calleeOf methodCallPos
  rw [hform]
  simp only [hline, Bool.not_true, Bool.false_or, if_true]
  rfl
theorem pe_methG {pl : Sem Bool} (he : PE X o ta) (c : Cls X.K C) (hm : Meth X.K C m f) (F : FnG X.prog X.w X.K X.mg X.base CX k f fd ps sp) (room : Room k X.A) (hgd : X.A.guards = some []) (hb : Binds X.K fd ps ds) (hd : Vals dvs ds) (hx : ∀ σ, PassesAt CX X σ (E σ)) (ha : PA X (e :: es) t)
    (hst : starEach (e :: es) X.env = (false, eval e X.env) :: starEach es X.env) (hpl : (backTo pos (starEach es X.env)).any (·.1) = false)
    (ht : eval (.Call (.Attribute o m apos) (e :: es) [] pos) X.env = (do
      let ov ← eval o X.env
      standAt apos.atName
      let (f, first) ← holding [ov] (getMethod ov m pl)
      callWith pos f first (backTo pos (starEach (e :: es) X.env)) (backToKw pos (keywordEach [] X.env)))) :
    PE X (.Call (.Attribute o m apos) (e :: es) [] pos) (tMethSD C m sp dvs E ta t) := by
  refine ⟨fun pins s σ H Q I h => ?_⟩
  refine PySem.W.methodCall_KW (pl := pl) (thn (he.run pins s σ H _ I h) fun u s1 ⟨x, H1, I1, rx, a, dx, fs, ex, ea, l, q⟩ => ?_) ht
  subst ex
  obtain rfl : u = Value.ref a := rx
  refine getmeth_ok I1 ea c hm l ?_
  refine PySem.W.callWith_K (first := [.ref a]) (h₀ := X.base) I.ok.mod.kin hm.kp (thn (ha.run pos pins s1 σ H1 _ I1 q) fun us s2 ⟨vs, H2, I2, r, q2⟩ => ⟨I2.kIn, ?_⟩) hst hpl
  exact run_fnG (us := .ref a :: us) (vs := .ref a :: vs) F room hgd hb hd (hx σ) I2 (.cons rfl r) q2
theorem pe_methG0 {pl : Sem Bool} (he : PE X o ta) (c : Cls X.K C) (hm : Meth X.K C m f) (F : FnG X.prog X.w X.K X.mg X.base CX k f fd ps sp) (room : Room k X.A) (hgd : X.A.guards = some []) (hb : Binds X.K fd ps ds) (hd : Vals dvs ds) (hx : ∀ σ, PassesAt CX X σ (E σ))
    (ht : eval (.Call (.Attribute o m apos) [] [] pos) X.env = (do
      let ov ← eval o X.env
      standAt apos.atName
      let (f, first) ← holding [ov] (getMethod ov m pl)
      callWith pos f first (backTo pos (starEach [] X.env)) (backToKw pos (keywordEach [] X.env)))) :
    PE X (.Call (.Attribute o m apos) [] [] pos) (tMethSD C m sp dvs E ta tNil) := by
  refine ⟨fun pins s σ H Q I h => ?_⟩
  refine PySem.W.methodCall_KW (pl := pl) (thn (he.run pins s σ H _ I h) fun u s1 ⟨x, H1, I1, rx, a, dx, fs, ex, ea, l, q⟩ => ?_) ht
  subst ex
  obtain rfl : u = Value.ref a := rx
  refine getmeth_ok I1 ea c hm l ?_
  exact PySem.W.callWith_K0 (first := [.ref a]) I1.kIn hm.kp (run_fnG (us := [.ref a]) (vs := [.ref a]) F room hgd hb hd (hx σ) I1 (.cons rfl .nil) q)
theorem run_makeG {pins : List (Addr × Obj)} {σ : L2.St} {H : Hp} {s : Shared} {Q : VK} {us : List Value} {vs : List V} (M : Mk X.K C f) (F : FnG X.prog X.w X.K X.mg X.base CX k f fd ps sp) (hr : Room (k + 1) X.A) (hgd : X.A.guards = some []) (hb : Binds X.K fd ps ds) (hd : Vals dvs ds)
    (hx : PassesAt CX X σ (E σ)) (I : Inv X pins σ H s) (r : Vals vs us)
    (h : ∀ x dx, H x = none → H dx = none → dx ≠ x → sp (.ref x :: (vs ++ dvs)) (upd (upd H dx (.own x)) x (.ins C dx [])) (fun v H2 => v = .non ∧ Q (.ref x) H2) (E σ)) :
    wpAny (model X.prog X.w) X.A (call (.ref C) us) (EP X pins σ Q) X.xe s := by
  have hq := h (s.heap.objs.size + 1) s.heap.objs.size (I.hok.fresh (Nat.le_succ _)) (I.hok.fresh (Nat.le_refl _)) (Nat.ne_of_lt (Nat.lt_succ_self _))
  have I2 := Inv.made (C := C) I
  have r2 : Vals (V.ref (s.heap.objs.size + 1) :: (vs ++ dvs)) (Value.ref (s.heap.objs.size + 1) :: (us ++ ds)) := .cons rfl (r.append hd)
  have hl : (Value.ref (s.heap.objs.size + 1) :: us ++ ds).length = ps.length := by
    have e := r2.length
    rw [F.len _ _ _ _ hq] at e
    exact e.symm
  refine wpAny_call (make_map (f := f) I.kIn M.makes M.init (beq_iff_eq.mp M.fn) (codeAny_mono (F.run _ X.stack _ _ ⟨Value.ref (s.heap.objs.size + 1) :: us, []⟩ (Value.ref (s.heap.objs.size + 1) :: (us ++ ds)) _ _ (E σ) (hr.make C us []) hgd
    (I2.env0.make C us []) (hb _ (Value.ref (s.heap.objs.size + 1) :: us) I2.kIn hl) r2 hq) fun r s' hq' => ?_))
  match r, hq' with
  | .error e, hq' => exact hx pins _ _ e s' I2 hq'
  | .ok (.ret u), hq' =>
    obtain ⟨v, H', I3, rv, ev, q3⟩ := I2.after hq'
    subst ev
    exact ⟨rv, ⟨V.ref (s.heap.objs.size + 1), H', I3, rfl, q3⟩⟩
theorem pe_makeG (M : Mk X.K C f) (F : FnG X.prog X.w X.K X.mg X.base CX k f fd ps sp) (hr : Room (k + 1) X.A) (hgd : X.A.guards = some []) (hg : Gl X x) (hm : X.mg x = some (.ref C)) (hb : Binds X.K fd ps ds) (hd : Vals dvs ds) (hx : ∀ σ, PassesAt CX X σ (E σ))
    (ha : PA X (e :: es) t) (hdb : (x == ("__debug__" : Str)) = false) (he : starEach (e :: es) X.env = (false, eval e X.env) :: starEach es X.env) (hpl : (backTo pos (starEach es X.env)).any (·.1) = false) :
    PE X (.Call (.Name x p) (e :: es) [] pos) (tMakeSD C sp dvs E t) := by
  refine ⟨fun pins s σ H Q I h => ?_⟩
  refine wpAny_Call_Name_kw (ld_glob I hg hm ?_ hdb)
  refine PySem.W.callWith_K (h₀ := X.base) I.ok.mod.kin M.kp (thn (ha.run pos pins s σ H _ I h) fun us s1 ⟨vs, H1, I1, r, q⟩ => ⟨I1.kIn, ?_⟩) he hpl
  exact run_makeG M F hr hgd hb hd (hx σ) I1 r q
theorem pe_makeG0 (M : Mk X.K C f) (F : FnG X.prog X.w X.K X.mg X.base CX k f fd ps sp) (hr : Room (k + 1) X.A) (hgd : X.A.guards = some []) (hg : Gl X x) (hm : X.mg x = some (.ref C)) (hb : Binds X.K fd ps ds) (hd : Vals dvs ds) (hx : ∀ σ, PassesAt CX X σ (E σ))
    (hdb : (x == ("__debug__" : Str)) = false) : PE X (.Call (.Name x p) [] [] pos) (tMakeSD C sp dvs E tNil) := by
  refine ⟨fun pins s σ H Q I h => ?_⟩
  refine wpAny_Call_Name_kw (ld_glob I hg hm ?_ hdb)
  exact PySem.W.callWith_K0 I.kIn M.kp (run_makeG (us := []) M F hr hgd hb hd (hx σ) I .nil h)
end
/-! ### the law's own call -/
section
variable {P : Program} {w : World} {K : PySem.W.Frag} {mg mb : Str → Option Value} {CX : CXT} {k : Nat} {fa a : Addr} {fd : FuncData} {x : Str} {sp : Sp} {s1 : Shared} {vs : List Value} {ns : List Int}
/-- the script alone is tracked, or nothing -/
def scriptH (a : Addr) (vs : List Value) (ns : List Int) (inK : Bool) : Hp := fun b => if inK = false ∧ b = a then some (.frz { cls := .type "list", data := .seq vs.toArray } (.lst (ns.map V.int))) else none
theorem scriptH_some {inK : Bool} {b : Addr} {o : HO} (e : scriptH a vs ns inK b = some o) : inK = false ∧ b = a ∧ o = .frz { cls := .type "list", data := .seq vs.toArray } (.lst (ns.map V.int)) := by
  unfold scriptH at e
  split at e
  · rename_i c
    cases e
    exact ⟨c.1, c.2, rfl⟩
  · cases e
theorem law_entry (KX : K.In s1.heap) (hns : s1.heap.Ns mainGlobals mg) (hb : s1.heap.Ns builtinsNs mb) (hbb : ∀ x : Str, x ≠ "__name__" → mb x = bootBuiltins x) (hlim : s1.heap.NoLimit) (hg : s1.gens = #[])
    (ha : s1.heap.get? a = some { cls := .type "list", data := .seq vs.toArray }) (hi : IntsAre vs ns) (hl : ns.length ≤ sizeLine) (hr : Room k callerA)
    (F : ∀ base : Heap, K.In base → base.Ns mainGlobals mg → FnG P w K mg base CX k fa fd [x] sp) (hbind : ∀ (s : Shared) (u : Value), BindsTo s fd ⟨[u], []⟩ [(x, u)])
    (hsp : ∀ H : Hp, Only H → SqL K H a (ns.map V.int) → sp [.ref a] H (fun v _ => v = .bl true) fun _ _ _ => False)
    (hCX : ∀ H e s', CX [] H s1 (fun _ _ _ => False) e s' → False) :
    codeAny (model P w) callerA (.call (.ref fa) ⟨[.ref a], []⟩) (fun r s' => r = .ok (.ret (.bool true)) ∧ OldK s1.heap s'.heap ∧ s'.os = s1.os ∧ AllBare s'.gens) s1 := by
  have rel : Vals (ns.map V.int) vs := vals_ints hi
  obtain ⟨inK, hK⟩ : ∃ b : Bool, b = (K.lookup a).isSome := ⟨_, rfl⟩
  obtain ⟨H, eH⟩ : ∃ H, H = scriptH a vs ns inK := ⟨_, rfl⟩
  have only : Only H := fun b => by
    cases q : H b with
    | none => exact .inl rfl
    | some o =>
      rw [eH] at q
      obtain ⟨_, _, e⟩ := scriptH_some q
      exact .inr ⟨_, _, congrArg some e⟩
  have hok : HOk P w H s1.heap := fun b o q => by
    rw [eH] at q
    obtain ⟨_, e1, e2⟩ := scriptH_some q
    subst e1 e2
    exact ⟨ha, by rw [List.length_map]; exact hl, vs, _, rel, ha⟩
  have sq : SqL K H a (ns.map V.int) := by
    cases c : K.lookup a with
    | none =>
      have z : inK = false := by rw [hK, c]; rfl
      exact .inl (.inr ⟨_, by rw [eH]; exact if_pos ⟨z, rfl⟩⟩)
    | some o =>
      have e := KX a o c
      rw [ha] at e
      cases e
      refine .inr ⟨_, vs.toArray, _, c, rfl, rfl, rfl, ?_, by simpa using rel⟩
      rw [List.size_toArray, ← rel.length, List.length_map]
      exact hl
  -- what is not the script stands in the base
  have inBase : ∀ {b : Addr} {o : Obj}, s1.heap.get? b = some o → (H b ≠ none → False) → (hidT s1.heap H).get? b = some o := fun {b o} e n => hidT_get e (by
    cases q : H b with
    | none => rfl
    | some u => exact (n (by rw [q]; exact Option.some_ne_none _)).elim)
  have atA : ∀ {b : Addr}, H b ≠ none → inK = false ∧ b = a := fun {b} n => by
    cases q : H b with
    | none => exact (n q).elim
    | some u =>
      rw [eH] at q
      obtain ⟨e0, e1, _⟩ := scriptH_some q
      exact ⟨e0, e1⟩
  have ns_base : ∀ {b : Addr} {m : Str → Option Value}, s1.heap.Ns b m → (hidT s1.heap H).Ns b m := fun {b m} q => by
    obtain ⟨o, es, ep, e, d, r⟩ := q
    refine ⟨o, es, ep, inBase e (fun n => ?_), d, r⟩
    rw [(atA n).2, ha] at e
    cases e
    exact nomatch (show Data.seq vs.toArray _ = Data.dict es ep from d)
  have kb : K.In (hidT s1.heap H) := fun b o e => inBase (KX b o e) fun n => by
    obtain ⟨e0, e1⟩ := atA n
    rw [e1] at e
    rw [hK, e] at e0
    cases e0
  have md : Mod K mg (hidT s1.heap H) := ⟨kb, ns_base hns, ⟨mb, ns_base hb, hbb⟩, let ⟨mc, h1, h2⟩ := hlim; ⟨mc, ns_base h1, h2⟩⟩
  have e0 : Env0 P w K mg (hidT s1.heap H) callerA [] s1 H :=
    { frames := rfl, mod := md, bs := fun b o e => of_hidT e, bsz := Nat.le_of_eq (hidT_size _ _), funs := trivial, frf := fun b hb => (List.not_mem_nil hb).elim, hok := hok, bare := .of_eq hg }
  refine codeAny_mono ((F _ kb (ns_base hns)).run callerA [] s1 H ⟨[.ref a], []⟩ [.ref a] [.ref a] _ _ hr rfl e0 (hbind s1 (.ref a)) (.cons rfl .nil) (hsp H only sq)) fun res s' q => ?_
  match res, q with
  | .error e, q => exact (hCX H e s' q).elim
  | .ok (.ret u), q =>
    obtain ⟨v, H', os, bare, un, hok', rv, q⟩ := q
    have q : v = .bl true := q
    subst q
    have rv : u = Value.bool true := rv
    subst rv
    refine ⟨rfl, .of_keep fun b o e => ?_, os, bare⟩
    rcases only b with z | ⟨ob, xs, z⟩
    · exact un.keep b o e z (List.not_mem_nil ·) (List.not_mem_nil ·)
    · have e1 := (hok b _ z).1
      have e2 := (hok' b _ (un.frzs b ob _ z)).1
      rw [e] at e1
      rw [e2, ← e1]
/-- from the head to the law's promise -/
theorem walk_ofG {l : PySem.W.OpenLaw} {n k : Nat} {q : Program} {loose : List Str} {XP : (Str → Option Value) → Heap → Prop} {YP : World → Heap → Prop} {d : DefRec} {CX : World → CXT} {x : Str}
    (hn : l.most = some n) (hn2 : n ≤ sizeLine) (hdf : d.params.defaults = []) (hr : Room k callerA)
    (F : ∀ (w : World) (mg : Str → Option Value) (fa : Addr) (h : Heap), YP w h → h.Ns mainGlobals mg → mg d.name = some (.ref fa) →
      ∃ (K : PySem.W.Frag) (fd : FuncData) (sp : Sp), K.In h ∧ (∀ (s : Shared) (u : Value), BindsTo s fd ⟨[u], []⟩ [(x, u)]) ∧
        (∀ (H : Hp) (a : Addr) (ns : List Int), ns.length ≤ n → Only H → SqL K H a (ns.map V.int) → sp [.ref a] H (fun v _ => v = .bl true) fun _ _ _ => False) ∧
        ∀ base : Heap, K.In base → base.Ns mainGlobals mg → FnG l.prog w K mg base (CX w) k fa fd [x] sp)
    (hCX : ∀ (w : World) (H : Hp) (s : Shared) (e : Value) (s' : Shared), CX w [] H s (fun _ _ _ => False) e s' → False) :
    PySem.W.WalkO q loose XP YP l.row.toRowW d [] (fun f vs => PySem.call f vs) := by
  refine Att.attach_call hn hdf fun w s0 s1 mg mb fa o pm cd doc a vs ns G Y ho hd hcd hmg hobj hints hlen hg => ?_
  obtain ⟨K, fd, sp, KX, hb, hsp, hF⟩ := F w mg fa _ Y G.T.g hmg
  exact law_entry KX G.T.g G.T.b G.T.builtins G.T.nolimit hg hobj hints (Nat.le_trans hlen hn2) hr hF hb (fun H hO hS => hsp H a ns hlen hO hS) fun H e s' => hCX w H s1 e s'
end
end Hr
set_option maxHeartbeats 1000000
/-! isinstance, methods, stores, targets, what loops walk, by values. -/
namespace Hr
open PySem PySem.Spec PyProof.Rows L2
section
variable {T : Tb} {N : Nat} {m : Gh} {H : Hp} {h : Hv} {d : D} {ds : List D} {v : V}
theorem tyD_rep (hr : HR T m H h) {t : String} (r : RepV T h.length m H d v) (e : tyD h d = some t) : TyX T.K H v (.type t) := by
  cases d with
  | non => cases r; cases e; exact .base .non
  | bl b => cases r; cases e; exact .base (.bl b)
  | int i => cases r; cases e; exact .base (.int i)
  | str s => cases r; cases e; exact .base (.str s)
  | tup xs =>
    cases e
    obtain ⟨a, vs, rfl, q, l⟩ := r
    rcases q with ⟨q | ⟨o, q⟩, _⟩ | ⟨o, its, n, q, c, _⟩
    · exact .base (.tup q)
    · exact .fTuple q
    · exact .kTuple q c
  | lst xs =>
    cases e
    obtain ⟨a, vs, rfl, q, l⟩ := r
    exact .base (.lst q.1)
  | ro xs =>
    cases e
    obtain ⟨a, vs, rfl, q, l⟩ := r
    rcases q with ⟨q | ⟨o, q⟩, _⟩ | ⟨o, its, n, q, c, _⟩
    · exact .base (.lst q)
    · exact .base (.frz q)
    · exact .kList q c
  | dct ks xs =>
    cases e
    obtain ⟨a, us, rfl, ⟨kk, _, _, q | ⟨o, q⟩⟩, _⟩ := r
    · exact .base (.dK q)
    · exact .fDict q
  | ref n =>
    obtain ⟨hn, rfl⟩ := r
    have e : (match h[n]? with | some (.lst _) => some "list" | some (.dct _ _) => some "dict" | _ => none) = some t := e
    split at e
    · rename_i xs q
      cases e
      obtain ⟨vs, a, _⟩ := hr.lst q
      exact .base (.lst a)
    · rename_i ks vs q
      cases e
      obtain ⟨us, ⟨kk, _, _, q⟩, _⟩ := hr.cell n _ q
      exact .base (.dK q)
    · cases e
theorem isAny_kit {K : PySem.W.Frag} {t : String} : ∀ {ns : List String} {b : Bool}, isAny t (ns.map Cl.ty) = some b → PySem.W.kitAny K (.type t) (ns.map Value.type) = some b
  | [], b, e => by cases e; rfl
  | n :: ns, b, e => by
    have e : ((kitB t n).bind fun c => if c then some true else isAny t (ns.map Cl.ty)) = some b := e
    cases z : kitB t n with
    | none => rw [z] at e; cases e
    | some c =>
      rw [z] at e
      refine kitAny_cons (kit_ty z) (fun q => ?_) fun q => ?_
      · subst q
        exact isAny_kit e
      · subst q
        have e : some true = some b := e
        cases e
        rfl
theorem tyD_list (hr : HR T m H h) (r : RepV T h.length m H d v) (e : tyD h d = some "list") : ∃ a vs, v = .ref a ∧ SqL T.K H a vs := by
  have bad : ∀ s : String, s ≠ "list" → some s = some "list" → False := fun s n e => n (Option.some.inj e)
  cases d with
  | lst xs =>
    obtain ⟨a, vs, rfl, q, l⟩ := rep_lst r
    exact ⟨a, vs, rfl, .of q⟩
  | ro xs =>
    obtain ⟨a, vs, rfl, q, l⟩ := rep_ro r
    exact ⟨a, vs, rfl, q⟩
  | ref n =>
    obtain ⟨hn, rfl⟩ := r
    have e : (match h[n]? with | some (.lst _) => some "list" | some (.dct _ _) => some "dict" | _ => none) = some "list" := e
    split at e
    · rename_i xs q
      obtain ⟨vs, a, _⟩ := hr.lst q
      exact ⟨_, vs, rfl, .of a⟩
    · exact (bad _ (by decide) e).elim
    · cases e
  | _ => exact (bad _ (by decide) e).elim
theorem cellL_rep (hr : HR T m H h) (r : RepV T h.length m H d v) {n : Nat} (e : cellL h d = some (n, ds)) : n < h.length ∧ v = .ref (m n) ∧ ∃ vs, H (m n) = some (.lst vs) ∧ RepL T h.length m H ds vs := by
  cases d with
  | ref k =>
    obtain ⟨hn, rfl⟩ := r
    have e : (match h[k]? with | some (.lst xs) => some (k, xs) | _ => none) = some (n, ds) := e
    split at e
    · rename_i xs q
      cases e
      exact ⟨hn, rfl, hr.lst q⟩
    · cases e
  | _ => cases e
/-! ### stores -/
theorem post_write {Q : V → Hp → Prop} {Wx : XK} {n : Nat} {vs : List V} {e : D} {v : V} (p : Post T h.length m H (RepV T) Q Wx (.ok e (h.set n (.lst ds)))) (hr : HR T m H h) (hn : n < h.length) (r : RepL T h.length m H ds vs) (re : RepV T h.length m H e v) :
    Q v (upd H (m n) (.lst vs)) := by
  have x : Ext h.length m H (h.set n (.lst ds)).length m (upd H (m n) (.lst vs)) := by
    rw [List.length_set]
    exact ext_write hr hn
  exact p m _ _ x (hr_write hr hn r) (RepV.ext x _ _ re)
theorem getElem?_lt {α : Type} {l : List α} {n : Nat} {x : α} (e : l[n]? = some x) : n < l.length := (List.getElem?_eq_some_iff.mp e).1
end
section
variable {X : Cx} {T : Tb}
/-- a method's call by values: the receiver, the arguments -/
def rMt (T : Tb) (f : D → List D → Hv → Rs D) : V → List V → Hp → VK → Prop := fun x xs H Q => ∃ h m d ds Wx, HR T m H h ∧ RepV T h.length m H d x ∧ RepL T h.length m H ds xs ∧ Post T h.length m H (RepV T) Q Wx (f d ds h)
def Mt.id : Mt → String
  | .append => "list.append"
  | .pop => "list.pop"
  | .popAt => "list.pop"
  | .clear => "list.clear"
  | .extend => "list.extend"
def Mt.name : Mt → Str
  | .append => "append"
  | .pop => "pop"
  | .popAt => "pop"
  | .clear => "clear"
  | .extend => "extend"
def Mt.args : Mt → Bool
  | .append => true
  | .pop => false
  | .popAt => true
  | .clear => false
  | .extend => true
theorem mt_ok (t : Mt) : MtR X t.id (rMt T (mtD t)) := by
  intro pins s σ H x xs v us Q I rx rs hh
  obtain ⟨h, m, d, ds, Wx, hr, rd, rl, p⟩ := hh
  unfold mtD at p
  cases c : cellL h d with
  | none => rw [c] at p; exact p.elim
  | some z =>
    obtain ⟨n, ys⟩ := z
    rw [c] at p
    have p : Post T h.length m H (RepV T) Q Wx (setL h n (mtL t ys ds)) := p
    obtain ⟨hn, rfl, ws, e1, l1⟩ := cellL_rep hr rd c
    cases z : mtL t ys ds with
    | none => rw [z] at p; exact p.elim
    | some y =>
      obtain ⟨e, zs⟩ := y
      rw [z] at p
      have p : Post T h.length m H (RepV T) Q Wx (.ok e (h.set n (.lst zs))) := p
      cases t with
      | append =>
        match ds, rl, z with
        | [y], ⟨w, r, e0, a, e2⟩, z =>
          subst e0
          have e2 : r = [] := e2
          subst e2
          have z : (if ys.length < sizeLine then some (D.non, ys ++ [y]) else none) = some (e, zs) := z
          by_cases c2 : ys.length < sizeLine
          · rw [if_pos c2] at z
            cases z
            exact mt_append pins s σ H _ _ v us Q I rx rs ⟨_, ws, w, rfl, rfl, e1, by rw [← l1.length]; exact c2, post_write p hr hn (l1.append (RepL.one a)) rfl⟩
          · rw [if_neg c2] at z
            cases z
        | [], _, z => cases z
        | _ :: _ :: _, _, z => cases z
      | pop =>
        match ds, rl, z with
        | [], e0, z =>
          have e0 : xs = [] := e0
          subst e0
          have z : (ys[ys.length - 1]?).map (fun d => (d, ys.dropLast)) = some (e, zs) := z
          cases c2 : ys[ys.length - 1]? with
          | none => rw [c2] at z; cases z
          | some y =>
            rw [c2] at z
            cases z
            obtain ⟨w, ew, rw'⟩ := l1.get c2
            refine mt_pop pins s σ H _ _ v us Q I rx rs ⟨_, ws, w, rfl, rfl, e1, by rw [← l1.length]; exact ew, ?_⟩
            have l2 : RepL T h.length m H ys.dropLast ws.dropLast := by
              rw [List.dropLast_eq_take, List.dropLast_eq_take, ← l1.length]
              exact l1.take _
            exact post_write p hr hn l2 rw'
        | _ :: _, _, z => cases z
      | popAt =>
        match ds, rl, z with
        | [.int i], ⟨w, r, e0, a, e2⟩, z =>
          subst e0
          have e2 : r = [] := e2
          subst e2
          cases a
          have z : (if -(2 ^ 63) ≤ i ∧ i < 2 ^ 63 then (ixN ys.length i).bind fun k => (ys[k]?).map fun d => (d, ys.eraseIdx k) else none) = some (e, zs) := z
          by_cases c2 : -(2 ^ 63) ≤ i ∧ i < 2 ^ 63
          case neg => rw [if_neg c2] at z; cases z
          rw [if_pos c2] at z
          cases c3 : ixN ys.length i with
          | none => rw [c3] at z; cases z
          | some k =>
            rw [c3] at z
            have z : (ys[k]?).map (fun d => (d, ys.eraseIdx k)) = some (e, zs) := z
            cases c4 : ys[k]? with
            | none => rw [c4] at z; cases z
            | some y =>
              rw [c4] at z
              cases z
              obtain ⟨w, ew, rw'⟩ := l1.get c4
              exact mt_popAt pins s σ H _ _ v us Q I rx rs ⟨_, ws, i, k, w, rfl, rfl, e1, c2.1, c2.2, by rw [← l1.length]; exact (ixN_seq c3).1, ew, post_write p hr hn (l1.eraseIdx k) rw'⟩
        | [], _, z => cases z
        | [.non], _, z => cases z
        | [.bl _], _, z => cases z
        | [.str _], _, z => cases z
        | [.tup _], _, z => cases z
        | [.lst _], _, z => cases z
        | [.ro _], _, z => cases z
        | [.dct _ _], _, z => cases z
        | [.ref _], _, z => cases z
        | x :: _ :: _, _, z => cases x <;> cases z
      | clear =>
        match ds, rl, z with
        | [], e0, z =>
          have e0 : xs = [] := e0
          subst e0
          cases z
          exact mt_clear pins s σ H _ _ v us Q I rx rs ⟨_, ws, rfl, rfl, e1, post_write p hr hn (ds := []) rfl rfl⟩
        | _ :: _, _, z => cases z
      | extend => cases ds <;> cases z
/-- o[i] = v -/
def rSetIx (T : Tb) : TSet := fun o i v H Q => ∃ h m od id vd, HR T m H h ∧ RepV T h.length m H od o ∧ RepV T h.length m H id i ∧ RepV T h.length m H vd v ∧ ∃ h', setIxD od id vd h = some h' ∧ ∀ H', Ext h.length m H h'.length m H' → HR T m H' h' → Q H'
theorem cellD_rep (hr : HR T m H h) {o : D} {v : V} {n : Nat} {ks ds : List D} (r : RepV T h.length m H o v) (c : cellD h o = some (n, ks, ds)) : n < h.length ∧ v = .ref (m n) ∧ ∃ us, DK H (m n) ks us ∧ RepL T h.length m H ds us := by
  cases o with
  | ref k =>
    obtain ⟨hn, rfl⟩ := r
    have e : (match h[k]? with | some (.dct ks vs) => some (k, ks, vs) | _ => none) = some (n, ks, ds) := c
    split at e
    · rename_i k2 x q
      cases e
      obtain ⟨us, a, l⟩ := hr.cell n _ q
      exact ⟨hn, rfl, us, a, l⟩
    · cases e
  | _ => cases c
theorem setIx_ok (hu : X.A.units + 1 < cLine) : PSet X (rSetIx T) := by
  intro pins s σ H o i v ov iv u Q I ro ri rv hh
  obtain ⟨h, m, od, id, vd, hr, rod, rid, rvd, h', e, q⟩ := hh
  unfold setIxD at e
  cases zd : cellD h od with
  | some kd =>
    obtain ⟨n, ks, ds⟩ := kd
    rw [zd] at e
    have e : (putD ks ds id vd).map (fun p => h.set n (.dct p.1 p.2)) = some h' := e
    obtain ⟨hn, rfl, us, dk, l⟩ := cellD_rep hr rod zd
    cases z : putD ks ds id vd with
    | none => rw [z] at e; cases e
    | some p =>
      obtain ⟨ks', ds'⟩ := p
      rw [z] at e
      cases e
      obtain ⟨us', o, dp, dk', l'⟩ := putD_rep z dk l rid rvd
      cases ro
      refine d_setItem hu I dp ri rv fun s' I' => ⟨_, I', ?_⟩
      refine q _ ?_ (hr_writeC hr hn ⟨us', dk', RepL.ext (ext_write hr hn) _ _ l'⟩)
      rw [List.length_set]
      exact ext_write hr hn
  | none =>
  rw [zd] at e
  have e : setIxL od id vd h = some h' := e
  unfold setIxL at e
  cases c : cellL h od with
  | none => rw [c] at e; cases e
  | some z =>
    obtain ⟨n, xs⟩ := z
    rw [c] at e
    cases id with
    | int k =>
      have e : (ixN xs.length k).map (fun j => h.set n (.lst (xs.set j vd))) = some h' := e
      cases z : ixN xs.length k with
      | none => rw [z] at e; cases e
      | some j =>
        rw [z] at e
        cases e
        obtain ⟨hn, rfl, ws, e1, l1⟩ := cellL_rep hr rod c
        cases rid
        refine set_list pins s σ H _ _ v ov iv u Q I ro ri rv ⟨_, ws, k, j, rfl, rfl, e1, by rw [← l1.length]; exact z, q _ ?_ (hr_write hr hn (RepL.set rvd j l1))⟩
        rw [List.length_set]
        exact ext_write hr hn
    | _ => cases e
/-- o[i] of a list, as an augmented assignment reads it -/
def rGetL (K : PySem.W.Frag) : V → V → Hp → VK → Prop := fun x y H Q => ∃ p xs i v, x = .ref p ∧ y = .int i ∧ SqL K H p xs ∧ atI xs i = some v ∧ Q v H
theorem get_list : PGet X (rGetL X.K) := by
  intro pins s σ H x y v u Q I rx ry hh
  obtain ⟨p, xs, i, z, rfl, rfl, hq, he, q⟩ := hh
  cases rx
  obtain ⟨t, rfl⟩ := ry
  obtain ⟨its, r, pl, hz⟩ := I.list hq
  obtain ⟨j, h1, h2, h3, h4, h5⟩ := atI_get he
  obtain ⟨w, ew, rw'⟩ := r.get h2
  have hl := r.length
  have hn := line63
  by_cases h0 : 0 ≤ i
  · have hj : i.toNat = j := by
      rw [seqIndex_of h0 h5] at h1
      exact Option.some.inj h1
    exact wpAny_getItem_list pl.isList h0 (by omega) (x := w) (by rw [hj]; simpa using ew) ⟨z, H, I, rw', q⟩
  · have hj : (i + (its.toArray.size : Int)).toNat = j := by
      rw [seqIndex_neg (by omega) h4] at h1
      rw [List.size_toArray, ← hl]
      exact Option.some.inj h1
    exact wpAny_getItem_list_neg pl.isList (by omega) (by rw [List.size_toArray] <;> omega) (by omega) (x := w) (by rw [hj]; simpa using ew) ⟨z, H, I, rw', q⟩
/-- op= of two ints -/
def rAugI (o : Operator) : TIp := fun x y H Q => ∃ i j k, x = .int i ∧ y = .int j ∧ intOp o i j = some k ∧ Q (.int k) H
def augOp : Operator → Bool
  | .Add => true
  | .Sub => true
  | .Mult => true
  | _ => false
theorem iop_mulM : OpR X (inplaceOp .Mult) (rI mulOk fun i j => .int (i * j)) := opI fun i j _ _ _ _ _ hc q => imul_int q (by
  rcases hc with h | h | h
  · exact .of_left (intBits_le_64 (by omega) (by omega))
  · exact .of_right (intBits_le_64 (by omega) (by omega))
  · exact CMulW.ok h)
theorem aug_ok {o : Operator} (ho : augOp o = true) : PIp X o (rAugI o) := by
  intro pins s σ H x y v u Q I rx ry hh
  obtain ⟨i, j, k, rfl, rfl, e, q⟩ := hh
  cases o with
  | Add => cases e; exact iop_add pins s σ H _ _ v u Q I rx ry ⟨i, j, rfl, rfl, q⟩
  | Sub => cases e; exact iop_sub pins s σ H _ _ v u Q I rx ry ⟨i, j, rfl, rfl, q⟩
  | Mult =>
    have e : (if mulOk i j then some (i * j) else none) = some k := e
    by_cases c : mulOk i j
    · rw [if_pos c] at e
      cases e
      exact iop_mulM pins s σ H _ _ v u Q I rx ry ⟨i, j, rfl, rfl, c, q⟩
    · rw [if_neg c] at e
      cases e
  | _ => cases ho
end
/-! ### what a loop walks -/
section
variable {T : Tb}
/-- what an iterator gives, from the state (m, h) where it was made: at each later state at which it stands as it was read -/
structure WalkR (T : Tb) (J : It) (I : Itr) (N : Nat) (m : Gh) (H : Hp) : Prop where
  ex : ∃ (G : Hp → Prop) (Y : Nat → Hp → V → Hp → Prop), Walk J I.items.length G Y ∧
    (∀ m' H' h', Ext0 N m H h'.length m' H' → HR T m' H' h' → I.guard h' → G H') ∧
    ∀ i x m' H' h' H2, i < I.items.length → Ext0 N m H h'.length m' H' → HR T m' H' h' → I.guard h' → Y i H' x H2 → ∃ d, I.items[i]? = some d ∧ Ext h'.length m' H' h'.length m' H2 ∧ HR T m' H2 h' ∧ RepV T h'.length m' H2 d x
variable {N : Nat} {m : Gh} {H : Hp} {h : Hv} {d : D} {ds : List D} {v : V}
theorem ext_refl' : Ext N m H N m H := Ext.refl
/-- a sequence as it stands later -/
theorem seq_later (hr : HR T m H h) (r : RepV T h.length m H d v) (e : asS h d = some ds) : ∃ (b : Bool) (a : Addr) (vs : List V), v = .ref a ∧ SqB b T.K H a vs ∧ vs.length = ds.length ∧
    ((b = true ∧ (asL h d = some ds ∨ ∃ xs, d = .ro xs)) ∨ (b = false ∧ d = .tup ds)) ∧
    ∀ m' H' h', Ext0 h.length m H h'.length m' H' → HR T m' H' h' → stays h d h' → ∃ vs', SqB b T.K H' a vs' ∧ RepL T h'.length m' H' ds vs' := by
  cases d with
  | tup xs =>
    cases e
    obtain ⟨a, vs, rfl, q, l⟩ := rep_tup r
    refine ⟨false, a, vs, rfl, q, l.length.symm, .inr ⟨rfl, rfl⟩, fun m' H' h' x _ _ => ?_⟩
    obtain ⟨a', vs', e', q', l'⟩ := rep_tup (RepV.ext0 x _ _ r)
    cases e'
    exact ⟨vs', q', l'⟩
  | ro xs =>
    cases e
    obtain ⟨a, vs, rfl, q, l⟩ := rep_ro r
    refine ⟨true, a, vs, rfl, q, l.length.symm, .inl ⟨rfl, .inr ⟨_, rfl⟩⟩, fun m' H' h' x _ _ => ?_⟩
    obtain ⟨a', vs', e', q', l'⟩ := rep_ro (RepV.ext0 x _ _ r)
    cases e'
    exact ⟨vs', q', l'⟩
  | lst xs =>
    cases e
    obtain ⟨a, vs, rfl, q, l⟩ := rep_lst r
    refine ⟨true, a, vs, rfl, .of q, l.length.symm, .inl ⟨rfl, .inl rfl⟩, fun m' H' h' x _ _ => ?_⟩
    obtain ⟨a', vs', e', q', l'⟩ := rep_lst (RepV.ext0 x _ _ r)
    cases e'
    exact ⟨vs', .of q', l'⟩
  | ref n =>
    have e0 := e
    obtain ⟨a, vs, e1, q, l⟩ := asL_rep hr r (ds := ds) e
    obtain ⟨hn, rfl⟩ := r
    cases e1
    refine ⟨true, _, vs, rfl, .of q, l.length.symm, .inl ⟨rfl, .inl e⟩, fun m' H' h' x hr' st => ?_⟩
    have st : h'[n]? = h[n]? := st
    have e : (match h[n]? with | some (.lst ds) => some ds | _ => none) = some ds := e
    split at e
    · rename_i ys c
      cases e
      rw [c] at st
      obtain ⟨vs', e2, l2⟩ := hr'.lst st
      rw [x.mu n hn] at e2
      exact ⟨vs', .of e2, l2⟩
    · cases e
  | _ => cases e
theorem walkR_seq {a : Addr} {b : Bool} {ds : List D} {g : Hv → Prop} (k : ∀ m' H' h', Ext0 N m H h'.length m' H' → HR T m' H' h' → g h' → ∃ vs', SqB b T.K H' a vs' ∧ RepL T h'.length m' H' ds vs') :
    WalkR T (if b then Itl T.K a else Itt T.K a) ⟨ds, g⟩ N m H := by
  refine ⟨fun H' => ∃ vs', SqB b T.K H' a vs' ∧ vs'.length = ds.length, fun i H' x H2 => H2 = H' ∧ ∀ vs', SqB b T.K H' a vs' → vs'[i]? = some x, ?_, fun m' H' h' x hr st => ?_, fun i x m' H' h' H2 hi ex hr st y => ?_⟩
  · cases b with
    | true =>
      refine ⟨fun i H' hi ⟨vs, q, l⟩ => ?_, fun H' ⟨vs, q, l⟩ => ?_, fun i H' x H2 hi _ y => ?_⟩
      · have hi : i < ds.length := hi
        exact ⟨vs, vs[i]'(by omega), q, List.getElem?_eq_getElem _⟩
      · exact ⟨vs, q, Nat.le_of_eq l⟩
      · exact y
    | false =>
      refine ⟨fun i H' hi ⟨vs, q, l⟩ => ?_, fun H' ⟨vs, q, l⟩ => ?_, fun i H' x H2 hi _ y => ?_⟩
      · have hi : i < ds.length := hi
        exact ⟨vs, vs[i]'(by omega), q, List.getElem?_eq_getElem _⟩
      · exact ⟨vs, q, Nat.le_of_eq l⟩
      · exact y
  · obtain ⟨vs', q, l⟩ := k m' H' h' x hr st
    exact ⟨vs', q, l.length.symm⟩
  · obtain ⟨e, y⟩ := y
    subst e
    obtain ⟨vs', q, l⟩ := k m' _ h' ex hr st
    obtain ⟨d, ed, rd⟩ := l.get' (y vs' q)
    exact ⟨d, ed, .refl, hr, rd⟩
theorem walkR_range {lo : Int} {n : Nat} : WalkR T (L2.Itr lo n) ⟨(List.range n).map fun k : Nat => .int (lo + (k : Int)), fun _ => True⟩ N m H := by
  refine ⟨fun _ => True, YFn fun i => .int (lo + i), ?_, fun _ _ _ _ _ _ => trivial, fun i x m' H' h' H2 hi ex hr st y => ?_⟩
  · show Walk (L2.Itr lo n) ((List.range n).map fun k : Nat => D.int (lo + (k : Int))).length _ _
    rw [List.length_map, List.length_range]
    exact walk_range
  · obtain ⟨e1, e2⟩ := y
    subst e1 e2
    have hi : i < ((List.range n).map fun k : Nat => D.int (lo + (k : Int))).length := hi
    rw [List.length_map, List.length_range] at hi
    refine ⟨.int (lo + i), ?_, .refl, hr, rfl⟩
    show ((List.range n).map fun k : Nat => D.int (lo + (k : Int)))[i]? = _
    rw [List.getElem?_map, List.getElem?_range hi]
    rfl
/-- a dict is locked -/
theorem ext_lock {d : Addr} {od : Obj} {kvs : List (L2.Key × V)} (hd : H d = some (.dK kvs)) (hp : ¬ m.P d) : Ext N m H N m (upd H d (.frz od (.dK kvs))) :=
  ⟨Nat.le_refl _, fun _ _ => rfl, fun a o e f => ⟨by
    by_cases c : a = d
    · subst c
      rw [hd] at e
      cases e
      exact .inr ⟨od, kvs, rfl, upd_same⟩
    · exact .inl (by rw [upd_ne c]; exact e), f⟩, rfl, fun a o p e => by rw [upd_ne (fun c => hp (by rw [← c]; exact p))]; exact e⟩
theorem hr_lock {d : Addr} {od : Obj} {kvs : List (L2.Key × V)} (hr : HR T m H h) (hd : H d = some (.dK kvs)) (f : Off h.length m d) : HR T m (upd H d (.frz od (.dK kvs))) h :=
  ⟨fun n c e => CellR.ext (ext_lock hd f.2) (fun u q => by rw [upd_ne (f.1 n (List.getElem?_eq_some_iff.mp e).1)]; exact q) (hr.cell n c e), hr.inj, hr.off, fun a z => by
    obtain ⟨o, e⟩ := hr.here a z
    exact ⟨o, by rw [upd_ne (fun c => f.2 (by rw [← c]; exact z))]; exact e⟩⟩
/-- the keys of a locked dict -/
theorem walkR_keys {a : Addr} {od : Obj} {ks : List D} {kk : List L2.Key} {us : List V} (e : keysD ks = some kk) (l : kk.length = us.length) (ha : H a = some (.frz od (.dK (kk.zip us)))) (f : Off N m a) : WalkR T (L2.Itk a od (kk.zip us)) ⟨ks, fun _ => True⟩ N m H := by
  have l2 := keys_len e
  have lz : (kk.zip us).length = ks.length := by rw [List.length_zip]; omega
  refine ⟨fun H' => H' a = some (.frz od (.dK (kk.zip us))), fun i H' x H2 => H2 = H' ∧ ∃ k v, (kk.zip us)[i]? = some (k, v) ∧ x = kV k, ⟨fun i H' hi g => ⟨g, by rw [lz]; exact hi⟩, fun H' g => ⟨g, Nat.le_of_eq lz⟩, fun i H' x H2 hi g y => y⟩, fun m' H' h' x hr _ => (x.eq ha f fun _ z => nomatch z).1, fun i x m' H' h' H2 hi ex hr _ y => ?_⟩
  obtain ⟨rfl, k, v, e2, rfl⟩ := y
  have e3 : (kk.map kV)[i]? = some (kV k) := by
    rw [List.getElem?_map]
    have := congrArg (Option.map Prod.fst) e2
    rw [← List.getElem?_map, List.map_fst_zip (by omega)] at this
    rw [this]
    rfl
  obtain ⟨d, ed, rd⟩ := RepL.get' (keys_rep (T := T) (N := h'.length) (m := m') (H := H2) e) e3
  exact ⟨d, ed, .refl, hr, rd⟩
/-- a new pair -/
theorem pair_new {m' : Gh} {H' : Hp} {h' : Hv} {t : Addr} {x y : V} {d e : D} (hr : HR T m' H' h') (hn : H' t = none) (r1 : RepV T h'.length m' H' d x) (r2 : RepV T h'.length m' H' e y) :
    Ext h'.length m' H' h'.length m' (upd H' t (.tup [x, y])) ∧ HR T m' (upd H' t (.tup [x, y])) h' ∧ RepV T h'.length m' (upd H' t (.tup [x, y])) (.tup [d, e]) (.ref t) :=
  ⟨ext_new hn, hr_new hr hn, t, [x, y], rfl, .inl ⟨.inl upd_same, off_new hr hn⟩, x, [y], rfl, RepV.ext (ext_new hn) _ _ r1, y, [], rfl, RepV.ext (ext_new hn) _ _ r2, rfl⟩
theorem walkR_zip {a b : Addr} {p q : Bool} {xs ys : List D} {g1 g2 : Hv → Prop} (k1 : ∀ m' H' h', Ext0 N m H h'.length m' H' → HR T m' H' h' → g1 h' → ∃ vs', SqB p T.K H' a vs' ∧ RepL T h'.length m' H' xs vs')
    (k2 : ∀ m' H' h', Ext0 N m H h'.length m' H' → HR T m' H' h' → g2 h' → ∃ vs', SqB q T.K H' b vs' ∧ RepL T h'.length m' H' ys vs') :
    WalkR T (Itzb T.K p q a b) ⟨List.zipWith (fun u v => .tup [u, v]) xs ys, fun h => g1 h ∧ g2 h⟩ N m H := by
  refine ⟨fun H' => ∃ vs ws, SqB p T.K H' a vs ∧ SqB q T.K H' b ws ∧ vs.length = xs.length ∧ ws.length = ys.length,
    fun i H' v H2 => ∃ t x y, v = .ref t ∧ H' t = none ∧ H2 = upd H' t (.tup [x, y]) ∧ (∀ xs, SqB p T.K H' a xs → xs[i]? = some x) ∧ ∀ ys, SqB q T.K H' b ys → ys[i]? = some y, ?_, fun m' H' h' x hr st => ?_, fun i x m' H' h' H2 hi ex hr st y => ?_⟩
  · show Walk _ (List.zipWith (fun u v => D.tup [u, v]) xs ys).length _ _
    rw [List.length_zipWith]
    refine ⟨fun i H' hi ⟨vs, ws, q1, q2, l1, l2⟩ => ?_, fun H' ⟨vs, ws, q1, q2, l1, l2⟩ => ?_, fun i H' x H2 hi _ y => y⟩
    · exact ⟨vs, ws, vs[i]'(by omega), ws[i]'(by omega), q1, q2, List.getElem?_eq_getElem _, List.getElem?_eq_getElem _⟩
    · exact ⟨vs, ws, q1, q2, by rw [l1, l2]⟩
  · obtain ⟨vs, q1, l1⟩ := k1 m' H' h' x hr st.1
    obtain ⟨ws, q2, l2⟩ := k2 m' H' h' x hr st.2
    exact ⟨vs, ws, q1, q2, l1.length.symm, l2.length.symm⟩
  · obtain ⟨t, u, w, e1, hn, e2, y1, y2⟩ := y
    subst e1 e2
    obtain ⟨vs, q1, l1⟩ := k1 m' H' h' ex hr st.1
    obtain ⟨ws, q2, l2⟩ := k2 m' H' h' ex hr st.2
    obtain ⟨d, ed, rd⟩ := l1.get' (y1 vs q1)
    obtain ⟨e, ee, re⟩ := l2.get' (y2 ws q2)
    obtain ⟨x1, x2, x3⟩ := pair_new hr hn rd re
    refine ⟨.tup [d, e], ?_, x1, x2, x3⟩
    show (List.zipWith (fun u v => D.tup [u, v]) xs ys)[i]? = _
    rw [List.getElem?_zipWith, ed, ee]
theorem walkR_enum {a : Addr} {xs : List D} {g : Hv → Prop} (k : ∀ m' H' h', Ext0 N m H h'.length m' H' → HR T m' H' h' → g h' → ∃ vs', SqB true T.K H' a vs' ∧ RepL T h'.length m' H' xs vs') :
    WalkR T (Ite T.K a) ⟨xs.mapIdx fun n u => .tup [.int (n : Nat), u], g⟩ N m H := by
  refine ⟨fun H' => ∃ vs, SqL T.K H' a vs ∧ vs.length = xs.length, (Ite T.K a).yld, ?_, fun m' H' h' x hr st => ?_, fun i x m' H' h' H2 hi ex hr st y => ?_⟩
  · show Walk _ (xs.mapIdx fun n u => D.tup [.int (n : Nat), u]).length _ _
    rw [List.length_mapIdx]
    refine ⟨fun i H' hi ⟨vs, q1, l1⟩ => ⟨vs, vs[i]'(by omega), q1, List.getElem?_eq_getElem _⟩, fun H' ⟨vs, q1, l1⟩ => ⟨vs, q1, Nat.le_of_eq l1⟩, fun i H' x H2 hi _ y => y⟩
  · obtain ⟨vs, q1, l1⟩ := k m' H' h' x hr st
    exact ⟨vs, q1, l1.length.symm⟩
  · obtain ⟨t, w, e1, hn, e2, y2⟩ := y
    subst e1 e2
    obtain ⟨vs, q1, l1⟩ := k m' H' h' ex hr st
    obtain ⟨d, ed, rd⟩ := l1.get' (y2 vs q1)
    obtain ⟨x1, x2, x3⟩ := pair_new (d := .int (i : Nat)) hr hn rfl rd
    refine ⟨.tup [.int (i : Nat), d], ?_, x1, x2, x3⟩
    show (xs.mapIdx fun n u => D.tup [.int (n : Nat), u])[i]? = _
    rw [List.getElem?_mapIdx, ed]
    rfl
theorem walkR_enumT {a : Addr} {xs : List D} {g : Hv → Prop} (k : ∀ m' H' h', Ext0 N m H h'.length m' H' → HR T m' H' h' → g h' → ∃ vs', SqB false T.K H' a vs' ∧ RepL T h'.length m' H' xs vs') :
    WalkR T (Itn T.K a) ⟨xs.mapIdx fun n u => .tup [.int (n : Nat), u], g⟩ N m H := by
  refine ⟨fun H' => ∃ vs, SqT T.K H' a vs ∧ vs.length = xs.length, (Itn T.K a).yld, ?_, fun m' H' h' x hr st => ?_, fun i x m' H' h' H2 hi ex hr st y => ?_⟩
  · show Walk _ (xs.mapIdx fun n u => D.tup [.int (n : Nat), u]).length _ _
    rw [List.length_mapIdx]
    exact ⟨fun i H' hi ⟨vs, q1, l1⟩ => ⟨vs, vs[i]'(by omega), q1, List.getElem?_eq_getElem _⟩, fun H' ⟨vs, q1, l1⟩ => ⟨vs, q1, l1⟩, fun i H' x H2 hi _ y => y⟩
  · obtain ⟨vs, q1, l1⟩ := k m' H' h' x hr st
    exact ⟨vs, q1, l1.length.symm⟩
  · obtain ⟨t, w, e1, hn, e2, y2⟩ := y
    subst e1 e2
    obtain ⟨vs, q1, l1⟩ := k m' H' h' ex hr st
    obtain ⟨d, ed, rd⟩ := l1.get' (y2 vs q1)
    obtain ⟨x1, x2, x3⟩ := pair_new (d := .int (i : Nat)) hr hn rfl rd
    refine ⟨.tup [.int (i : Nat), d], ?_, x1, x2, x3⟩
    show (xs.mapIdx fun n u => D.tup [.int (n : Nat), u])[i]? = _
    rw [List.getElem?_mapIdx, ed]
    rfl
theorem walkR_rev {a : Addr} {b : Bool} {xs : List D} {g : Hv → Prop} (k : ∀ m' H' h', Ext0 N m H h'.length m' H' → HR T m' H' h' → g h' → ∃ vs', SqB b T.K H' a vs' ∧ RepL T h'.length m' H' xs vs') :
    WalkR T (if b then Itv T.K a xs.length else RT.ItvT T.K a xs.length) ⟨xs.reverse, g⟩ N m H := by
  refine ⟨fun H' => ∃ vs, SqB b T.K H' a vs ∧ vs.length = xs.length, fun i H' x H2 => H2 = H' ∧ ∀ vs, SqB b T.K H' a vs → vs[xs.length - 1 - i]? = some x, ?_, fun m' H' h' x hr st => ?_, fun i x m' H' h' H2 hi ex hr st y => ?_⟩
  · show Walk _ xs.reverse.length _ _
    rw [List.length_reverse]
    cases b with
    | true => exact ⟨fun i H' hi ⟨vs, q1, l1⟩ => ⟨hi, vs, vs[xs.length - 1 - i]'(by omega), q1, List.getElem?_eq_getElem _⟩, fun H' _ => Nat.le_refl _, fun i H' x H2 hi _ y => y⟩
    | false => exact ⟨fun i H' hi ⟨vs, q1, l1⟩ => ⟨hi, vs, vs[xs.length - 1 - i]'(by omega), q1, List.getElem?_eq_getElem _⟩, fun H' _ => Nat.le_refl _, fun i H' x H2 hi _ y => y⟩
  · obtain ⟨vs, q1, l1⟩ := k m' H' h' x hr st
    exact ⟨vs, q1, l1.length.symm⟩
  · obtain ⟨e, y⟩ := y
    subst e
    have hi : i < xs.reverse.length := hi
    rw [List.length_reverse] at hi
    obtain ⟨vs', q, l⟩ := k m' _ h' ex hr st
    obtain ⟨d, ed, rd⟩ := l.get' (y vs' q)
    refine ⟨d, ?_, .refl, hr, rd⟩
    show xs.reverse[i]? = some d
    rw [List.getElem?_reverse hi]
    exact ed
end
end Hr
set_option maxHeartbeats 2000000
/-! A code stands for an expression of the program: the check, and that its meaning is the program's. -/
namespace Hr
open PySem PySem.Spec PyProof.Rows L2

/-- the classes: how many, their names, the names that no class of theirs has, which can be made; the classes of exceptions: how many, their names, their field, the built-in classes that they are of, the names that none of them has -/
structure Ct where
  nc : Nat := 0
  cn : Nat → Str := fun _ => ""
  na : Nat → List Str := fun _ => []
  mkb : Nat → Bool := fun _ => false
  xn : List Str := []
  x1 : Nat → Option Str := fun _ => none
  xb : Nat → List String := fun _ => []
  xo : List Str := []
  xt : List String := []
  kw : List (Nat × List Str × List Nat) := []
/-- what the check looks at: the defs, the module's constants, the built-in names, the names by slot, the classes; the slot of the exception's name, within a suite -/
structure Ck where
  F : List Fc
  gn : List Str
  blt : List Str
  N : List Str
  ct : Ct
  hot : Option Nat := none
/-- the setting: the written part, the defs' calls, the module's constants -/
structure St0 extends Ck where
  T : Tb
  CX : CXT
  k : Nat
  G : Nat → D
instance : Coe St0 Ck := ⟨St0.toCk⟩
noncomputable def St0.C (S : St0) : Cf := ⟨callF S.G S.F S.k, S.G, S.T.xi.map XI.x⟩
/-! ### the check -/
def visB (sc : Scope) (x : Str) : Bool := match sc.names.lookup x with
  | some .local => true
  | some .cell => true
  | some .free => true
  | _ => false
def locB (sc : Scope) (x : Str) : Bool := match sc.names.lookup x with
  | some .local => true
  | some .cell => true
  | _ => false
def glB (sc : Scope) (x : Str) : Bool := match sc.names.lookup x with
  | some .globalImplicit => true
  | _ => false
def okB (x : Str) : Bool := !(x == ("__debug__" : Str)) && !(x == ("__classdict__" : Str)) && !decide (x = ("__name__" : Str))
def litB : D → Const → Bool
  | .non, .none => true
  | .bl b, .bool c => b == c
  | .int i, .int j => decide (i = j)
  | .str s, .str t => decide (s = t)
  | _, _ => false
def Bi.name : Bi → Str
  | .len => "len"
  | .abs => "abs"
  | .max => "max"
  | .min => "min"
  | .int => "int"
  | .list => "list"
  | .tuple => "tuple"
  | .sum => "sum"
  | .any => "any"
  | .all => "all"
  | .repr => "repr"
  | .sorted => "sorted"
def fromB (S : Ck) (sc : Scope) (x y : Str) : Bool := decide (x = y) && glB sc x && S.blt.contains x
def tyB (S : Ck) (sc : Scope) : Cl → Expr → Bool
  | .ty n, .Name x _ => decide (x = Str.ofString n) && glB sc x && okB x && S.blt.contains x && (match bootBuiltins x with
    | some (.type m) => decide (m = n)
    | _ => false)
  | _, _ => false
def tysB (S : Ck) (sc : Scope) : List Cl → List Expr → Bool
  | [], [] => true
  | c :: cs, e :: es => tyB S sc c e && tysB S sc cs es
  | _, _ => false
def clsB (S : Ck) (sc : Scope) (cs : List Cl) : Expr → Bool
  | .Tuple es _ _ => tysB S sc cs es && decide (cs.length ≤ 100)
  | e => match cs with
    | [c] => tyB S sc c e
    | _ => false
def notSlice : Expr → Bool
  | .Slice .. => false
  | _ => true
def notSuper : Expr → Bool
  | .Call (.Name _ _) [] [] _ => false
  | _ => true
mutual
def chkT (N : List Str) (sc : Scope) : Tc → Expr → Bool
  | .nm i, e => match e with
    | .Name x _ => decide (N[i]? = some x) && locB sc x
    | _ => false
  | .tp ts, e => match e with
    | .Tuple es _ _ => chkTs N sc ts es
    | _ => false
def chkTs (N : List Str) (sc : Scope) : List Tc → List Expr → Bool
  | [], es => es.isEmpty
  | t :: ts, es => match es with
    | e :: es => chkT N sc t e && chkTs N sc ts es
    | [] => false
end
mutual
def Tc.inB (own : List Nat) : Tc → Bool
  | .nm i => own.contains i
  | .tp ts => inBs own ts
def inBs (own : List Nat) : List Tc → Bool
  | [] => true
  | t :: ts => t.inB own && inBs own ts
end
def isTup : Expr → Bool
  | .Tuple .. => true
  | _ => false
def ownN (N : List Str) (own : List Nat) : List (Str × Nat) := own.map fun i => (N.getD i "", i)
/-- the name of the exception that the suite holds -/
def excB (S : Ck) (sc : Scope) (x : Str) : Bool := match S.hot with
  | some i => decide (S.N[i]? = some x) && locB sc x && okB x
  | none => false
/-- a class's name: an own class of exceptions, a built-in type -/
def xclB (S : Ck) (sc : Scope) (x : Str) : Option Cl :=
  if glB sc x && okB x then
    if S.ct.xn.contains x then some (.own (S.ct.xn.idxOf x))
    else if S.blt.contains x then (match bootBuiltins x with
      | some (.type m) => if S.ct.xt.contains m then some (.ty m) else none
      | _ => none)
    else none
  else none
def xclsB (S : Ck) (sc : Scope) : List Expr → Option (List Cl)
  | [] => some []
  | .Name x _ :: es => match xclB S sc x, xclsB S sc es with
    | some c, some cs => some (c :: cs)
    | _, _ => none
  | _ => none
/-- is an exception of the c-th class one of that class? -/
def isX (S : Ck) (c : Nat) : Cl → Bool
  | .own i => decide (c = i)
  | .ty n => (S.ct.xb c).contains n
def exNmB (S : Ck) (sc : Scope) : Expr → Bool
  | .Name x _ => excB S sc x
  | _ => false
def exIsB (S : Ck) (sc : Scope) (tab : List (Nat × Bool)) : Expr → Bool
  | .Tuple es _ _ => (match xclsB S sc es with
    | some cs => tab.all (fun p => p.2 == cs.any (isX S p.1)) && decide (cs.length ≤ 100)
    | none => false)
  | .Name y _ => (match xclB S sc y with
    | some c => tab.all (fun p => p.2 == isX S p.1 c)
    | none => false)
  | _ => false
/-- a method's call, from one row -/
def mtB (ap cp : Pos) (x : Expr) : Bool := (ap.endLine == cp.line) && notSuper x
def twoB (S : Ck) (sc : Scope) (x y : Str) (a b : String) : Bool := fromB S sc x (Str.ofString a) && fromB S sc y (Str.ofString b)
def opName (S : Ck) (sc : Scope) (o : Op) (x : Str) (args : List Expr) : Option (List Expr) := match o, args with
  | .lrng, [.Call (.Name y _) [a] [] _] => if twoB S sc x y "list" "range" then some [a] else none
  | .trng, [.Call (.Name y _) [a] [] _] => if twoB S sc x y "tuple" "range" then some [a] else none
  | .lenset, [.Call (.Name y _) [a] [] _] => if twoB S sc x y "len" "set" then some [a] else none
  | .keysL, [a] => if fromB S sc x "list" then some [a] else none
  | .sortd, [a] => if fromB S sc x "sorted" then some [a] else none
  | .suml, [a, b] => if fromB S sc x "sum" then some [a, b] else none
  | _, _ => none
def Dm.name : Dm → Str
  | .setd => "setdefault"
  | .get2 => "get"
def dispB : List (Option Expr) → List Expr → Option (List Expr)
  | [], [] => some []
  | some k :: ks, v :: vs => (dispB ks vs).map fun r => k :: v :: r
  | _, _ => none
def opDict (o : Op) (ks : List (Option Expr)) (vs : List Expr) : Option (List Expr) := match o with
  | .disp n => if decide (ks.length = n) then dispB ks vs else none
  | _ => none
/-- the arguments of an operation of that form -/
def opB (S : Ck) (sc : Scope) (o : Op) : Expr → Option (List Expr)
  | .Call fn args kws cp => if kws.isEmpty then match fn with
      | .Name x _ => opName S sc o x args
      | .Attribute x nm ap => if decide (o = .dclr) && decide (nm = "clear") && args.isEmpty && mtB ap cp x then some [x] else none
      | _ => none
    else none
  | .Dict ks vs _ => opDict o ks vs
  | _ => none
mutual
def chkE (S : Ck) : Scope → Ec → Expr → Bool
  | sc, .lit d, e => match e with
    | .Constant c _ _ => litB d c
    | _ => false
  | sc, .var i, e => match e with
    | .Name x _ => decide (S.N[i]? = some x) && visB sc x && okB x
    | _ => false
  | sc, .glo i, e => match e with
    | .Name x _ => decide (S.gn[i]? = some x) && glB sc x && okB x
    | _ => false
  | sc, .neg a, e => match e with
    | .UnaryOp .USub x _ => chkE S sc a x
    | _ => false
  | sc, .not_ a, e => match e with
    | .UnaryOp .Not x _ => chkE S sc a x
    | _ => false
  | sc, .bin _ o a b, e => match e with
    | .BinOp x p y _ => decide (o = p) && chkE S sc a x && chkE S sc b y
    | _ => false
  | sc, .cmp o a b, e => match e with
    | .Compare x [p] [y] _ => decide (o = p) && chkE S sc a x && chkE S sc b y && !behindInMarks p y
    | _ => false
  | sc, .chain o p a b c, e => match e with
    | .Compare x [q, r] [y, z] _ => decide (o = q) && decide (p = r) && chkE S sc a x && chkE S sc b y && chkE S sc c z && !behindInMarks r z
    | _ => false
  | sc, .and_ a b, e => match e with
    | .BoolOp .And (x :: rest) pos => chkE S sc a x && (match rest with
      | [] => false
      | [y] => chkE S sc b y
      | y :: z :: r => chkE S sc b (.BoolOp .And (y :: z :: r) pos))
    | _ => false
  | sc, .or_ a b, e => match e with
    | .BoolOp .Or (x :: rest) pos => chkE S sc a x && (match rest with
      | [] => false
      | [y] => chkE S sc b y
      | y :: z :: r => chkE S sc b (.BoolOp .Or (y :: z :: r) pos))
    | _ => false
  | sc, .cond c a b, e => match e with
    | .IfExp t x y _ => chkE S sc c t && chkE S sc a x && chkE S sc b y
    | _ => false
  | sc, .tup es, e => match e with
    | .Tuple xs _ _ => chkEs S sc es xs
    | _ => false
  | sc, .lst _ es, e => match e with
    | .List xs _ => chkEs S sc es xs
    | _ => false
  | _, .dnew _, e => match e with
    | .Dict [] [] _ => true
    | _ => false
  | sc, .idx a b, e => match e with
    | .Subscript x y _ => chkE S sc a x && chkE S sc b y && notSlice y
    | _ => false
  | sc, .cut _ a lo hi, e => match e with
    | .Subscript x (.Slice l u none _) _ => chkE S sc a x && chkO S sc lo l && chkO S sc hi u
    | _ => false
  | sc, .call f _ es, e => match e with
    | .Call (.Name x _) args [] _ => (match S.F[f]? with
      | some fc => decide (fc.name = x) && decide (es.length ≤ fc.np) && fc.cls.isNone
      | none => false) && glB sc x && okB x && chkEs S sc es args && S.hot.isNone
    | _ => false
  | sc, .fld c a f, e => match e with
    | .Attribute x nm _ => decide (nm = f) && notSuper x && chkE S sc a x && decide (c < S.ct.nc) && (S.ct.na c).contains f
    | _ => false
  | sc, .meth c m i _ o es, e => match e with
    | .Call (.Attribute x nm ap) args [] cp => decide (nm = m) && (ap.endLine == cp.line) && notSuper x && chkE S sc o x && chkEs S sc es args && decide (args.length < 28) && decide (c < S.ct.nc) && (match S.F[i]? with
      | some fc => decide (fc.name = m) && decide (fc.cls = some c) && decide (es.length + 1 = fc.np)
      | none => false) && S.hot.isNone
    | _ => false
  | sc, .make c i es, e => match e with
    | .Call (.Name x _) args [] _ => decide (x = S.ct.cn c) && glB sc x && okB x && chkEs S sc es args && S.ct.mkb c && (match S.F[i]? with
      | some fc => decide (fc.name = ("__init__" : Str)) && decide (fc.cls = some c) && decide (es.length + 1 = fc.np)
      | none => false) && S.hot.isNone
    | _ => false
  | sc, .bi _ b es, e => match e with
    | .Call (.Name x _) args [] _ => fromB S sc x b.name && chkEs S sc es args && !args.isEmpty && (S.hot.isNone || decide (b = .repr))
    | _ => false
  | sc, .isi a cs, e => match e with
    | .Call (.Name x _) [y, t] [] _ => fromB S sc x "isinstance" && chkE S sc a y && clsB S sc cs t
    | _ => false
  | sc, .mt t o es, e => match e with
    | .Call (.Attribute x nm ap) args [] cp => decide (nm = t.name) && (ap.endLine == cp.line) && notSuper x && chkE S sc o x && chkEs S sc es args && (t.args == !args.isEmpty) && decide (args.length < 28)
    | _ => false
  | sc, .comp _ a t it c own, e => match e with
    | .ListComp x [⟨tg, iter, ifs, 0⟩] scope _ => blkC S.N sc scope (ownN S.N own) && chkI S sc it tg iter && chkT S.N scope t tg && t.inB own && chkC S (relS scope sc) c ifs && chkE S (relS scope sc) a x && S.hot.isNone
    | _ => false
  | sc, .exF f, e => match e with
    | .Attribute (.Name x _) nm _ => decide (nm = f) && excB S sc x && S.ct.xo.contains f
    | _ => false
  | sc, .exIs tab, e => match e with
    | .Call (.Name g _) [y, t] [] _ => fromB S sc g "isinstance" && exNmB S sc y && exIsB S sc tab t
    | _ => false
  | sc, .kxF a f, e => match e with
    | .Attribute o nm _ => decide (nm = f) && chkE S sc a o && notSuper o && S.ct.xo.contains f && S.hot.isNone
    | _ => false
  | sc, .kxIs a tab, e => match e with
    | .Call (.Name g _) [y, t] [] _ => fromB S sc g "isinstance" && chkE S sc a y && exIsB S sc tab t && S.hot.isNone
    | _ => false
  | sc, .opn _ o es, e => (match opB S sc o e with
    | some xs => chkEs S sc es xs
    | none => false) && S.hot.isNone
  | sc, .dmt t o a b, e => match e with
    | .Call (.Attribute x nm ap) [y, z] [] cp => decide (nm = t.name) && mtB ap cp x && chkE S sc o x && chkE S sc a y && chkE S sc b z
    | _ => false
  | sc, .callK f _ pm es, e => match e with
    | .Call (.Name x _) [] kws _ => (match S.F[f]? with
      | some fc => decide (fc.name = x) && decide (pm.length = fc.np) && fc.cls.isNone
      | none => false) && glB sc x && okB x && kws.all (·.arg.isSome) && S.ct.kw.contains (f, kws.filterMap (·.arg), pm) && chkEs S sc es (kws.map (·.value)) && S.hot.isNone
    | _ => false
  | sc, .lcomp2 _ a t it own c t1 it1 own1 c1, e => match e with
    | .ListComp k gs scope _ => match gs with
      | [ga, gb] => decide (ga.is_async = 0 ∧ gb.is_async = 0) && (blkC S.N sc scope (ownN S.N own) && chkI S sc it ga.target ga.iter && chkT S.N scope t ga.target && t.inB own && chkC S (relS scope sc) c ga.ifs && chkI S (relS scope sc) it1 gb.target gb.iter && chkT S.N scope t1 gb.target && t1.inB own1 && own1.all (own.contains ·) && chkC S (relS scope sc) c1 gb.ifs && chkE S (relS scope sc) a k && S.hot.isNone)
      | _ => false
    | _ => false
  | sc, .dcomp2 _ ke ve t it own t1 it1 own1, e => match e with
    | .DictComp k v gs scope _ => match gs with
      | [ga, gb] => decide (ga.ifs = [] ∧ ga.is_async = 0 ∧ gb.ifs = [] ∧ gb.is_async = 0) && (blkC S.N sc scope (ownN S.N own) && chkI S sc it ga.target ga.iter && chkT S.N scope t ga.target && t.inB own && chkI S (relS scope sc) it1 gb.target gb.iter && chkT S.N scope t1 gb.target && t1.inB own1 && own1.all (own.contains ·) && chkE S (relS scope sc) ke k && chkE S (relS scope sc) ve v && S.hot.isNone)
      | _ => false
    | _ => false
  | _, .bad, e => match e with
    | .Starred .. => false
    | .Set .. => false
    | .ListComp .. => false
    | .SetComp .. => false
    | .DictComp .. => false
    | _ => true
def chkEs (S : Ck) : Scope → List Ec → List Expr → Bool
  | _, [], es => es.isEmpty
  | sc, c :: cs, es => match es with
    | e :: es => chkE S sc c e && chkEs S sc cs es
    | [] => false
def chkO (S : Ck) : Scope → Option Ec → Option Expr → Bool
  | _, none, e => e.isNone
  | sc, some c, e => match e with
    | some e => chkE S sc c e
    | none => false
def chkC (S : Ck) : Scope → Option Ec → List Expr → Bool
  | _, none, es => es.isEmpty
  | sc, some c, es => match es with
    | [e] => chkE S sc c e
    | _ => false
def chkI (S : Ck) : Scope → Ic → Expr → Expr → Bool
  | sc, .seq a, _, e => chkE S sc a e
  | sc, .rng1 a, _, e => match e with
    | .Call (.Name x _) [y] [] _ => fromB S sc x "range" && chkE S sc a y
    | _ => false
  | sc, .rng2 a b, _, e => match e with
    | .Call (.Name x _) [y, z] [] _ => fromB S sc x "range" && chkE S sc a y && chkE S sc b z
    | _ => false
  | sc, .zip a b, tg, e => match e with
    | .Call (.Name x _) [y, z] [] _ => fromB S sc x "zip" && chkE S sc a y && chkE S sc b z && isTup tg
    | _ => false
  | sc, .enum a, tg, e => match e with
    | .Call (.Name x _) [y] [] _ => fromB S sc x "enumerate" && chkE S sc a y && isTup tg
    | _ => false
  | sc, .rev a, _, e => match e with
    | .Call (.Name x _) [y] [] _ => fromB S sc x "reversed" && chkE S sc a y
    | _ => false
end
/-! ### the setting where a piece of the program stands -/
/-- a def's promise, by its code -/
def spF (S : St0) (i : Nat) (raw : Bool) : Sp := fun vs H Q E => ∃ h m ds fc, S.F[i]? = some fc ∧ ds.length = fc.np ∧ HR S.T m H h ∧ RepL S.T h.length m H ds vs ∧ Post S.T h.length m H (RepV S.T) Q E (callF S.G S.F S.k i raw ds h)
/-- a call by names alone binds the names to the values so ordered -/
def KwB (K : PySem.W.Frag) (fd : FuncData) (ps ks : List Str) (pm : List Nat) : Prop := ∀ (s : Shared) (ws us : List Value), K.In s.heap → ws.length = ks.length → permD ws pm = some us → BindsTo s fd ⟨[], ks.zip ws⟩ (ps.zip us)
/-- where a def stands: a name of the module, or a method -/
def AtF (K : PySem.W.Frag) (mg : Str → Option Value) (T : Tb) (fc : Fc) (f : Addr) : Prop := match fc.cls with
  | none => mg fc.name = some (.ref f) ∧ PySem.W.keepIn K (.ref f) = true
  | some c => Meth K (T.cl c) fc.name f
/-- a class of exceptions, as the written part has it -/
structure XcOk (K : PySem.W.Frag) (ct : Ct) (T : Tb) (c : Nat) : Prop where
  kp : PySem.W.keepIn K (.ref (T.xc c)) = true
  ga : PySem.W.findIn K (.ref (T.xc c)) "__getattribute__" = some (some (.builtin "BaseException.__getattribute__"))
  gg : PySem.W.findIn K (.ref (T.xc c)) "__getattr__" = some none
  sb : PySem.W.subIn K (.ref (T.xc c)) (.type "BaseException") = some true
  ty : PySem.W.typeIn K (.ref (T.xc c)) = some (.type "type")
  hd : PySem.W.hasDictIn K (T.xc c) = true
  ha : PySem.W.findIn K (.ref (T.xc c)) "__class__" = some (some (.builtin "object.__class__"))
  hm : PySem.W.mroIn K (T.xc c) (.type "object") = some true
  hn : PySem.W.specialIn K (.builtin "object.__class__") "__get__" = some (some (.builtin "getset_descriptor.__get__"))
  ht : PySem.W.takesIn K (.builtin "object.__class__") = some true
  no : ∀ f, ct.xo.contains f = true → PySem.W.findIn K (.ref (T.xc c)) f = some none
  own : ∀ j, j < T.nx → PySem.W.kitOne K (.ref (T.xc c)) (.ref (T.xc j)) = some (decide (c = j)) ∧ PySem.W.exmOne K (.ref (T.xc c)) (.ref (T.xc j)) = some (decide (c = j))
  blt : ∀ n, ct.xt.contains n = true → PySem.W.kitOne K (.ref (T.xc c)) (.type n) = some ((ct.xb c).contains n)
structure OkX (X : Cx) (S : St0) (sc : Scope) (W : WX) : Prop where
  hK : X.K = S.T.K
  hN : X.N = S.N
  nd : X.N.Nodup
  hsc : X.env.scope = sc
  kind : sc.kind = .function
  calm : S.hot = none → X.calm = true
  gd : X.A.guards = some []
  room : S.hot = none → Room (2 * S.k + 2) X.A
  un : X.A.units + 200 < cLine
  pass : ∀ σ, PassesAt S.CX X σ (fun c d H' => W c d σ H')
  never : ∀ outer H s e s', ¬ S.CX outer H s (fun _ _ _ => False) e s'
  blt : ∀ x, S.blt.contains x = true → X.mg x = none
  glo : ∀ i x, S.gn[i]? = some x → ∃ v u, X.mg x = some u ∧ RelV v u ∧ ∀ N m H, RepV S.T N m H (S.G i) v
  fns : S.hot = none → ∀ i fc, S.F[i]? = some fc → ∃ f fd ps, AtF X.K X.mg S.T fc f ∧ ps.length = fc.np ∧ (∀ raw, FnG X.prog X.w X.K X.mg X.base S.CX (2 * S.k + 1) f fd ps (spF S i raw)) ∧
    (∀ j, j ≤ fc.dfl.length → ∃ dvs dss, Vals dvs dss ∧ Binds X.K fd ps dss ∧ ∀ N m H, RepL S.T N m H (fc.dfl.drop j) dvs) ∧ ∀ ks pm, S.ct.kw.contains (i, ks, pm) = true → KwB X.K fd ps ks pm
  cls : ∀ c, c < S.ct.nc → Cls X.K (S.T.cl c)
  noat : ∀ c f, c < S.ct.nc → (S.ct.na c).contains f = true → NoAttr X.K (S.T.cl c) f
  xcs : S.ct.xn.length = S.T.nx
  xc : ∀ c, c < S.T.nx → XcOk X.K S.ct S.T c
  xmg : ∀ c x, S.ct.xn[c]? = some x → X.mg x = some (.ref (S.T.xc c))
  hx : ∀ x, S.T.xi = some x → S.hot = some x.i ∧ ∃ X0 oe pn, X = Cx.suite X0 x.a ((x.a, oe) :: pn) ∧ Zc (.ref (S.T.xc x.x.cls)) x.d oe ∧ ∃ vs, oe.data = .fields vs
  mks : ∀ c, S.ct.mkb c = true → X.mg (S.ct.cn c) = some (.ref (S.T.cl c)) ∧ ∃ f, Mk X.K (S.T.cl c) f
def TEc (S : St0) (W : WX) (c : Ec) : TE := fun σ H Q => ∃ env h m, Sta S.T m h H σ env ∧ Post S.T h.length m H (RepV S.T) Q (fun c d H' => W c d σ H') (ev S.C c env h)
def TAc (S : St0) (W : WX) (cs : List Ec) : TA := fun σ H Q => ∃ env h m, Sta S.T m h H σ env ∧ Post S.T h.length m H (RepL S.T) Q (fun c d H' => W c d σ H') (evs S.C cs env h)
def TTc (S : St0) (W : WX) (c : Ec) : TT := fun σ H Q => ∃ env h m, Sta S.T m h H σ env ∧ Post S.T h.length m H (fun _ _ _ (a b : Bool) => a = b) Q (fun c d H' => W c d σ H') ((ev S.C c env h).bind testD)
theorem _root_.L2.PE.impH {X : Cx} {e : Expr} {t u : TE} (p : PE X e t) (h : ∀ σ H Q, u σ H Q → t σ H Q) : PE X e u := ⟨fun pins s σ H Q I q => p.run pins s σ H Q I (h σ H Q q)⟩
theorem _root_.L2.PT.impH {X : Cx} {e : Expr} {t u : TT} (p : PT X e t) (h : ∀ σ H Q, u σ H Q → t σ H Q) : PT X e u := ⟨fun pins s σ H Q I q => p.run pins s σ H Q I (h σ H Q q)⟩
theorem _root_.L2.PA.impH {X : Cx} {e : List Expr} {t u : TA} (p : PA X e t) (h : ∀ σ H Q, u σ H Q → t σ H Q) : PA X e u := ⟨fun pos pins s σ H Q I q => p.run pos pins s σ H Q I (h σ H Q q)⟩
theorem _root_.L2.PE.orH {X : Cx} {e : Expr} {t u : TE} (p : PE X e t) (q : PE X e u) : PE X e (fun σ H Q => t σ H Q ∨ u σ H Q) := ⟨fun pins s σ H Q I h => h.elim (p.run pins s σ H Q I) (q.run pins s σ H Q I)⟩
theorem _root_.L2.PI.impH {X : Cx} {tg e : Expr} {t u : TI} (p : PI X tg e t) (h : ∀ σ H Q, u σ H Q → t σ H Q) : PI X tg e u := ⟨fun pins s σ H Q I q => p.run pins s σ H Q I (h σ H Q q)⟩
theorem _root_.L2.PI.orH {X : Cx} {tg e : Expr} {t u : TI} (p : PI X tg e t) (q : PI X tg e u) : PI X tg e (fun σ H Q => t σ H Q ∨ u σ H Q) := ⟨fun pins s σ H Q I h => h.elim (p.run pins s σ H Q I) (q.run pins s σ H Q I)⟩
section
variable {S : St0} {X : Cx} {sc : Scope} {W : WX}
theorem vis_of (h : visB sc x = true) : Vis sc x := by
  unfold visB at h
  unfold Vis
  split at h <;> first | (rename_i e; simp [e]) | cases h
theorem loc_of {x : Str} (h : locB sc x = true) : L2.Loc sc x := by
  unfold locB at h
  unfold L2.Loc
  split at h <;> first | (rename_i e; simp [e]) | cases h
theorem gl_of (o : OkX X S sc W) {x : Str} (h : glB sc x = true) : Gl X x := by
  unfold glB at h
  show X.env.scope.names.lookup x = _
  rw [o.hsc]
  split at h
  · assumption
  · cases h
theorem okB_1 {x : Str} (h : okB x = true) : (x == ("__debug__" : Str)) = false := by
  unfold okB at h
  simp only [Bool.and_eq_true, Bool.not_eq_true'] at h
  exact h.1.1
theorem okB_2 {x : Str} (h : okB x = true) : (x == ("__classdict__" : Str)) = false := by
  unfold okB at h
  simp only [Bool.and_eq_true, Bool.not_eq_true'] at h
  exact h.1.2
theorem okB_3 {x : Str} (h : okB x = true) : x ≠ ("__name__" : Str) := by
  unfold okB at h
  simp only [Bool.and_eq_true, Bool.not_eq_true', decide_eq_false_iff_not] at h
  exact h.2
/-- no star -/
theorem star_cons {c : Ec} {e : Expr} {es : List Expr} {env : Env} (h : chkE S sc c e = true) : starEach (e :: es) env = (false, eval e env) :: starEach es env := by
  cases e with
  | Starred => cases c <;> exact absurd h Bool.false_ne_true
  | _ => rfl
theorem star_plain {env : Env} {pos : Pos} : ∀ {cs : List Ec} {es : List Expr}, chkEs S sc cs es = true → (backTo pos (starEach es env)).any (·.1) = false
  | [], [], _ => rfl
  | [], _ :: _, h => absurd h Bool.false_ne_true
  | _ :: _, [], h => absurd h Bool.false_ne_true
  | c :: cs, e :: es, h => by
    have h : (chkE S sc c e && chkEs S sc cs es) = true := h
    rw [Bool.and_eq_true] at h
    rw [star_cons h.1]
    show (false || (backTo pos (starEach es env)).any (·.1)) = false
    rw [star_plain h.2]
    rfl
theorem fromB_of (o : OkX X S sc W) {x y : Str} (h : fromB S sc x y = true) : x = y ∧ Gl X x ∧ X.mg x = none := by
  unfold fromB at h
  simp only [Bool.and_eq_true, decide_eq_true_eq] at h
  exact ⟨h.1.1, gl_of o h.1.2, o.blt x h.2⟩
theorem units_of (o : OkX X S sc W) : X.A.units + 200 < cLine := o.un
theorem hot_of {S : Ck} (h : S.hot.isNone = true) : S.hot = none := Option.isNone_iff_eq_none.mp h
theorem xi_of (o : OkX X S sc W) (h : S.hot = none) : S.T.xi = none := by
  cases e : S.T.xi with
  | none => rfl
  | some x =>
    have := (o.hx x e).1
    rw [h] at this
    cases this
end
end Hr
set_option maxHeartbeats 4000000
/-! The parts of the proof that a code means what its expression does. -/
namespace Hr
open PySem PySem.Spec PyProof.Rows L2
section
variable {S : St0} {X : Cx} {sc : Scope} {W : WX}
theorem tru_of {T : Tb} {m : Gh} {h : Hv} {H : Hp} {d : D} {v : V} {Q : Bool → Hp → Prop} {Wx : XK} (hr : HR T m H h) (r : RepV T h.length m H d v) (p : Post T h.length m H (fun _ _ _ (a b : Bool) => a = b) Q Wx (testD d h)) :
    ∃ k, truth h d = some k ∧ TruV T.K v H k ∧ Q k H := by
  unfold testD at p
  cases z : truth h d with
  | none => rw [z] at p; exact p.elim
  | some k =>
    rw [z] at p
    exact ⟨k, rfl, truth_rep hr r z, p m H k .refl hr rfl⟩
theorem test_of {T : Tb} {m : Gh} {h : Hv} {H : Hp} {d : D} {v : V} {α β : Type} {Ra : Nat → Gh → Hp → α → β → Prop} {Q : β → Hp → Prop} {Wx : XK} {f : Bool → Hv → Rs α} (hr : HR T m H h) (r : RepV T h.length m H d v) (p : Post T h.length m H Ra Q Wx ((testD d h).bind f)) :
    ∃ k, truth h d = some k ∧ TruV T.K v H k ∧ Post T h.length m H Ra Q Wx (f k h) := by
  unfold testD at p
  cases z : truth h d with
  | none => rw [z] at p; exact p.elim
  | some k =>
    rw [z] at p
    exact ⟨k, rfl, truth_rep hr r z, p⟩
/-- two operands, one after the other -/
theorem two_of {a b : Ec} {f : D → D → Hv → Rs D} {σ : L2.St} {H : Hp} {Q : VK} {env : En} {h : Hv} {m : Gh} (st : Sta S.T m h H σ env)
    (p : Post S.T h.length m H (RepV S.T) Q (fun c d H' => W c d σ H') ((ev S.C a env h).bind fun x h => (ev S.C b env h).bind fun y h => f x y h)) : tOp (rBin S.T f) (TEc S W a) (TEc S W b) σ H Q :=
  ⟨env, h, m, st, p.split fun d h1 m1 H1 v x hr r p1 => ⟨env, h1, m1, st.next x hr, p1.split fun e h2 m2 H2 u x2 hr2 r2 p2 => ⟨h2, m2, d, e, _, hr2, RepV.ext x2 _ _ r, r2, p2⟩⟩⟩
theorem s_bin {mm : Bool} {o : Operator} {a b : Ec} {x y : Expr} {pos : Pos} (ok : OkX X S sc W) (ha : PE X x (TEc S W a)) (hb : PE X y (TEc S W b)) : PE X (.BinOp x o y pos) (TEc S W (.bin mm o a b)) :=
  (pe_op (bin_ok ok.hK mm o) ha hb).impH fun σ H Q ⟨env, h, m, st, p⟩ => two_of st p
theorem s_cmp {o : CmpOp} {a b : Ec} {x y : Expr} {pos : Pos} (ok : OkX X S sc W) (ha : PE X x (TEc S W a)) (hb : PE X y (TEc S W b)) (hm : behindInMarks o y = false) : PE X (.Compare x [o] [y] pos) (TEc S W (.cmp o a b)) :=
  (pe_cmpR (cmp_ok ok.hK (by have := units_of ok; omega) o) ha hb hm).impH fun σ H Q ⟨env, h, m, st, p⟩ => two_of st p
theorem s_idx {a b : Ec} {x y : Expr} {pos : Pos} (ok : OkX X S sc W) (ha : PE X x (TEc S W a)) (hb : PE X y (TEc S W b)) (hs : notSlice y = true) : PE X (.Subscript x y pos) (TEc S W (.idx a b)) :=
  (pe_ix (idx_ok ok.hK (by have := units_of ok; omega)) ha hb (fun o i => by cases y <;> first | rfl | cases hs)).impH fun σ H Q ⟨env, h, m, st, p⟩ => two_of st p
theorem chain_of {o q : CmpOp} {a b c : Ec} {σ : L2.St} {H : Hp} {Q : VK} (t : TEc S W (.chain o q a b c) σ H Q) : tChain (rBin S.T (cmpD o)) (rBin S.T (cmpD q)) (TEc S W a) (TEc S W b) (TEc S W c) σ H Q := by
  obtain ⟨env, h, m, st, p⟩ := t
  refine ⟨env, h, m, st, p.split fun d h1 m1 H1 v x1 hr r p1 => ⟨env, h1, m1, st.next x1 hr, p1.split fun e h2 m2 H2 u x2 hr2 r2 p2 => ?_⟩⟩
  refine ⟨h2, m2, d, e, _, hr2, RepV.ext x2 _ _ r, r2, p2.split fun t h3 m3 H3 w x3 hr3 r3 p3 => ?_⟩
  cases t with
  | bl k =>
    cases r3
    refine ⟨k, rfl, ?_⟩
    cases k with
    | true =>
      rw [if_pos rfl]
      refine ⟨env, h3, m3, ((st.next x1 hr).next x2 hr2).next x3 hr3, p3.split fun g h4 m4 H4 w x4 hr4 r4 p4 => ⟨h4, m4, e, g, _, hr4, RepV.ext x4 _ _ (RepV.ext x3 _ _ r2), r4, p4⟩⟩
    | false =>
      rw [if_neg Bool.false_ne_true]
      exact p3 m3 H3 _ .refl hr3 rfl
  | _ => exact p3.elim
theorem s_chain {o q : CmpOp} {a b c : Ec} {x y z : Expr} {pos : Pos} (ok : OkX X S sc W) (ha : PE X x (TEc S W a)) (hb : PE X y (TEc S W b)) (hc : PE X z (TEc S W c)) (hm : behindInMarks q z = false) : PE X (.Compare x [o, q] [y, z] pos) (TEc S W (.chain o q a b c)) := by
  have hu : X.A.units + 65 < cLine := by have := units_of ok; omega
  exact (pe_chain (cmp_ok ok.hK hu o) (cmp_ok ok.hK hu q) ha hb hc hm).impH fun σ H Q t => chain_of t
theorem s_neg {a : Ec} {x : Expr} {pos : Pos} (ha : PE X x (TEc S W a)) : PE X (.UnaryOp .USub x pos) (TEc S W (.neg a)) := by
  refine (pe_un un_neg ha).impH fun σ H Q ⟨env, h, m, st, p⟩ => ⟨env, h, m, st, p.split fun d h1 m1 H1 v x hr r p1 => ?_⟩
  cases d with
  | int i =>
    cases r
    exact ⟨i, rfl, p1 m1 H1 _ .refl hr rfl⟩
  | _ => exact p1.elim
theorem s_not {a : Ec} {x : Expr} {pos : Pos} (ok : OkX X S sc W) (ha : PE X x (TEc S W a)) : PE X (.UnaryOp .Not x pos) (TEc S W (.not_ a)) := by
  refine (pe_notT ha).impH fun σ H Q ⟨env, h, m, st, p⟩ => ⟨env, h, m, st, p.split fun d h1 m1 H1 v x hr r p1 => ?_⟩
  obtain ⟨k, _, tv, p2⟩ := test_of hr r p1
  rw [ok.hK]
  exact ⟨k, tv, p2 m1 H1 _ .refl hr rfl⟩
theorem s_and {a b : Ec} {x y : Expr} {rest : List Expr} {pos : Pos} (ok : OkX X S sc W) (ha : PE X x (TEc S W a)) (hb : PE X (.BoolOp .And (y :: rest) pos) (TEc S W b)) : PE X (.BoolOp .And (x :: y :: rest) pos) (TEc S W (.and_ a b)) := by
  refine (pe_andT ha hb).impH fun σ H Q ⟨env, h, m, st, p⟩ => ⟨env, h, m, st, p.split fun d h1 m1 H1 v x hr r p1 => ?_⟩
  obtain ⟨k, _, tv, p2⟩ := test_of hr r p1
  rw [ok.hK]
  refine ⟨k, tv, ?_⟩
  cases k with
  | true => exact ⟨env, h1, m1, st.next x hr, p2⟩
  | false => exact p2 m1 H1 _ .refl hr r
theorem s_or {a b : Ec} {x y : Expr} {rest : List Expr} {pos : Pos} (ok : OkX X S sc W) (ha : PE X x (TEc S W a)) (hb : PE X (.BoolOp .Or (y :: rest) pos) (TEc S W b)) : PE X (.BoolOp .Or (x :: y :: rest) pos) (TEc S W (.or_ a b)) := by
  refine (pe_orT ha hb).impH fun σ H Q ⟨env, h, m, st, p⟩ => ⟨env, h, m, st, p.split fun d h1 m1 H1 v x hr r p1 => ?_⟩
  obtain ⟨k, _, tv, p2⟩ := test_of hr r p1
  rw [ok.hK]
  refine ⟨k, tv, ?_⟩
  cases k with
  | false => exact ⟨env, h1, m1, st.next x hr, p2⟩
  | true => exact p2 m1 H1 _ .refl hr r
/-! ### tests -/
theorem t_plain {a : Ec} {x : Expr} (ok : OkX X S sc W) (ha : PE X x (TEc S W a)) (he : ∀ whole, isTrue x X.env whole = (do let v ← whole; standAt x.pos; holding [v] (truthy v))) : PT X x (TTc S W a) := by
  refine (pt_truth ha he).impH fun σ H Q ⟨env, h, m, st, p⟩ => ⟨env, h, m, st, p.split fun d h1 m1 H1 v x hr r p1 => ?_⟩
  obtain ⟨k, _, tv, q⟩ := tru_of hr r p1
  rw [ok.hK]
  exact ⟨k, tv, q⟩
theorem t_not {a : Ec} {x : Expr} {pos : Pos} (ha : PT X x (TTc S W a)) : PT X (.UnaryOp .Not x pos) (TTc S W (.not_ a)) := by
  refine (pt_not ha).impH fun σ H Q ⟨env, h, m, st, p⟩ => ⟨env, h, m, st, ?_⟩
  have e : (ev S.C (.not_ a) env h).bind testD = ((ev S.C a env h).bind testD).bind fun b h => .ok (!b) h := by
    show ((ev S.C a env h).bind fun d h => (testD d h).bind fun b h => .ok (.bl (!b)) h).bind testD = _
    cases ev S.C a env h with
    | no => rfl
    | ex _ _ => rfl
    | ok d h1 =>
      show ((testD d h1).bind fun b h => .ok (.bl (!b)) h).bind testD = (testD d h1).bind fun b h => .ok (!b) h
      unfold testD
      cases truth h1 d <;> rfl
  rw [e] at p
  refine p.split fun b h1 m1 H1 k x hr r p1 => ?_
  subst r
  exact p1 m1 H1 _ .refl hr rfl
theorem and_bind {a b : Ec} {env : En} {h : Hv} : (ev S.C (.and_ a b) env h).bind testD = ((ev S.C a env h).bind testD).bind fun t h => if t then (ev S.C b env h).bind testD else .ok false h := by
  show ((ev S.C a env h).bind fun d h => (testD d h).bind fun t h => if t then ev S.C b env h else .ok d h).bind testD = _
  cases ev S.C a env h with
  | no => rfl
  | ex _ _ => rfl
  | ok d h1 =>
    show ((testD d h1).bind fun t h => if t then ev S.C b env h else .ok d h).bind testD = (testD d h1).bind fun t h => if t then (ev S.C b env h).bind testD else .ok false h
    have e : testD d h1 = (match truth h1 d with | some b => .ok b h1 | none => .no) := rfl
    cases z : truth h1 d with
    | none => rw [z] at e; rw [e]; rfl
    | some k =>
      rw [z] at e
      rw [e]
      cases k with
      | true => rfl
      | false => exact e
theorem or_bind {a b : Ec} {env : En} {h : Hv} : (ev S.C (.or_ a b) env h).bind testD = ((ev S.C a env h).bind testD).bind fun t h => if t then .ok true h else (ev S.C b env h).bind testD := by
  show ((ev S.C a env h).bind fun d h => (testD d h).bind fun t h => if t then .ok d h else ev S.C b env h).bind testD = _
  cases ev S.C a env h with
  | no => rfl
  | ex _ _ => rfl
  | ok d h1 =>
    show ((testD d h1).bind fun t h => if t then .ok d h else ev S.C b env h).bind testD = (testD d h1).bind fun t h => if t then .ok true h else (ev S.C b env h).bind testD
    have e : testD d h1 = (match truth h1 d with | some b => .ok b h1 | none => .no) := rfl
    cases z : truth h1 d with
    | none => rw [z] at e; rw [e]; rfl
    | some k =>
      rw [z] at e
      rw [e]
      cases k with
      | false => rfl
      | true => exact e
theorem t_and {a b : Ec} {x y : Expr} {rest : List Expr} {pos : Pos} (ha : PT X x (TTc S W a)) (hb : PW X (.BoolOp .And (y :: rest) pos) (TTc S W b)) : PW X (.BoolOp .And (x :: y :: rest) pos) (TTc S W (.and_ a b)) := by
  refine ⟨fun whole pins s σ H Q I h => (pw_and ha hb).run whole pins s σ H Q I ?_⟩
  obtain ⟨env, h, m, st, p⟩ := h
  rw [and_bind] at p
  refine ⟨env, h, m, st, p.split fun b h1 m1 H1 k x hr r p1 => ?_⟩
  subst r
  cases b with
  | true => exact ⟨env, h1, m1, st.next x hr, p1⟩
  | false => exact p1 m1 H1 _ .refl hr rfl
theorem t_or {a b : Ec} {x y : Expr} {rest : List Expr} {pos : Pos} (ha : PT X x (TTc S W a)) (hb : PW X (.BoolOp .Or (y :: rest) pos) (TTc S W b)) : PW X (.BoolOp .Or (x :: y :: rest) pos) (TTc S W (.or_ a b)) := by
  refine ⟨fun whole pins s σ H Q I h => (pw_or ha hb).run whole pins s σ H Q I ?_⟩
  obtain ⟨env, h, m, st, p⟩ := h
  rw [or_bind] at p
  refine ⟨env, h, m, st, p.split fun b h1 m1 H1 k x hr r p1 => ?_⟩
  subst r
  cases b with
  | false => exact ⟨env, h1, m1, st.next x hr, p1⟩
  | true => exact p1 m1 H1 _ .refl hr rfl
theorem bl_bind {α β : Type} {r : Rs α} {f : α → Hv → Rs β} {b : β} {h : Hv} (e : r.bind f = .ok b h) : ∃ a h1, r = .ok a h1 ∧ f a h1 = .ok b h := by
  cases r with
  | no => cases e
  | ok a h1 => exact ⟨a, h1, rfl, e⟩
  | ex _ _ => cases e
theorem cmpD_bl {o : CmpOp} {x y d : D} {h h1 : Hv} (e : cmpD o x y h = .ok d h1) : ∃ k, d = .bl k := by
  unfold cmpD at e
  cases z : cmpO o x y h with
  | none => rw [z] at e; cases e
  | some k => rw [z] at e; cases e; exact ⟨k, rfl⟩
/-- a test whose value is a truth -/
theorem t_bool {c : Ec} {σ : L2.St} {H : Hp} {Q : Bool → Hp → Prop} (k : ∀ env h d h1, ev S.C c env h = .ok d h1 → ∃ b, d = .bl b) (q : TTc S W c σ H Q) : TEc S W c σ H (fun x H' => ∃ k, x = .bl k ∧ Q k H') := by
  obtain ⟨env, h, m, st, p⟩ := q
  refine ⟨env, h, m, st, p.splitE fun d h1 m1 H1 v e x hr r p1 => ?_⟩
  obtain ⟨b, rfl⟩ := k env h d h1 e
  cases r
  exact ⟨b, rfl, p1 m1 H1 _ .refl hr rfl⟩
theorem t_cmp {o : CmpOp} {a b : Ec} {x y : Expr} {pos : Pos} (ok : OkX X S sc W) (ha : PE X x (TEc S W a)) (hb : PE X y (TEc S W b)) (hm : behindInMarks o y = false) : PT X (.Compare x [o] [y] pos) (TTc S W (.cmp o a b)) := by
  refine (pt_cmpR (cmp_ok ok.hK (by have := units_of ok; omega) o) ha hb hm).impH fun σ H Q q => ?_
  have q := t_bool (fun env h d h1 e => by
    obtain ⟨_, _, _, e⟩ := bl_bind e
    obtain ⟨_, _, _, e⟩ := bl_bind e
    exact cmpD_bl e) q
  obtain ⟨env, h, m, st, p⟩ := q
  exact two_of (f := fun x y h => cmpD o x y h) st p
theorem t_chain {o q : CmpOp} {a b c : Ec} {x y z : Expr} {pos : Pos} (ok : OkX X S sc W) (ha : PE X x (TEc S W a)) (hb : PE X y (TEc S W b)) (hc : PE X z (TEc S W c)) (hm : behindInMarks q z = false) : PT X (.Compare x [o, q] [y, z] pos) (TTc S W (.chain o q a b c)) := by
  have hu : X.A.units + 65 < cLine := by have := units_of ok; omega
  refine (pt_chain (cmp_ok ok.hK hu o) (cmp_ok ok.hK hu q) ha hb hc hm).impH fun σ H Q t => ?_
  have t := t_bool (fun env h d h1 e => by
    obtain ⟨_, _, _, e⟩ := bl_bind e
    obtain ⟨_, _, _, e⟩ := bl_bind e
    obtain ⟨w, h2, _, e⟩ := bl_bind e
    cases w with
    | bl k => cases k with
      | true =>
        obtain ⟨_, _, _, e⟩ := bl_bind e
        exact cmpD_bl e
      | false => cases e; exact ⟨_, rfl⟩
    | _ => cases e) t
  exact chain_of t
end
end Hr
set_option maxHeartbeats 4000000
/-! Displays, slices, calls, what is walked, targets, comprehensions. -/
namespace Hr
open PySem PySem.Spec PyProof.Rows L2
section
variable {S : St0} {X : Cx} {sc : Scope} {W : WX}
theorem s_args_nil : PA X [] (TAc S W []) := pa_nil.impH fun σ H Q ⟨env, h, m, st, p⟩ => p m H _ .refl st.hr rfl
theorem s_args_cons {c : Ec} {cs : List Ec} {e : Expr} {es : List Expr} (ha : PE X e (TEc S W c)) (hr : PA X es (TAc S W cs)) (hs : starEach (e :: es) X.env = (false, eval e X.env) :: starEach es X.env) : PA X (e :: es) (TAc S W (c :: cs)) := by
  refine (pa_cons ha hr hs).impH fun σ H Q ⟨env, h, m, st, p⟩ => ⟨env, h, m, st, p.split fun d h1 m1 H1 v x hr r p1 => ⟨env, h1, m1, st.next x hr, p1.split fun ds h2 m2 H2 vs x2 hr2 r2 p2 => ?_⟩⟩
  exact p2 m2 H2 _ .refl hr2 ⟨v, vs, rfl, RepV.ext x2 _ _ r, r2⟩
theorem s_tup {cs : List Ec} {es : List Expr} {k : Nat} {pos : Pos} (ha : PA X es (TAc S W cs)) : PE X (.Tuple es k pos) (TEc S W (.tup cs)) := by
  refine (pe_tup ha).impH fun σ H Q ⟨env, h, m, st, p⟩ => ⟨env, h, m, st, p.split fun ds h1 m1 H1 vs x hr r p1 => ?_⟩
  by_cases c : ds.length ≤ sizeLine
  · rw [if_pos c] at p1
    exact ⟨by rw [← r.length]; exact c, fun q hq => post_tup p1 hr r hq⟩
  · rw [if_neg c] at p1
    exact p1.elim
theorem s_lst {b : Bool} {cs : List Ec} {es : List Expr} {pos : Pos} (ha : PA X es (TAc S W cs)) : PE X (.List es pos) (TEc S W (.lst b cs)) := by
  refine (pe_lst ha).impH fun σ H Q ⟨env, h, m, st, p⟩ => ⟨env, h, m, st, p.split fun ds h1 m1 H1 vs x hr r p1 => ?_⟩
  by_cases c : ds.length ≤ sizeLine
  · rw [if_pos c] at p1
    exact ⟨by rw [← r.length]; exact c, fun q hq => post_mkL p1 hr r hq⟩
  · rw [if_neg c] at p1
    exact p1.elim
theorem s_dnew {b : Bool} {pos : Pos} : PE X (.Dict [] [] pos) (TEc S W (.dnew b)) :=
  pe_dnewK.impH fun σ H Q ⟨env, h, m, st, p⟩ q hq => post_mkDc p st.hr hq
/-- a slice's part -/
def TOc (S : St0) (W : WX) (c : Option Ec) : TO := fun σ H Q => ∃ env h m, Sta S.T m h H σ env ∧ Post S.T h.length m H (fun _ _ _ (a b : Option Int) => a = b) Q (fun c d H' => W c d σ H') (evo S.C c env h)
theorem s_part_none : PO X none (TOc S W none) := ⟨fun pins s σ H Q I ⟨env, h, m, st, p⟩ => po_none.run pins s σ H Q I (p m H _ .refl st.hr rfl)⟩
theorem s_part_some {c : Ec} {e : Expr} (ha : PE X e (TEc S W c)) : PO X (some e) (TOc S W (some c)) := by
  refine ⟨fun pins s σ H Q I ⟨env, h, m, st, p⟩ => (po_some ha).run pins s σ H Q I ⟨env, h, m, st, p.split fun d h1 m1 H1 v x hr r p1 => ?_⟩⟩
  cases d with
  | int i =>
    cases r
    exact ⟨i, rfl, p1 m1 H1 _ .refl hr rfl⟩
  | _ => exact p1.elim
theorem s_cut {b : Bool} {a : Ec} {lo hi : Option Ec} {x : Expr} {l u : Option Expr} {p2 pos : Pos} (ok : OkX X S sc W) (ha : PE X x (TEc S W a)) (hl : PO X l (TOc S W lo)) (hu : PO X u (TOc S W hi)) : PE X (.Subscript x (.Slice l u none p2) pos) (TEc S W (.cut b a lo hi)) := by
  refine (pe_slice (cut_ok ok.hK b) ha hl hu).impH fun σ H Q ⟨env, h, m, st, p⟩ => ⟨env, h, m, st, p.split fun d h1 m1 H1 v x hr r p1 => ⟨env, h1, m1, st.next x hr, p1.split fun i h2 m2 H2 j x2 hr2 r2 p2 => ?_⟩⟩
  subst r2
  refine ⟨env, h2, m2, (st.next x hr).next x2 hr2, p2.split fun i' h3 m3 H3 j' x3 hr3 r3 p3 => ?_⟩
  subst r3
  exact ⟨h3, m3, d, _, hr3, RepV.ext x3 _ _ (RepV.ext x2 _ _ r), p3⟩
theorem s_cond {c a b : Ec} {t x y : Expr} {pos : Pos} (hc : PT X t (TTc S W c)) (ha : PE X x (TEc S W a)) (hb : PE X y (TEc S W b)) : PE X (.IfExp t x y pos) (TEc S W (.cond c a b)) := by
  refine (pe_ifExp hc ha hb).impH fun σ H Q ⟨env, h, m, st, p⟩ => ⟨env, h, m, st, ?_⟩
  have e : ev S.C (.cond c a b) env h = ((ev S.C c env h).bind testD).bind fun t h => if t then ev S.C a env h else ev S.C b env h := by
    show (ev S.C c env h).bind (fun d h => (testD d h).bind fun t h => if t then ev S.C a env h else ev S.C b env h) = _
    cases ev S.C c env h <;> rfl
  rw [e] at p
  refine p.split fun b h1 m1 H1 k x hr r p1 => ?_
  subst r
  cases b with
  | true => exact ⟨env, h1, m1, st.next x hr, p1⟩
  | false => exact ⟨env, h1, m1, st.next x hr, p1⟩
/-! ### calls -/
theorem boot_bi (b : Bi) : bootBuiltins b.name = some (fnV b) := by cases b <;> decide +kernel
theorem bi_names (b : Bi) : b.name ≠ ("__name__" : Str) ∧ (b.name == ("__debug__" : Str)) = false := by cases b <;> decide +kernel
theorem s_bi {mm : Bool} {b : Bi} {cs : List Ec} {e : Expr} {es : List Expr} {p pos : Pos} (ok : OkX X S sc W) (hh : S.hot = none ∨ b = .repr) (hg : Gl X b.name) (hm : X.mg b.name = none) (ha : PA X (e :: es) (TAc S W cs)) (hs : starEach (e :: es) X.env = (false, eval e X.env) :: starEach es X.env)
    (hpl : (backTo pos (starEach es X.env)).any (·.1) = false) : PE X (.Call (.Name b.name p) (e :: es) [] pos) (TEc S W (.bi mm b cs)) := by
  have hc := bi_ok (X := X) (T := S.T) ok.hK b (hh.elim (fun h => .inr (ok.calm h)) .inl) ok.gd (by have := units_of ok; omega) mm
  have k : ∀ σ H Q, TEc S W (.bi mm b cs) σ H Q → tCB (rCall S.T (biD mm b)) (TAc S W cs) σ H Q := fun σ H Q ⟨env, h, m, st, p⟩ => ⟨env, h, m, st, p.split fun ds h1 m1 H1 vs x hr r p1 => ⟨h1, m1, ds, _, hr, r, p1⟩⟩
  obtain ⟨n1, n2⟩ := bi_names b
  have hv := boot_bi b
  cases b with
  | len => exact (pe_callB (id := "len") hc hg hm hv ha n1 n2 hs hpl).impH k
  | abs => exact (pe_callB (id := "abs") hc hg hm hv ha n1 n2 hs hpl).impH k
  | max => exact (pe_callB (id := "max") hc hg hm hv ha n1 n2 hs hpl).impH k
  | min => exact (pe_callB (id := "min") hc hg hm hv ha n1 n2 hs hpl).impH k
  | int => exact (pe_callTy (T := "int") hc hg hm hv ha n1 n2 hs hpl).impH k
  | list => exact (pe_callTy (T := "list") hc hg hm hv ha n1 n2 hs hpl).impH k
  | tuple => exact (pe_callTy (T := "tuple") hc hg hm hv ha n1 n2 hs hpl).impH k
  | sum => exact (pe_callB (id := "sum") hc hg hm hv ha n1 n2 hs hpl).impH k
  | any => exact (pe_callB (id := "any") hc hg hm hv ha n1 n2 hs hpl).impH k
  | all => exact (pe_callB (id := "all") hc hg hm hv ha n1 n2 hs hpl).impH k
  | repr => exact (pe_callB (id := "repr") hc hg hm hv ha n1 n2 hs hpl).impH k
  | sorted => exact (pe_callB (id := "sorted") hc hg hm hv ha n1 n2 hs hpl).impH k
theorem evs_length {C : Cf} : ∀ {cs : List Ec} {env : En} {h h1 : Hv} {ds : List D}, evs C cs env h = .ok ds h1 → ds.length = cs.length
  | [], _, _, _, _, e => by cases e; rfl
  | c :: cs, env, h, h1, ds, e => by
    obtain ⟨d, h2, _, e⟩ := bl_bind (show ((ev C c env h).bind fun d h => (evs C cs env h).bind fun ds h => .ok (d :: ds) h) = .ok ds h1 from e)
    obtain ⟨ds2, h3, e2, e⟩ := bl_bind e
    cases e
    show ds2.length + 1 = cs.length + 1
    rw [evs_length e2]
theorem callF_full {G : Nat → D} {F : List Fc} {k i : Nat} {raw : Bool} {ds : List D} {h : Hv} {fc : Fc} (e : F[i]? = some fc) (h1 : ds.length ≤ fc.np) (h2 : (fillA fc ds).length = fc.np) : callF G F k i raw (fillA fc ds) h = callF G F k i raw ds h := by
  cases k with
  | zero => rfl
  | succ k =>
    have a : ∀ es, callF G F (k + 1) i raw es h = (match F[i]? with
      | some fc => if (fillA fc es).length = fc.np ∧ es.length ≤ fc.np then retOf raw h (execs ⟨callF G F k, G, none⟩ fc.body (startE fc (fillA fc es)) h) else .no
      | none => .no) := fun _ => rfl
    have b : fillA fc (fillA fc ds) = fillA fc ds := by
      show fillA fc ds ++ fc.dfl.drop (fc.dfl.length + (fillA fc ds).length - fc.np) = _
      rw [h2, Nat.add_sub_cancel, List.drop_length, List.append_nil]
    rw [a, a, e]
    show (if (fillA fc (fillA fc ds)).length = fc.np ∧ (fillA fc ds).length ≤ fc.np then retOf raw h (execs ⟨callF G F k, G, none⟩ fc.body (startE fc (fillA fc (fillA fc ds))) h) else .no) = (if (fillA fc ds).length = fc.np ∧ ds.length ≤ fc.np then retOf raw h (execs ⟨callF G F k, G, none⟩ fc.body (startE fc (fillA fc ds)) h) else .no)
    rw [b, if_pos ⟨h2, Nat.le_of_eq h2⟩, if_pos ⟨h2, h1⟩]
theorem callF_no {G : Nat → D} {F : List Fc} {k i : Nat} {raw : Bool} {ds : List D} {h : Hv} {fc : Fc} (e : F[i]? = some fc) (h1 : ¬ ((fillA fc ds).length = fc.np ∧ ds.length ≤ fc.np)) : callF G F k i raw ds h = .no := by
  cases k with
  | zero => rfl
  | succ k =>
    show (match F[i]? with
      | some fc => if (fillA fc ds).length = fc.np ∧ ds.length ≤ fc.np then retOf raw h (execs ⟨callF G F k, G, none⟩ fc.body (startE fc (fillA fc ds)) h) else .no
      | none => .no) = .no
    rw [e]
    exact if_neg h1
theorem pe_never {e : Expr} : PE X e (fun _ _ _ => False) := ⟨fun _ _ _ _ _ _ h => h.elim⟩
theorem s_call {i : Nat} {raw : Bool} {cs : List Ec} {es : List Expr} {x : Str} {p pos : Pos} (ok : OkX X S sc W) (hh : S.hot = none) {fc : Fc} (hf : S.F[i]? = some fc) (hcl : fc.cls = none) (hx : fc.name = x) (hj : cs.length ≤ fc.np) (hnil : es = [] → cs = []) (hg : Gl X x) (hdb : (x == ("__debug__" : Str)) = false) (ha : PA X es (TAc S W cs))
    (hs : ∀ e r, es = e :: r → starEach (e :: r) X.env = (false, eval e X.env) :: starEach r X.env ∧ (backTo pos (starEach r X.env)).any (·.1) = false) : PE X (.Call (.Name x p) es [] pos) (TEc S W (.call i raw cs)) := by
  subst hx
  obtain ⟨f, fd, ps, hat, hl, hF, hd, _⟩ := ok.fns hh i fc hf
  obtain ⟨hmg, hk⟩ : X.mg fc.name = some (.ref f) ∧ PySem.W.keepIn X.K (.ref f) = true := by
    unfold AtF at hat
    rw [hcl] at hat
    exact hat
  have hj2 : fc.dfl.length + cs.length - fc.np ≤ fc.dfl.length := by omega
  obtain ⟨dvs, dss, hv, hb, hrep⟩ := hd _ hj2
  have k : ∀ σ H Q, TEc S W (.call i raw cs) σ H Q → tCallSD (spF S i raw) dvs (fun σ c d H' => W c d σ H') (TAc S W cs) σ H Q := fun σ H Q ⟨env, h, m, st, p⟩ => ⟨env, h, m, st, p.splitE fun ds h1 m1 H1 vs e x hr r p1 => by
    have el := evs_length e
    by_cases c : (fillA fc ds).length = fc.np
    · have c2 : ds.length ≤ fc.np := by rw [el]; exact hj
      refine ⟨h1, m1, fillA fc ds, fc, hf, c, hr, ?_, ?_⟩
      · unfold fillA
        rw [el]
        exact r.append (hrep _ _ _)
      · rw [callF_full hf c2 c]
        exact p1
    · rw [show S.C.call i raw ds h1 = callF S.G S.F S.k i raw ds h1 from rfl, callF_no hf (fun z => c z.1)] at p1
      exact p1.elim⟩
  cases es with
  | nil =>
    refine (pe_callG0 (hF raw) ((ok.room hh).mono (by omega)) ok.gd hg hmg hk hb hv (fun σ => ok.pass σ) hdb).impH fun σ H Q q => ?_
    have q := k σ H Q q
    rw [hnil rfl] at q
    obtain ⟨env, h, m, st, p⟩ := q
    exact p m H [] .refl st.hr rfl
  | cons e r =>
    obtain ⟨h1, h2⟩ := hs e r rfl
    exact (pe_callG (hF raw) ((ok.room hh).mono (by omega)) ok.gd hg hmg hk hb hv (fun σ => ok.pass σ) ha hdb h1 h2).impH k
/-! ### instances -/
theorem lookup_zip {N : Nat} {m : Gh} {H : Hp} {T : Tb} {f : Str} : ∀ {fs : List (Str × D)} {us : List V} {d : D}, RepL T N m H (fs.map (·.2)) us → fs.lookup f = some d → ∃ v, ((fs.map (·.1)).zip us).lookup f = some v ∧ RepV T N m H d v
  | [], _, _, _, e => by cases e
  | (g, x) :: r, us, d, ⟨v, w, eu, a, b⟩, e => by
    subst eu
    show ∃ u, List.lookup f ((g, v) :: (r.map (·.1)).zip w) = some u ∧ _
    rw [List.lookup_cons] at e ⊢
    split at e
    · cases e
      exact ⟨v, rfl, a⟩
    · exact lookup_zip b e
theorem lookup_none {f : Str} : ∀ {fs : List (Str × D)} {us : List V}, fs.lookup f = none → ((fs.map (·.1)).zip us).lookup f = none
  | [], _, _ => rfl
  | _ :: _, [], _ => rfl
  | (g, x) :: r, u :: us, e => by
    show List.lookup f ((g, u) :: (r.map (·.1)).zip us) = none
    rw [List.lookup_cons] at e ⊢
    split at e
    · cases e
    · exact lookup_none e
theorem put_zip {N : Nat} {m : Gh} {H : Hp} {T : Tb} {f : Str} {d : D} {v : V} (rv : RepV T N m H d v) : ∀ {fs : List (Str × D)} {us : List V}, RepL T N m H (fs.map (·.2)) us → ∃ us', L2.putF f v ((fs.map (·.1)).zip us) = ((putFD f d fs).map (·.1)).zip us' ∧ RepL T N m H ((putFD f d fs).map (·.2)) us'
  | [], us, r => ⟨[v], by cases r; rfl, v, [], rfl, rv, rfl⟩
  | (g, x) :: r, us, ⟨u, w, eu, a, b⟩ => by
    subst eu
    show ∃ us', L2.putF f v ((g, u) :: (r.map (·.1)).zip w) = ((putFD f d ((g, x) :: r)).map (·.1)).zip us' ∧ RepL T N m H ((putFD f d ((g, x) :: r)).map (·.2)) us'
    unfold L2.putF putFD
    by_cases c : g = f
    · rw [if_pos c, if_pos c]
      exact ⟨v :: w, rfl, v, w, rfl, rv, b⟩
    · rw [if_neg c, if_neg c]
      obtain ⟨us', e1, e2⟩ := put_zip rv b
      exact ⟨u :: us', by rw [e1]; rfl, u, us', rfl, a, e2⟩
theorem s_fld {c : Nat} {a : Ec} {f : Str} {x : Expr} {pos : Pos} (ok : OkX X S sc W) (ha : PE X x (TEc S W a)) (hb : attributeBase x f X.env (eval x X.env) = eval x X.env) (hc : c < S.ct.nc) (hn : (S.ct.na c).contains f = true) : PE X (.Attribute x f pos) (TEc S W (.fld c a f)) := by
  refine (pe_fld ha hb).impH fun σ H Q ⟨env, h, m, st, p⟩ => ⟨env, h, m, st, p.split fun d h1 m1 H1 v x hr r p1 => ?_⟩
  cases d with
  | ref n =>
    obtain ⟨hl, rfl⟩ := r
    have p1 : Post S.T h1.length m1 H1 (RepV S.T) Q _ (okD (match h1[n]? with
      | some (.ins c' fs) => if c' = c then fs.lookup f else none
      | _ => none) h1) := p1
    split at p1
    · rename_i c' fs e
      by_cases cc : c' = c
      · subst cc
        rw [if_pos rfl] at p1
        obtain ⟨dx, us, e1, e2, of, rl⟩ := hr.cell n _ e
        cases z : fs.lookup f with
        | none => rw [z] at p1; exact p1.elim
        | some d =>
          rw [z] at p1
          obtain ⟨v, ev, rv⟩ := lookup_zip rl z
          exact ⟨_, _, dx, _, v, rfl, e1, ok.cls c' hc, ok.noat c' f hc hn, ev, Post.now p1 hr rv⟩
      · rw [if_neg cc] at p1
        exact p1.elim
    · exact p1.elim
  | _ => exact p1.elim
theorem s_meth {c i : Nat} {raw : Bool} {o : Ec} {cs : List Ec} {x : Expr} {es : List Expr} {ap cp : Pos} {fc : Fc} (ok : OkX X S sc W) (hh : S.hot = none) (hf : S.F[i]? = some fc) (hcl : fc.cls = some c) (hj : cs.length + 1 = fc.np) (hc : c < S.ct.nc) (ho : PE X x (TEc S W o)) (ha : PA X es (TAc S W cs))
    (hb : attributeBase x fc.name X.env (eval x X.env) = eval x X.env) (hline : (ap.endLine == cp.line) = true) (hlen : es.length < 28) (hnil : es = [] → cs = []) (hst : (backTo cp (starEach es X.env)).any (·.1) = false)
    (hs : ∀ e r, es = e :: r → starEach (e :: r) X.env = (false, eval e X.env) :: starEach r X.env ∧ (backTo cp (starEach r X.env)).any (·.1) = false) : PE X (.Call (.Attribute x fc.name ap) es [] cp) (TEc S W (.meth c fc.name i raw o cs)) := by
  obtain ⟨f, fd, ps, hat, hl, hF, hd, _⟩ := ok.fns hh i fc hf
  have hm : Meth X.K (S.T.cl c) fc.name f := by
    unfold AtF at hat
    rw [hcl] at hat
    exact hat
  obtain ⟨dvs, dss, hv, hb2, hrep⟩ := hd _ (Nat.le_refl _)
  have hform : methodCallForm (es.length + 0) (backTo cp (starEach es X.env)) (backToKw cp (keywordEach [] X.env)) = true := by
    have h1 : (backTo cp (starEach es X.env)).all (!·.1) = true := by
      rw [List.all_eq_true]
      intro y hy
      have := List.any_eq_false.mp hst y hy
      simpa using this
    unfold methodCallForm
    rw [h1]
    show (true && true && decide (es.length + 0 + 0 < 30)) = true
    rw [decide_eq_true (by omega)]
    rfl
  have ht := ev_meth (es := es) hb hline hform
  have k : ∀ σ H Q, TEc S W (.meth c fc.name i raw o cs) σ H Q → tMethSD (S.T.cl c) fc.name (spF S i raw) dvs (fun σ c d H' => W c d σ H') (TEc S W o) (TAc S W cs) σ H Q := fun σ H Q ⟨env, h, m, st, p⟩ => ⟨env, h, m, st, p.split fun d h1 m1 H1 v x hr r p1 => by
    by_cases mo : methOk h1 c fc.name d = true
    · rw [if_pos mo] at p1
      cases d with
      | ref n =>
        obtain ⟨hl, rfl⟩ := r
        have mo1 : (match h1[n]? with
          | some (.ins c' fs) => decide (c' = c) && (fs.lookup fc.name).isNone
          | _ => false) = true := mo
        split at mo1
        · rename_i c' fs e
          rw [Bool.and_eq_true, decide_eq_true_eq] at mo1
          obtain ⟨rfl, mo1⟩ := mo1
          obtain ⟨dx, us, e1, e2, of, rl⟩ := hr.cell n _ e
          refine ⟨_, dx, _, rfl, e1, lookup_none (Option.isNone_iff_eq_none.mp mo1), env, h1, m1, st.next x hr, p1.splitE fun ds h2 m2 H2 ws ee x2 hr2 r2 p2 => ?_⟩
          have el := evs_length ee
          have ex : dvs = [] := by
            have := hrep 0 m1 H1
            rw [List.drop_length] at this
            exact this
          subst ex
          rw [List.append_nil]
          exact ⟨h2, m2, .ref n :: ds, fc, hf, by rw [List.length_cons, el]; exact hj, hr2, ⟨.ref (m1 n), ws, rfl, ⟨Nat.lt_of_lt_of_le hl x2.le, by rw [x2.mu n hl]⟩, r2⟩, p2⟩
        · cases mo1
      | _ => cases mo
    · rw [if_neg mo] at p1
      exact p1.elim⟩
  cases es with
  | nil =>
    refine (pe_methG0 ho (ok.cls c hc) hm (hF raw) ((ok.room hh).mono (by omega)) ok.gd hb2 hv (fun σ => ok.pass σ) ht).impH fun σ H Q q => ?_
    have q := k σ H Q q
    rw [hnil rfl] at q
    obtain ⟨env, h, m, st, p⟩ := q
    exact ⟨env, h, m, st, p.mono fun v H1 ⟨a, dx, fs, e1, e2, e3, env, h, m, st, p⟩ => ⟨a, dx, fs, e1, e2, e3, p m H1 [] .refl st.hr rfl⟩⟩
  | cons e r =>
    obtain ⟨h1, h2⟩ := hs e r rfl
    exact (pe_methG ho (ok.cls c hc) hm (hF raw) ((ok.room hh).mono (by omega)) ok.gd hb2 hv (fun σ => ok.pass σ) ha h1 h2 ht).impH k
theorem s_make {c i : Nat} {cs : List Ec} {es : List Expr} {p pos : Pos} {fc : Fc} (ok : OkX X S sc W) (hh : S.hot = none) (hf : S.F[i]? = some fc) (hcl : fc.cls = some c) (hx : fc.name = ("__init__" : Str)) (hj : cs.length + 1 = fc.np) (hmk : S.ct.mkb c = true) (hg : Gl X (S.ct.cn c)) (hdb : (S.ct.cn c == ("__debug__" : Str)) = false) (ha : PA X es (TAc S W cs)) (hnil : es = [] → cs = [])
    (hs : ∀ e r, es = e :: r → starEach (e :: r) X.env = (false, eval e X.env) :: starEach r X.env ∧ (backTo pos (starEach r X.env)).any (·.1) = false) : PE X (.Call (.Name (S.ct.cn c) p) es [] pos) (TEc S W (.make c i cs)) := by
  obtain ⟨f, fd, ps, hat, hl, hF, hd, _⟩ := ok.fns hh i fc hf
  have hm : Meth X.K (S.T.cl c) fc.name f := by
    unfold AtF at hat
    rw [hcl] at hat
    exact hat
  obtain ⟨dvs, dss, hv, hb2, hrep⟩ := hd _ (Nat.le_refl _)
  obtain ⟨hmg, f2, M⟩ := ok.mks c hmk
  have ef : f2 = f := by
    have a := hm.at_
    rw [hx, M.init] at a
    cases a
    rfl
  subst ef
  have k : ∀ σ H Q, TEc S W (.make c i cs) σ H Q → tMakeSD (S.T.cl c) (spF S i true) dvs (fun σ c d H' => W c d σ H') (TAc S W cs) σ H Q := fun σ H Q ⟨env, h, m, st, p⟩ => ⟨env, h, m, st, p.splitE fun ds h1 m1 H1 vs ee x hr r p1 => by
    intro a dx ha hdx ne
    have el := evs_length ee
    have ex : dvs = [] := by
      have := hrep 0 m1 H1
      rw [List.drop_length] at this
      exact this
    subst ex
    rw [List.append_nil]
    have hl : (h1 ++ [Cell.ins c []]).length = h1.length + 1 := by simp
    have hr1 := hr_new (o := .own a) hr hdx
    have ha1 : upd H1 dx (HO.own a) a = none := by rw [upd_ne (Ne.symm ne)]; exact ha
    have x1 : Ext h1.length m1 H1 h1.length m1 (upd H1 dx (.own a)) := ext_new hdx
    have x2 : Ext h1.length m1 (upd H1 dx (.own a)) (h1.length + 1) (m1.add h1.length a) (upd (upd H1 dx (.own a)) a (.ins (S.T.cl c) dx [])) := ext_cell ha1
    have od : Off h1.length m1 dx := off_new hr hdx
    have odx : Off (h1.length + 1) (m1.add h1.length a) dx := (x2.keep dx (.own a) upd_same od).2
    have hr2 : HR S.T (m1.add h1.length a) (upd (upd H1 dx (.own a)) a (.ins (S.T.cl c) dx [])) (h1 ++ [.ins c []]) :=
      hr_cellC hr1 ha1 ⟨dx, [], upd_same, by rw [upd_ne ne]; exact upd_same, odx, rfl⟩
    have xx : Ext h1.length m1 H1 (h1 ++ [Cell.ins c []]).length (m1.add h1.length a) (upd (upd H1 dx (.own a)) a (.ins (S.T.cl c) dx [])) := by
      rw [hl]
      exact x1.trans x2
    refine ⟨h1 ++ [.ins c []], m1.add h1.length a, .ref h1.length :: ds, fc, hf, by rw [List.length_cons, el]; exact hj, hr2, ⟨.ref a, vs, rfl, ⟨by rw [hl]; exact Nat.lt_succ_self _, by rw [add_same]⟩, RepL.ext xx _ _ r⟩, ?_⟩
    have p2 := Post.ext (r := (S.C.call i true (.ref h1.length :: ds) (h1 ++ [.ins c []])).bind fun v h' => madeD h1.length v h') p1 xx
    refine Post.split (f := fun v h' => madeD h1.length v h') p2 fun v h3 m3 H3 b x3 hr3 rb p3 => ?_
    cases v with
    | non =>
      cases rb
      refine ⟨rfl, ?_⟩
      have e3 : m3 h1.length = a := by rw [x3.mu _ (by rw [hl]; exact Nat.lt_succ_self _), add_same]
      have q := Post.now (d := .ref h1.length) (v := .ref a) p3 hr3 ⟨Nat.lt_of_lt_of_le (by rw [hl]; exact Nat.lt_succ_self _) x3.le, by rw [e3]⟩
      exact q
    | _ => exact p3.elim⟩
  cases es with
  | nil =>
    refine (pe_makeG0 M (hF true) ((ok.room hh).mono (by omega)) ok.gd hg hmg hb2 hv (fun σ => ok.pass σ) hdb).impH fun σ H Q q => ?_
    have q := k σ H Q q
    rw [hnil rfl] at q
    obtain ⟨env, h, m, st, p⟩ := q
    exact p m H [] .refl st.hr rfl
  | cons e r =>
    obtain ⟨h1, h2⟩ := hs e r rfl
    exact (pe_makeG M (hF true) ((ok.room hh).mono (by omega)) ok.gd hg hmg hb2 hv (fun σ => ok.pass σ) ha hdb h1 h2).impH k
/-! ### isinstance -/
theorem tyB_of (ok : OkX X S sc W) {n : String} {e : Expr} (h : tyB S sc (.ty n) e = true) : PE X e (tC (.ty n)) ∧ (∀ es : List Expr, starEach (e :: es) X.env = (false, eval e X.env) :: starEach es X.env) := by
  cases e with
  | Name x pos =>
    have h : (decide (x = Str.ofString n) && glB sc x && okB x && S.blt.contains x && (match bootBuiltins x with
      | some (.type m) => decide (m = n)
      | _ => false)) = true := h
    simp only [Bool.and_eq_true] at h
    obtain ⟨⟨⟨⟨h1, h2⟩, h3⟩, h4⟩, h5⟩ := h
    split at h5
    · rename_i m e3
      have h5 := of_decide_eq_true h5
      subst h5
      exact ⟨pe_bltn (gl_of ok h2) (ok.blt x h4) e3 rfl (okB_3 h3) (okB_1 h3), fun _ => rfl⟩
    · cases h5
  | _ => exact absurd (show false = true from h) Bool.false_ne_true
theorem tysB_of (ok : OkX X S sc W) : ∀ {cs : List Cl} {es : List Expr}, tysB S sc cs es = true → ∃ ns : List String, cs = ns.map Cl.ty ∧ ∃ t : TA, PA X es t ∧ ∀ σ H Q, Q (ns.map V.ty) H → t σ H Q
  | [], [], _ => ⟨[], rfl, _, pa_nil, fun _ _ _ q => q⟩
  | [], _ :: _, h => absurd h Bool.false_ne_true
  | c :: _, [], h => by cases c <;> exact absurd h Bool.false_ne_true
  | .own i :: cs, e :: es, h => absurd (show (false && tysB S sc cs es) = true from h) Bool.false_ne_true
  | .ty n :: cs, e :: es, h => by
    have h : (tyB S sc (.ty n) e && tysB S sc cs es) = true := h
    rw [Bool.and_eq_true] at h
    obtain ⟨p, st⟩ := tyB_of ok h.1
    obtain ⟨ns, e1, t, pa, k⟩ := tysB_of ok h.2
    subst e1
    exact ⟨n :: ns, rfl, _, pa_cons p pa (st es), fun σ H Q q => k σ H _ q⟩
theorem clsV_all : ∀ ns : List String, Paired ClsV (ns.map V.ty) (ns.map Value.type)
  | [] => .nil
  | n :: ns => .cons (.ty n) (clsV_all ns)
theorem s_isi {a : Ec} {cs : List Cl} {x t : Expr} {p pos : Pos} (ok : OkX X S sc W) (hg : Gl X "isinstance") (hm : X.mg "isinstance" = none) (ha : PE X x (TEc S W a)) (hst : ∀ es : List Expr, starEach (x :: es) X.env = (false, eval x X.env) :: starEach es X.env)
    (hc : clsB S sc cs t = true) : PE X (.Call (.Name "isinstance" p) [x, t] [] pos) (TEc S W (.isi a cs)) := by
  have one : ∀ n, cs = [.ty n] → tyB S sc (.ty n) t = true → PE X (.Call (.Name "isinstance" p) [x, t] [] pos) (TEc S W (.isi a cs)) := fun n e h => by
    subst e
    obtain ⟨pt, st⟩ := tyB_of ok h
    refine (pe_callB (id := "isinstance") call_isi hg hm (by decide +kernel) (pa_cons ha (pa_cons pt pa_nil (st [])) (hst _)) (hn := by decide +kernel) (hdb := by decide +kernel) (he := hst _) (hpl := by rw [st]; rfl)).impH fun σ H Q ⟨env, h, m, s, q⟩ => ⟨env, h, m, s, q.split fun d h1 m1 H1 v x hr r p1 => ?_⟩
    have p1 : Post S.T h1.length m1 H1 (RepV S.T) Q _ (blD ((tyD h1 d).bind fun t => isAny t [.ty n]) h1) := p1
    cases z : tyD h1 d with
    | none => rw [z] at p1; exact p1.elim
    | some ty =>
      rw [z] at p1
      have p1 : Post S.T h1.length m1 H1 (RepV S.T) Q _ (blD ((kitB ty n).bind fun b => if b then some true else some false) h1) := p1
      cases y : kitB ty n with
      | none => rw [y] at p1; exact p1.elim
      | some b =>
        rw [y] at p1
        have tr := tyD_rep hr r z
        rw [← ok.hK] at tr
        refine ⟨v, .ty n, _, _, b, rfl, .ty n, tr, kit_ty y, ?_⟩
        cases b with
        | true => exact p1 m1 H1 _ .refl hr rfl
        | false => exact p1 m1 H1 _ .refl hr rfl
  unfold clsB at hc
  split at hc
  · rename_i es k tp
    rw [Bool.and_eq_true, decide_eq_true_eq] at hc
    obtain ⟨ns, e1, u, pu, ku⟩ := tysB_of ok hc.1
    subst e1
    have hl : ns.length ≤ 100 := by have := hc.2; rwa [List.length_map] at this
    refine (pe_callB (id := "isinstance") call_isiT hg hm (by decide +kernel) (pa_cons ha (pa_cons (pe_tup pu) pa_nil rfl) (hst _)) (hn := by decide +kernel) (hdb := by decide +kernel) (he := hst _) (hpl := rfl)).impH fun σ H Q ⟨env, h, m, s, q⟩ => ⟨env, h, m, s, q.split fun d h1 m1 H1 v x hr r p1 => ?_⟩
    have p1 : Post S.T h1.length m1 H1 (RepV S.T) Q _ (blD ((tyD h1 d).bind fun t => isAny t (ns.map Cl.ty)) h1) := p1
    cases z : tyD h1 d with
    | none => rw [z] at p1; exact p1.elim
    | some ty =>
      rw [z] at p1
      have p1 : Post S.T h1.length m1 H1 (RepV S.T) Q _ (blD (isAny ty (ns.map Cl.ty)) h1) := p1
      cases y : isAny ty (ns.map Cl.ty) with
      | none => rw [y] at p1; exact p1.elim
      | some b =>
        rw [y] at p1
        refine ku σ H1 _ ⟨by rw [List.length_map, sizeLine_eq]; omega, fun q hq => ?_⟩
        have tr := tyD_rep (hr_new (o := .tup (ns.map V.ty)) hr hq) (RepV.ext (ext_new hq) _ _ r) z
        rw [← ok.hK] at tr
        exact ⟨v, q, ns.map V.ty, _, ns.map Value.type, b, rfl, upd_same, clsV_all ns, tr, isAny_kit y, p1 m1 _ _ (ext_new hq) (hr_new hr hq) rfl⟩
  · split at hc
    · rename_i c
      cases c with
      | ty n => exact one n rfl hc
      | own i => exact absurd (show false = true from hc) Bool.false_ne_true
    · cases hc
/-! ### methods -/
theorem s_mt {t : Mt} {o : Ec} {cs : List Ec} {x : Expr} {es : List Expr} {ap cp : Pos} (ok : OkX X S sc W) (ho : PE X x (TEc S W o)) (ha : PA X es (TAc S W cs)) (hb : attributeBase x t.name X.env (eval x X.env) = eval x X.env) (hline : (ap.endLine == cp.line) = true)
    (hargs : t.args = !es.isEmpty) (hlen : es.length < 28) (hnil : es = [] → cs = [])
    (hs : ∀ e r, es = e :: r → starEach (e :: r) X.env = (false, eval e X.env) :: starEach r X.env ∧ ∀ pos, (backTo pos (starEach r X.env)).any (·.1) = false) : PE X (.Call (.Attribute x t.name ap) es [] cp) (TEc S W (.mt t o cs)) := by
  have ty : t.ty = "list" := by cases t <;> rfl
  have k : ∀ σ H Q, TEc S W (.mt t o cs) σ H Q → tBM X.K "list" (rMt S.T (mtD t)) (TEc S W o) (TAc S W cs) σ H Q := fun σ H Q ⟨env, h, m, st, p⟩ => ⟨env, h, m, st, p.split fun d h1 m1 H1 v x hr r p1 => by
    by_cases c : tyD h1 d = some t.ty
    · rw [if_pos c] at p1
      rw [ty] at c
      obtain ⟨a, vs, e1, q⟩ := tyD_list hr r c
      subst e1
      rw [ok.hK]
      refine ⟨.inl ⟨rfl, vs, q⟩, env, h1, m1, st.next x hr, p1.split fun ds h2 m2 H2 ws x2 hr2 r2 p2 => ⟨h2, m2, d, ds, _, hr2, RepV.ext x2 _ _ r, r2, p2⟩⟩
    · rw [if_neg c] at p1
      exact p1.elim⟩
  have hm := mt_ok (X := X) (T := S.T) t
  cases es with
  | nil =>
    have k0 : ∀ σ H Q, TEc S W (.mt t o cs) σ H Q → tBM0 X.K "list" (rMt S.T (mtD t)) (TEc S W o) σ H Q := fun σ H Q q => by
      have q := k σ H Q q
      rw [hnil rfl] at q
      obtain ⟨env, h, m, st, p⟩ := q
      exact ⟨env, h, m, st, p.mono fun v H1 ⟨t1, env, h, m, st, p⟩ => ⟨t1, p m H1 [] .refl st.hr rfl⟩⟩
    cases t with
    | pop => exact (pe_bm0 PySem.F.plainAttrs_list PySem.F.slot_list_pop PySem.F.type_list_pop hm ho hb hline).impH k0
    | clear => exact (pe_bm0 PySem.F.plainAttrs_list PySem.F.slot_list_clear PySem.F.type_list_clear hm ho hb hline).impH k0
    | _ => exact absurd hargs (by decide)
  | cons e r =>
    obtain ⟨h1, h2⟩ := hs e r rfl
    have q : (backTo cp (starEach r X.env)).all (fun x => !x.1) = true := by
      have := h2 cp
      rw [List.any_eq_false] at this
      exact List.all_eq_true.mpr fun z hz => by simpa using this z hz
    have few : ((backTo cp (starEach (e :: r) X.env)).all (fun x => !x.1) && (backToKw cp (keywordEach [] X.env)).all (fun x => x.1.isSome)
      && decide ((e :: r).length + ([] : List Keyword).length + (if ([] : List Keyword).isEmpty then 0 else 1) < 30)) = true := by
      rw [h1]
      show ((true && (backTo cp (starEach r X.env)).all (fun x => !x.1)) && true && decide ((e :: r).length + 0 + 0 < 30)) = true
      rw [q, decide_eq_true (by omega)]
      rfl
    cases t with
    | append => exact (pe_bm PySem.F.plainAttrs_list PySem.F.slot_list_append PySem.F.type_list_append hm ho ha hb few hline h1 (h2 cp)).impH k
    | popAt => exact (pe_bm PySem.F.plainAttrs_list PySem.F.slot_list_pop PySem.F.type_list_pop hm ho ha hb few hline h1 (h2 cp)).impH k
    | extend => exact (pe_bm PySem.F.plainAttrs_list PySem.F.slot_list_extend PySem.F.type_list_extend hm ho ha hb few hline h1 (h2 cp)).impH k
    | _ => exact absurd hargs (by show ¬ false = !false; decide)
end
end Hr
set_option maxHeartbeats 4000000
/-! Names, what is walked, targets. -/
namespace Hr
open PySem PySem.Spec PyProof.Rows L2
section
variable {S : St0} {X : Cx} {sc : Scope} {W : WX}
theorem s_var {i : Nat} {x : Str} {pos : Pos} (ok : OkX X S sc W) (hi : S.N[i]? = some x) (hv : Vis sc x) (hb : okB x = true) : PE X (.Name x pos) (TEc S W (.var i)) := by
  refine (pe_var (i := i) (by rw [ok.hN]; exact hi) (by rw [ok.hsc]; exact hv) (okB_1 hb) (okB_2 hb)).impH fun σ H Q ⟨env, h, m, st, p⟩ => ?_
  have p : Post S.T h.length m H (RepV S.T) Q _ (match env[i]? with | some (some d) => .ok d h | _ => .no) := p
  split at p
  · rename_i d e
    obtain ⟨v, e1, r⟩ := st.en.2 i d e
    exact ⟨v, e1, p.now st.hr r⟩
  · exact p.elim
theorem s_glo {i : Nat} {x : Str} {pos : Pos} (ok : OkX X S sc W) (hi : S.gn[i]? = some x) (hg : Gl X x) (hb : okB x = true) : PE X (.Name x pos) (TEc S W (.glo i)) := by
  obtain ⟨v, u, hm, r, k⟩ := ok.glo i x hi
  exact (pe_glob hg hm r (okB_1 hb)).impH fun σ H Q ⟨env, h, m, st, p⟩ => p m H v .refl st.hr (k _ _ _)
theorem s_lit {d : D} {c : Const} {j pos} (h : litB d c = true) : PE X (.Constant c j pos) (TEc S W (.lit d)) := by
  have fin : ∀ {v : V}, (∀ N m H, RepV S.T N m H d v) → ∀ σ H Q, TEc S W (.lit d) σ H Q → tC v σ H Q := fun k σ H Q ⟨env, h, m, st, p⟩ => p m H _ .refl st.hr (k _ _ _)
  cases d <;> cases c <;> first
    | exact absurd h Bool.false_ne_true
    | exact pe_non.impH (fin fun _ _ _ => rfl)
    | (have e := eq_of_beq (show (_ == _) = true from h); subst e; exact pe_bl.impH (fin fun _ _ _ => rfl))
    | (have e := of_decide_eq_true h; subst e; exact pe_int.impH (fin fun _ _ _ => rfl))
    | (have e := of_decide_eq_true h; subst e; exact pe_str.impH (fin fun _ _ _ => rfl))
/-! ### what is walked -/
def TIc (S : St0) (W : WX) (it : Ic) : TI := fun σ H R => ∃ env h m, Sta S.T m h H σ env ∧ Post S.T h.length m H (fun N m H (I : Itr) (J : It) => WalkR S.T J I N m H) (fun J H' => R J H') (fun c d H' => W c d σ H') (evi S.C it env h)
theorem asS_of {h : Hv} {d : D} {ds : List D} (e : asS h d = some ds) (k : ∀ xs, d ≠ .tup xs) : asL h d = some ds ∨ ∃ xs, d = .ro xs := by
  cases d with
  | tup xs => exact absurd rfl (k xs)
  | ro xs => exact .inr ⟨xs, rfl⟩
  | _ => exact .inl e
theorem walkR_str {T : Tb} {N : Nat} {m : Gh} {H : Hp} {z : PySem.Str} : WalkR T (L2.Its z) ⟨z.cps.toList.map fun c => .str ⟨#[c]⟩, fun _ => True⟩ N m H := by
  have hl : (z.cps.toList.map fun c => D.str ⟨#[c]⟩).length = z.cps.size := by simp
  refine ⟨fun _ => True, fun i H v H' => H' = H ∧ ∃ c, z.cps[i]? = some c ∧ v = .str ⟨#[c]⟩, ?_, fun _ _ _ _ _ _ => trivial, fun i x m' H' h' H2 hi _ hr _ y => ?_⟩
  · show Walk _ (z.cps.toList.map fun c => D.str ⟨#[c]⟩).length _ _
    rw [hl]
    exact walk_str
  · obtain ⟨rfl, c, e, rfl⟩ := y
    refine ⟨.str ⟨#[c]⟩, ?_, .refl, hr, rfl⟩
    show (z.cps.toList.map fun c => D.str ⟨#[c]⟩)[i]? = _
    rw [List.getElem?_map, Array.getElem?_toList, e]
    rfl
/-- what is told, a dict, locked from then on -/
def tLk (td : TE) : TE := fun σ H Q => td σ H fun x H1 => ∃ d kvs, x = .ref d ∧ ((H1 d = some (.dK kvs) ∧ ∀ od, Q x (upd H1 d (.frz od (.dK kvs)))) ∨ ∃ od, H1 d = some (.frz od (.dK kvs)) ∧ Q x H1)
theorem pe_lk {e : Expr} {td : TE} (h : PE X e td) : PE X e (tLk td) := by
  refine ⟨fun pins s σ H Q I hw => ?_⟩
  refine thn (h.run pins s σ H _ I hw) fun v s1 ⟨x, H1, I1, r, d, kvs, ex, q⟩ => ?_
  rcases q with ⟨hd, q⟩ | ⟨od, hd, q⟩
  · obtain ⟨od, I2⟩ := I1.lock hd trivial
    exact ⟨x, _, I2, r, q od⟩
  · exact ⟨x, H1, I1, r, q⟩
theorem s_seq {a : Ec} {tg e : Expr} (ok : OkX X S sc W) (ha : PE X e (TEc S W a)) : PI X tg e (TIc S W (.seq a)) := by
  refine (PI.orH (PI.orH (PI.orH (pi_list ha) (pi_tup ha)) (pi_str ha)) (pi_keys (pe_lk ha))).impH fun σ H R ⟨env, h, m, st, p⟩ => ?_
  by_cases c3 : ∃ ks us h1, ev S.C a env h = .ok (.dct ks us) h1
  · refine .inr ⟨env, h, m, st, p.splitE fun d h1 m1 H1 v e x hr r p1 => ?_⟩
    obtain ⟨ks, us, h2, e2⟩ := c3
    rw [e2] at e
    cases e
    obtain ⟨b, vs, rfl, ⟨kk, e1, l1, q⟩, f, l⟩ := r
    rcases q with q | ⟨od, q⟩
    · refine ⟨b, _, rfl, .inl ⟨q, fun od => ⟨b, od, rfl, .inl ⟨_, upd_same, ?_⟩⟩⟩⟩
      exact p1 m1 _ _ (ext_lock q f.2) (hr_lock hr q f) (walkR_keys e1 l1 upd_same f)
    · exact ⟨b, _, rfl, .inr ⟨od, q, b, od, rfl, .inl ⟨_, q, p1 m1 H1 _ .refl hr (walkR_keys e1 l1 q f)⟩⟩⟩
  refine .inl ?_
  by_cases c2 : ∃ z h1, ev S.C a env h = .ok (.str z) h1
  · refine .inr ⟨env, h, m, st, p.splitE fun d h1 m1 H1 v e x hr r p1 => ?_⟩
    obtain ⟨z, h2, e2⟩ := c2
    rw [e2] at e
    cases e
    cases r
    exact ⟨z, rfl, p1 m1 H1 _ .refl hr walkR_str⟩
  refine .inl ?_
  by_cases c : ∃ xs h1, ev S.C a env h = .ok (.tup xs) h1
  · refine .inr ⟨env, h, m, st, p.splitE fun d h1 m1 H1 v e x hr r p1 => ?_⟩
    obtain ⟨xs, h2, e2⟩ := c
    rw [e2] at e
    cases e
    obtain ⟨b, a, vs, ev, sq, hl, kind, later⟩ := seq_later (ds := xs) hr r rfl
    have b0 : b = false := by
      rcases kind with ⟨_, z | ⟨_, z⟩⟩ | z
      · cases z
      · cases z
      · exact z.1
    subst b0
    rw [ok.hK]
    exact ⟨a, ev, ⟨vs, sq⟩, p1 m1 H1 _ .refl hr (walkR_seq (b := false) later)⟩
  · refine .inl ⟨env, h, m, st, p.splitE fun d h1 m1 H1 v e x hr r p1 => ?_⟩
    cases z : asS h1 d with
    | none =>
      rw [z] at p1
      cases d with
      | str z => exact absurd ⟨_, _, e⟩ c2
      | dct _ _ => exact absurd ⟨_, _, _, e⟩ c3
      | _ => exact p1.elim
    | some ds =>
      rw [z] at p1
      obtain ⟨b, a, vs, ev, sq, hl, kind, later⟩ := seq_later hr r z
      have b0 : b = true := by
        rcases kind with q | ⟨_, q⟩
        · exact q.1
        · subst q
          exact absurd ⟨_, _, e⟩ c
      subst b0
      rw [ok.hK]
      exact ⟨a, ev, ⟨vs, sq⟩, p1 m1 H1 _ .refl hr (walkR_seq (b := true) later)⟩
theorem s_rng1 {a : Ec} {tg e : Expr} {p pos : Pos} (hg : Gl X "range") (hm : X.mg "range" = none) (ha : PE X e (TEc S W a)) (hst : ∀ es : List Expr, starEach (e :: es) X.env = (false, eval e X.env) :: starEach es X.env) : PI X tg (.Call (.Name "range" p) [e] [] pos) (TIc S W (.rng1 a)) := by
  refine (pi_range1 hg hm (pa_cons ha pa_nil (hst _)) (hst _)).impH fun σ H R ⟨env, h, m, st, p⟩ => ⟨env, h, m, st, p.split fun d h1 m1 H1 v x hr r p1 => ?_⟩
  cases d with
  | int j =>
    cases r
    have p1 : Post (α := Hr.Itr) (β := It) S.T h1.length m1 H1 _ _ _ (if -(2 ^ 62) ≤ j ∧ j < 2 ^ 62 then .ok ⟨(List.range j.toNat).map fun n : Nat => .int (0 + (n : Int)), fun _ => True⟩ h1 else .no) := p1
    by_cases c : -(2 ^ 62) ≤ j ∧ j < 2 ^ 62
    · rw [if_pos c] at p1
      exact ⟨j, rfl, c.1, c.2, p1 m1 H1 _ .refl hr walkR_range⟩
    · rw [if_neg c] at p1
      exact p1.elim
  | _ => exact p1.elim
theorem s_rng2 {a b : Ec} {tg e f : Expr} {p pos : Pos} (hg : Gl X "range") (hm : X.mg "range" = none) (ha : PE X e (TEc S W a)) (hb : PE X f (TEc S W b)) (hst : ∀ es : List Expr, starEach (e :: es) X.env = (false, eval e X.env) :: starEach es X.env)
    (hst2 : ∀ es : List Expr, starEach (f :: es) X.env = (false, eval f X.env) :: starEach es X.env) : PI X tg (.Call (.Name "range" p) [e, f] [] pos) (TIc S W (.rng2 a b)) := by
  refine (pi_range2 hg hm (pa_cons ha (pa_cons hb pa_nil (hst2 _)) (hst _)) (by rw [hst, hst2]; rfl) (hst2 _)).impH fun σ H R ⟨env, h, m, st, p⟩ => ⟨env, h, m, st, p.split fun d h1 m1 H1 v x hr r p1 => ⟨env, h1, m1, st.next x hr, p1.split fun d2 h2 m2 H2 v2 x2 hr2 r2 p2 => ?_⟩⟩
  cases d with
  | int i =>
    cases d2 with
    | int j =>
      cases r
      cases r2
      have p2 : Post (α := Hr.Itr) (β := It) S.T h2.length m2 H2 _ _ _ (if -(2 ^ 62) ≤ i ∧ i < 2 ^ 62 ∧ -(2 ^ 62) ≤ j ∧ j < 2 ^ 62 then .ok ⟨(List.range (j - i).toNat).map fun n : Nat => .int (i + (n : Int)), fun _ => True⟩ h2 else .no) := p2
      by_cases c : -(2 ^ 62) ≤ i ∧ i < 2 ^ 62 ∧ -(2 ^ 62) ≤ j ∧ j < 2 ^ 62
      · rw [if_pos c] at p2
        exact ⟨i, j, rfl, c, p2 m2 H2 _ .refl hr2 walkR_range⟩
      · rw [if_neg c] at p2
        exact p2.elim
    | _ => exact p2.elim
  | _ => cases d2 <;> exact p2.elim
theorem s_zip {a b : Ec} {e f : Expr} {p pos tpos : Pos} {elts : List Expr} {kk : Nat} (ok : OkX X S sc W) (hg : Gl X "zip") (hm : X.mg "zip" = none) (ha : PE X e (TEc S W a)) (hb : PE X f (TEc S W b)) (hst : ∀ es : List Expr, starEach (e :: es) X.env = (false, eval e X.env) :: starEach es X.env)
    (hst2 : ∀ es : List Expr, starEach (f :: es) X.env = (false, eval f X.env) :: starEach es X.env) : PI X (.Tuple elts kk tpos) (.Call (.Name "zip" p) [e, f] [] pos) (TIc S W (.zip a b)) := by
  refine (pi_zipb hg hm (pa_cons ha (pa_cons hb pa_nil (hst2 _)) (hst _)) (hst _) (by rw [hst2]; rfl)).impH fun σ H R ⟨env, h, m, st, p⟩ => ⟨env, h, m, st, p.split fun d h1 m1 H1 v x hr r p1 => ⟨env, h1, m1, st.next x hr, p1.split fun d2 h2 m2 H2 v2 x2 hr2 r2 p2 => ?_⟩⟩
  cases z : asS h2 d with
  | none => rw [z] at p2; exact p2.elim
  | some xs =>
    cases y : asS h2 d2 with
    | none => rw [z, y] at p2; exact p2.elim
    | some ys =>
      rw [z, y] at p2
      obtain ⟨b1, a1, vs1, e1, sq1, hl1, _, l1⟩ := seq_later hr2 (RepV.ext x2 _ _ r) z
      obtain ⟨b2, a2, vs2, e2, sq2, hl2, _, l2⟩ := seq_later hr2 r2 y
      subst e1 e2
      rw [ok.hK]
      exact ⟨b1, b2, a1, a2, vs1, vs2, rfl, sq1, sq2, p2 m2 H2 _ .refl hr2 (walkR_zip l1 l2)⟩
theorem asR_S {h : Hv} {d : D} {ds : List D} (e : asR h d = some ds) : asS h d = some ds ∧ ∀ xs, d ≠ .tup xs := by
  cases d with
  | tup xs => cases e
  | _ => exact ⟨e, fun _ z => nomatch z⟩
theorem s_enum {a : Ec} {e : Expr} {p pos tpos : Pos} {elts : List Expr} {kk : Nat} (ok : OkX X S sc W) (hg : Gl X "enumerate") (hm : X.mg "enumerate" = none) (ha : PE X e (TEc S W a)) (hst : ∀ es : List Expr, starEach (e :: es) X.env = (false, eval e X.env) :: starEach es X.env) :
    PI X (.Tuple elts kk tpos) (.Call (.Name "enumerate" p) [e] [] pos) (TIc S W (.enum a)) := by
  refine (PI.orH (pi_enum hg hm (pa_cons ha pa_nil (hst _)) (hst _)) (pi_enumT hg hm (pa_cons ha pa_nil (hst _)) (hst _))).impH fun σ H R ⟨env, h, m, st, p⟩ => ?_
  by_cases ct : ∃ xs h1, ev S.C a env h = .ok (.tup xs) h1
  · refine .inr ⟨env, h, m, st, p.splitE fun d h1 m1 H1 v e x hr r p1 => ?_⟩
    obtain ⟨xs, h2, e2⟩ := ct
    rw [e2] at e
    cases e
    obtain ⟨b, a, vs, ev, sq, hl, kind, later⟩ := seq_later (ds := xs) hr r rfl
    have b0 : b = false := by
      rcases kind with ⟨_, z | ⟨_, z⟩⟩ | z
      · cases z
      · cases z
      · exact z.1
    subst b0 ev
    rw [ok.hK]
    exact ⟨a, vs, rfl, sq, p1 m1 H1 _ .refl hr (walkR_enumT later)⟩
  refine .inl ⟨env, h, m, st, p.splitE fun d h1 m1 H1 v e x hr r p1 => ?_⟩
  cases z : asS h1 d with
  | none => rw [z] at p1; exact p1.elim
  | some xs =>
    rw [z] at p1
    have ne : ∀ ys, d ≠ .tup ys := fun ys ed => ct ⟨ys, h1, by rw [e, ed]⟩
    obtain ⟨b1, a1, vs1, e1, sq1, hl1, kind, l1⟩ := seq_later hr r z
    have b0 : b1 = true := by
      rcases kind with q | ⟨_, q⟩
      · exact q.1
      · exact absurd q (ne _)
    subst b0 e1
    rw [ok.hK]
    exact ⟨a1, vs1, rfl, sq1, p1 m1 H1 _ .refl hr (walkR_enum l1)⟩
theorem s_rev {a : Ec} {tg e : Expr} {p pos : Pos} (ok : OkX X S sc W) (hg : Gl X "reversed") (hm : X.mg "reversed" = none) (ha : PE X e (TEc S W a)) (hst : ∀ es : List Expr, starEach (e :: es) X.env = (false, eval e X.env) :: starEach es X.env) : PI X tg (.Call (.Name "reversed" p) [e] [] pos) (TIc S W (.rev a)) := by
  refine (RT.pi_revA hg hm ha (hst _)).impH fun σ H R ⟨env, h, m, st, p⟩ => ⟨env, h, m, st, p.split fun d h1 m1 H1 v x hr r p1 => ?_⟩
  cases z : asS h1 d with
  | none => rw [z] at p1; exact p1.elim
  | some xs =>
    rw [z] at p1
    obtain ⟨b1, a1, vs1, e1, sq1, hl1, _, l1⟩ := seq_later hr r z
    subst e1
    rw [ok.hK]
    refine ⟨a1, vs1, rfl, ?_⟩
    have q := p1 m1 H1 _ .refl hr (walkR_rev l1)
    rw [← hl1] at q
    cases b1 with
    | true => exact .inl ⟨sq1, q⟩
    | false => exact .inr ⟨sq1, q⟩
/-! ### targets -/
def GTc (T : Tb) (t : Tc) : TG := fun v σ H Q => ∃ env h m d env', Sta T m h H σ env ∧ RepV T h.length m H d v ∧ setT t d env = some env' ∧ ∀ σ', Sta T m h H σ' env' → (∀ vs, t.inB vs = true → L2.wipe σ' vs = L2.wipe σ vs) → Q σ' H
def GTs (T : Tb) (ts : List Tc) : TGs := fun vs σ H Q => ∃ env h m ds env', Sta T m h H σ env ∧ RepL T h.length m H ds vs ∧ setTs ts ds env = some env' ∧ ∀ σ', Sta T m h H σ' env' → (∀ vs, inBs vs ts = true → L2.wipe σ' vs = L2.wipe σ vs) → Q σ' H
theorem set_comm' {α : Type} {l : List α} {i j : Nat} {a : α} : (l.set i a).set j a = (l.set j a).set i a := by
  by_cases h : i = j
  · rw [h]
  · exact List.set_comm _ _ h
theorem wipe_set : ∀ {vs : List Nat} {σ : L2.St} {i : Nat} {x : Option V}, i ∈ vs → L2.wipe (σ.set i x) vs = L2.wipe σ vs
  | [], _, _, _, h => absurd h (by simp)
  | v :: vs, σ, i, x, h => by
    show (L2.wipe (σ.set i x) vs).set v none = (L2.wipe σ vs).set v none
    by_cases hi : i ∈ vs
    · rw [wipe_set hi]
    · have e : v = i := by
        rcases List.mem_cons.mp h with e | e
        · exact e.symm
        · exact absurd e hi
      subst e
      have k : ∀ (ws : List Nat) (τ : L2.St), (L2.wipe (τ.set v x) ws).set v none = (L2.wipe τ ws).set v none := fun ws => by
        induction ws with
        | nil => intro τ; show (τ.set v x).set v none = τ.set v none; rw [List.set_set]
        | cons w ws ih =>
          intro τ
          show ((L2.wipe (τ.set v x) ws).set w none).set v none = ((L2.wipe τ ws).set w none).set v none
          rw [set_comm', ih τ, set_comm']
      exact k vs σ
theorem wipe_wipe {σ : L2.St} : ∀ {ws vs : List Nat}, (∀ i ∈ ws, i ∈ vs) → L2.wipe (L2.wipe σ ws) vs = L2.wipe σ vs
  | [], _, _ => rfl
  | w :: ws, vs, h => by
    show L2.wipe ((L2.wipe σ ws).set w none) vs = _
    rw [wipe_set (h w List.mem_cons_self), wipe_wipe fun i hi => h i (List.mem_cons_of_mem _ hi)]
theorem each_of {N : List Str} {sct : Scope} {t : Tc} {e : Expr} {es : List Expr} {env : Env} (h : chkT N sct t e = true) : assignEach (e :: es) env = (false, assign e env) :: assignEach es env := by
  cases e with
  | Starred => cases t <;> exact absurd h Bool.false_ne_true
  | _ => rfl
theorem eachs_of {N : List Str} {sct : Scope} {env : Env} : ∀ {ts : List Tc} {es : List Expr}, chkTs N sct ts es = true → (assignEach es env).length = ts.length ∧ (assignEach es env).findIdx? (·.1) = none
  | [], [], _ => ⟨rfl, rfl⟩
  | [], _ :: _, h => absurd h Bool.false_ne_true
  | _ :: _, [], h => absurd h Bool.false_ne_true
  | t :: ts, e :: es, h => by
    have h : (chkT N sct t e && chkTs N sct ts es) = true := h
    rw [Bool.and_eq_true] at h
    obtain ⟨h1, h2⟩ := eachs_of (env := env) h.2
    rw [each_of h.1]
    refine ⟨by rw [List.length_cons, List.length_cons, h1], ?_⟩
    rw [List.findIdx?_cons, h2]
    rfl
theorem setTs_length : ∀ {ts : List Tc} {ds : List D} {env env' : En}, setTs ts ds env = some env' → ts.length = ds.length
  | [], [], _, _, _ => rfl
  | [], _ :: _, _, _, h => nomatch h
  | _ :: _, [], _, _, h => nomatch h
  | t :: ts, d :: ds, env, env', h => by
    have h : (setT t d env).bind (setTs ts ds) = some env' := h
    cases z : setT t d env with
    | none => rw [z] at h; cases h
    | some e1 =>
      rw [z] at h
      rw [List.length_cons, List.length_cons, setTs_length (show setTs ts ds e1 = some env' from h)]
section
variable {sct : Scope} (hc : X.calm = true) (hK : X.K = S.T.K) (hN : X.N = S.N) (nd : X.N.Nodup) (hxi : S.T.xi = none) (hl : ∀ x, locB sct x = true → L2.Loc X.env.scope x ∧ (X.fn x = true ∨ X.env.scope.names.lookup x = some .local))
include hc hK hN nd hxi hl
mutual
theorem pgT : ∀ (t : Tc) (e : Expr), chkT S.N sct t e = true → PG X e (GTc S.T t)
  | .nm i, e, h => by
    cases e with
    | Name x pos =>
      have h : (decide (S.N[i]? = some x) && locB sct x) = true := h
      rw [Bool.and_eq_true, decide_eq_true_eq] at h
      obtain ⟨l1, l2⟩ := hl x h.2
      refine ⟨fun pins s σ H v u Q I r ⟨env, h0, m, d, env', st, rv, e, k⟩ => (pg_name nd (by rw [hN]; exact h.1) l1 l2).run pins s σ H v u Q I r ?_⟩
      cases (show some (env.set i (some d)) = some env' from e)
      exact k _ ⟨st.hr, st.en.set rv, .calm hxi⟩ fun vs hv => wipe_set (by simpa [Tc.inB] using hv)
    | _ => exact absurd h Bool.false_ne_true
  | .tp ts, e, h => by
    cases e with
    | Tuple es kk pos =>
      have h : chkTs S.N sct ts es = true := h
      obtain ⟨h1, h2⟩ := eachs_of (env := X.env) h
      refine ⟨fun pins s σ H v u Q I r ⟨env, h0, m, d, env', st, rv, e, k⟩ => (pg_tup hc (pgTs ts es h) h1 h2).run pins s σ H v u Q I r ?_⟩
      cases d with
      | tup ds =>
        have e : setTs ts ds env = some env' := e
        obtain ⟨a, vs, ev, q, l⟩ := rep_tup rv
        rw [hK]
        exact ⟨a, vs, ev, q, by rw [← l.length, setTs_length e], env, h0, m, ds, env', st, l, e, k⟩
      | _ => cases e
    | _ => exact absurd h Bool.false_ne_true
theorem pgTs : ∀ (ts : List Tc) (es : List Expr), chkTs S.N sct ts es = true → PGs X es (GTs S.T ts)
  | [], es, h => by
    cases es with
    | nil =>
      refine ⟨fun pins s σ H vs us Q I r ⟨env, h0, m, ds, env', st, rv, e, k⟩ => pgs_nil.run pins s σ H vs us Q I r ?_⟩
      cases ds with
      | nil =>
        cases rv
        cases (show some env = some env' from e)
        exact ⟨rfl, k _ st fun _ _ => rfl⟩
      | cons _ _ => cases e
    | cons _ _ => exact absurd h Bool.false_ne_true
  | t :: ts, es, h => by
    cases es with
    | nil => exact absurd h Bool.false_ne_true
    | cons e es =>
      have h : (chkT S.N sct t e && chkTs S.N sct ts es) = true := h
      rw [Bool.and_eq_true] at h
      refine ⟨fun pins s σ H vs us Q I r ⟨env, h0, m, ds, env', st, rv, q, k⟩ => (pgs_cons (pgT t e h.1) (pgTs ts es h.2) (by rw [each_of h.1]; rfl)).run pins s σ H vs us Q I r ?_⟩
      cases ds with
      | nil => cases q
      | cons d ds =>
        obtain ⟨v, w, ev, r1, r2⟩ := rv
        have q : (setT t d env).bind (setTs ts ds) = some env' := q
        cases z : setT t d env with
        | none => rw [z] at q; cases q
        | some e1 =>
          rw [z] at q
          refine ⟨v, w, ev, env, h0, m, d, e1, st, r1, z, fun σ1 st1 w1 => ?_⟩
          refine ⟨e1, h0, m, ds, env', st1, r2, q, fun σ2 st2 w2 => k σ2 st2 fun vs hv => ?_⟩
          have hv : (t.inB vs && inBs vs ts) = true := hv
          rw [Bool.and_eq_true] at hv
          rw [w2 vs hv.2, w1 vs hv.1]
end
end
end
end Hr
set_option maxHeartbeats 4000000
/-! List comprehensions. -/
namespace Hr
open PySem PySem.Spec PyProof.Rows L2
section
variable {T : Tb} {N N' : Nat} {m m' : Gh} {H H' : Hp} {h h' : Hv}
/-- what is laid aside -/
def Gh.sub (m : Gh) (P : Addr → Prop) : Gh := ⟨m.m, P⟩
def Gh.addP (m : Gh) (a : Addr) : Gh := ⟨m.m, fun b => m.P b ∨ b = a⟩
theorem CellR.ext0 {a : Addr} (x : Ext0 N m H N' m' H') (k : ∀ o, H a = some o → H' a = some o) : ∀ {c : Cell}, CellR T N m H a c → CellR T N' m' H' a c
  | .lst ds, ⟨vs, e, r⟩ => ⟨vs, k _ e, RepL.ext0 x ds vs r⟩
  | .dct ks ds, ⟨us, e, r⟩ => ⟨us, e.keep k, RepL.ext0 x ds us r⟩
  | .ins c fs, ⟨dx, us, e, e2, f, r⟩ => ⟨dx, us, k _ e, (x.eq e2 f (fun _ z => nomatch z)).1, (x.eq e2 f (fun _ z => nomatch z)).2, RepL.ext0 x _ us r⟩
  | .exn _, ⟨d, e, r⟩ => ⟨d, k _ e, r.ext0 x⟩
theorem ext0_addP {D : Addr} {o : HO} (hD : H D = none) : Ext0 N m H N (m.addP D) (upd H D o) :=
  ⟨Nat.le_refl _, fun _ _ => rfl, fun a u e f => ⟨.inl (by rw [upd_ne (ne_of_none e hD)]; exact e), f.1, fun z => z.elim f.2 fun q => by rw [q, hD] at e; cases e⟩⟩
theorem hr_addP {D : Addr} {o : HO} (hr : HR T m H h) (hD : H D = none) : HR T (m.addP D) (upd H D o) h :=
  ⟨fun n c e => CellR.ext0 (ext0_addP hD) (fun u q => by rw [upd_ne (ne_of_none q hD)]; exact q) (hr.cell n c e), hr.inj, fun i hi z => z.elim (hr.off i hi) fun q => new_ne hr hD i hi q, fun a z => z.elim (fun z => by
    obtain ⟨u, e⟩ := hr.here a z
    exact ⟨u, by rw [upd_ne (ne_of_none e hD)]; exact e⟩) fun q => ⟨o, by rw [q]; exact upd_same⟩⟩
/-- what is laid aside is written -/
theorem ext0_side {D : Addr} {o : HO} (hD : m.P D) : Ext0 N m H N m (upd H D o) :=
  ⟨Nat.le_refl _, fun _ _ => rfl, fun a u e f => ⟨.inl (by rw [upd_ne (fun q => f.2 (by rw [q]; exact hD))]; exact e), f⟩⟩
theorem hr_side {D : Addr} {o : HO} (hr : HR T m H h) (hD : m.P D) : HR T m (upd H D o) h :=
  ⟨fun n c e => CellR.ext0 (ext0_side hD) (fun u q => by
    have hn := getElem?_lt e
    rw [upd_ne (fun z => hr.off n hn (by rw [z]; exact hD))]; exact q) (hr.cell n c e), hr.inj, hr.off, fun a z => by
    by_cases c : a = D
    · exact ⟨o, by rw [c]; exact upd_same⟩
    · obtain ⟨u, e⟩ := hr.here a z
      exact ⟨u, by rw [upd_ne c]; exact e⟩⟩
theorem ext0_sub {P : Addr → Prop} (hP : ∀ a, P a → m.P a) : Ext0 N m H N (m.sub P) H :=
  ⟨Nat.le_refl _, fun _ _ => rfl, fun a u e f => ⟨.inl e, f.1, fun z => f.2 (hP a z)⟩⟩
theorem hr_sub {P : Addr → Prop} (hr : HR T m H h) (hP : ∀ a, P a → m.P a) : HR T (m.sub P) H h :=
  ⟨fun n c e => CellR.ext0 (ext0_sub hP) (fun _ q => q) (hr.cell n c e), hr.inj, fun i hi z => hr.off i hi (hP _ z), fun a z => hr.here a (hP a z)⟩
/-- what was laid aside becomes a cell -/
theorem ext0_adopt {P : Addr → Prop} {D : Addr} (hP : ∀ a, P a → m.P a) (hD : m.P D) : Ext0 N m H (N + 1) ((m.sub P).add N D) H :=
  ⟨Nat.le_succ _, fun n hn => add_ne (Nat.ne_of_lt hn), fun a u e f => ⟨.inl e, fun n hn z => by
    by_cases q : n = N
    · rw [q, add_same] at z
      exact f.2 (by rw [← z]; exact hD)
    · rw [add_ne q] at z
      exact f.1 n (by omega) z, fun z => f.2 (hP a z)⟩⟩
theorem hr_adopt {P : Addr → Prop} {D : Addr} {ds : List Hr.D} {vs : List V} (hr : HR T m H h) (hP : ∀ a, P a → m.P a) (hD : m.P D) (hn : ¬ P D) (e : H D = some (.lst vs)) (r : RepL T h.length m H ds vs) : HR T ((m.sub P).add h.length D) H (h ++ [.lst ds]) := by
  have x : Ext0 h.length m H (h.length + 1) ((m.sub P).add h.length D) H := ext0_adopt hP hD
  have hl : (h ++ [Cell.lst ds]).length = h.length + 1 := by simp
  have hd : ∀ i, i < h.length → m i ≠ D := fun i hi z => hr.off i hi (by rw [z]; exact hD)
  refine ⟨fun n c e' => ?_, fun i j hi hj e' => ?_, fun i hi => ?_, fun a z => hr.here a (hP a z)⟩
  · rw [hl]
    by_cases hn : n = h.length
    · subst hn
      rw [List.getElem?_concat_length] at e'
      cases e'
      rw [add_same]
      exact ⟨vs, e, RepL.ext0 x ds vs r⟩
    · have hlt : n < h.length := by have := getElem?_lt e'; omega
      rw [List.getElem?_append_left hlt] at e'
      rw [add_ne hn]
      exact CellR.ext0 x (fun _ q => q) (hr.cell n c e')
  · rw [hl] at hi hj
    by_cases h1 : i = h.length
    · by_cases h2 : j = h.length
      · omega
      · rw [h1, add_same, add_ne h2] at e'
        exact absurd e'.symm (hd j (by omega))
    · by_cases h2 : j = h.length
      · rw [h2, add_same, add_ne h1] at e'
        exact absurd e' (hd i (by omega))
      · rw [add_ne h1, add_ne h2] at e'
        exact hr.inj i j (by omega) (by omega) e'
  · rw [hl] at hi
    by_cases h1 : i = h.length
    · rw [h1, add_same]
      exact hn
    · rw [add_ne h1]
      exact fun z => hr.off i (by omega) (hP _ z)
end
section
variable {S : St0} {X : Cx} {sc : Scope} {W : WX}
def WN : WX := fun _ _ _ _ => False
def TCc (S : St0) (W : WX) (c : Option Ec) : TT := fun σ H Q => ∃ env h m, Sta S.T m h H σ env ∧ Post S.T h.length m H (fun _ _ _ (a b : Bool) => a = b) Q (fun c d H' => W c d σ H') (evc S.C c env h)
theorem s_if_none : PTs X [] (TCc S W none) := ⟨fun pins s σ H Q I ⟨env, h, m, st, p⟩ => pts_nil.run pins s σ H Q I (p m H true .refl st.hr rfl)⟩
theorem s_if_some {c : Ec} {e : Expr} (hc : PT X e (TTc S W c)) : PTs X [e] (TCc S W (some c)) := pts_one (hc.impH fun σ H Q q => q)
noncomputable def compE (C : Cf) (e : Ec) (t : Tc) (c : Option Ec) (own : List Nat) (env : En) : D → Hv → Rs (Option D) := fun d h => match setT t d (wipeD env own) with
  | none => .no
  | some env1 => (evc C c env1 h).bind fun b h => if b then (ev C e env1 h).bind fun x h => .ok (some x) h else .ok none h
theorem compE_ok {C : Cf} {e : Ec} {t : Tc} {c : Option Ec} {own : List Nat} {env : En} {d : D} {h h2 : Hv} {o : Option D} (z : compE C e t c own env d h = .ok o h2) :
    ∃ env1 b h', setT t d (wipeD env own) = some env1 ∧ evc C c env1 h = .ok b h' ∧ ((b = true ∧ ∃ x, ev C e env1 h' = .ok x h2 ∧ o = some x) ∨ (b = false ∧ o = none ∧ h2 = h')) := by
  unfold compE at z
  split at z
  · cases z
  · rename_i env1 e1
    obtain ⟨b, h', e2, z⟩ := bl_bind z
    refine ⟨env1, b, h', e1, e2, ?_⟩
    cases b with
    | true =>
      obtain ⟨x, h3, e3, z⟩ := bl_bind (show ((ev C e env1 h').bind fun x h => .ok (some x) h) = .ok o h2 from z)
      cases z
      exact .inl ⟨rfl, x, e3, rfl⟩
    | false => cases z; exact .inr ⟨rfl, rfl, rfl⟩
/-- where a comprehension stands behind some turns -/
structure Lp (T : Tb) (D : Addr) (N : Nat) (m : Gh) (H : Hp) (hi : Hv) (mi : Gh) (Hi : Hp) (acc : List V) (ds : List Hr.D) : Prop where
  hr : HR T mi Hi hi
  e0 : Ext0 N m H hi.length mi Hi
  sd : mi.P = fun a => m.P a ∨ a = D
  pr : ∀ a o, m.P a → H a = some o → Hi a = some o
  at_ : Hi D = some (.lst acc)
  rl : RepL T hi.length mi Hi ds acc
theorem Lp.step {T : Tb} {D : Addr} {N : Nat} {m : Gh} {H : Hp} {hi h2 : Hv} {mi m2 : Gh} {Hi H2 : Hp} {acc : List V} {ds : List Hr.D} (l : Lp T D N m H hi mi Hi acc ds) (x : Ext hi.length mi Hi h2.length m2 H2) (hr : HR T m2 H2 h2) : Lp T D N m H h2 m2 H2 acc ds :=
  ⟨hr, l.e0.trans x.to0, x.side.trans l.sd, fun a o p e => x.prot a o (by rw [l.sd]; exact .inl p) (l.pr a o p e), x.prot D _ (by rw [l.sd]; exact .inr rfl) l.at_, RepL.ext x _ _ l.rl⟩
theorem Lp.push {T : Tb} {D : Addr} {N : Nat} {m : Gh} {H : Hp} {hi : Hv} {mi : Gh} {Hi : Hp} {acc : List V} {ds : List Hr.D} {d : Hr.D} {v : V} (hD : H D = none) (l : Lp T D N m H hi mi Hi acc ds) (r : RepV T hi.length mi Hi d v) : Lp T D N m H hi mi (upd Hi D (.lst (acc ++ [v]))) (acc ++ [v]) (ds ++ [d]) := by
  have pD : mi.P D := by rw [l.sd]; exact .inr rfl
  exact ⟨hr_side l.hr pD, l.e0.trans (ext0_side pD), l.sd, fun a o p e => by rw [upd_ne (ne_of_none e hD)]; exact l.pr a o p e, upd_same, (RepL.ext0 (ext0_side pD) _ _ l.rl).append (RepL.one (RepV.ext0 (ext0_side pD) _ _ r))⟩
theorem Lp.fin {T : Tb} {D : Addr} {h : Hv} {m : Gh} {H : Hp} {hi : Hv} {mi : Gh} {Hi : Hp} {acc : List V} {ds : List Hr.D} {mm : Bool} {Q : VK} {Wx : XK} (hr : HR T m H h) (hD : H D = none) (l : Lp T D h.length m H hi mi Hi acc ds) (p : Post T h.length m H (RepV T) Q Wx (mkL mm ds hi)) : Q (.ref D) Hi := by
  have pD : mi.P D := by rw [l.sd]; exact .inr rfl
  have hP : ∀ a, m.P a → mi.P a := fun a z => by rw [l.sd]; exact .inl z
  have nD : ¬ m.P D := fun z => by
    obtain ⟨o, e⟩ := hr.here D z
    rw [hD] at e
    cases e
  have ne : ∀ n, n < hi.length → mi n ≠ D := fun n hn z => l.hr.off n hn (by rw [z]; exact pD)
  cases mm with
  | false =>
    have x0 := l.e0.trans (ext0_sub (N := hi.length) (H := Hi) hP)
    exact p (mi.sub m.P) Hi _ ⟨x0.le, x0.mu, x0.keep, rfl, l.pr⟩ (hr_sub l.hr hP) ⟨D, acc, rfl, ⟨l.at_, ne, nD⟩, RepL.ext0 (ext0_sub hP) _ _ l.rl⟩
  | true =>
    have hl : (hi ++ [Cell.lst ds]).length = hi.length + 1 := by simp
    have x0 := l.e0.trans (ext0_adopt (N := hi.length) (H := Hi) (D := D) hP pD)
    have p : ∀ m' H' b, Ext h.length m H (hi ++ [Cell.lst ds]).length m' H' → HR T m' H' (hi ++ [Cell.lst ds]) → RepV T (hi ++ [Cell.lst ds]).length m' H' (.ref hi.length) b → Q b H' := p
    rw [hl] at p
    exact p ((mi.sub m.P).add hi.length D) Hi _ ⟨x0.le, x0.mu, x0.keep, rfl, l.pr⟩ (hr_adopt l.hr hP pD nD l.at_ l.rl) ⟨Nat.lt_succ_self _, by rw [add_same]⟩
section
variable {g : Hv → Prop} {f : Hr.D → Hv → Rs (Option Hr.D)} {d : Hr.D} {ds : List Hr.D} {h : Hv}
theorem comp_nil_pos (c : g h) : compM g f [] h = .ok [] h := by unfold compM; exact if_pos c
theorem comp_nil_neg (c : ¬ g h) : compM g f [] h = .no := by unfold compM; exact if_neg c
theorem comp_cons_pos (c : g h) : compM g f (d :: ds) h = (f d h).bind fun o h => (compM g f ds h).bind fun r h => .ok (o.toList ++ r) h := by rw [compM]; exact if_pos c
theorem comp_cons_neg (c : ¬ g h) : compM g f (d :: ds) h = .no := by rw [compM]; exact if_neg c
theorem comp_next (e : compM g f (d :: ds) h ≠ .no) : g h := Classical.byContradiction fun c => e (comp_cons_neg c)
end
theorem own_ix (N : List Str) (own : List Nat) : (ownN N own).map (·.2) = own := by
  unfold ownN
  rw [List.map_map]
  exact List.map_id'' (fun _ => rfl) own
mutual
theorem inB_sub : ∀ {t : Tc} {own vs : List Nat}, (∀ i ∈ own, i ∈ vs) → t.inB own = true → t.inB vs = true
  | .nm i, own, vs, k, h => by
    have h : own.contains i = true := h
    show vs.contains i = true
    rw [List.contains_iff_mem] at h ⊢
    exact k i h
  | .tp ts, own, vs, k, h => inBs_sub (ts := ts) k h
theorem inBs_sub : ∀ {ts : List Tc} {own vs : List Nat}, (∀ i ∈ own, i ∈ vs) → inBs own ts = true → inBs vs ts = true
  | [], _, _, _, _ => rfl
  | t :: ts, own, vs, k, h => by
    have h : (t.inB own && inBs own ts) = true := h
    rw [Bool.and_eq_true] at h
    show (t.inB vs && inBs vs ts) = true
    rw [inB_sub k h.1, inBs_sub k h.2]
    rfl
end
theorem tLc_of {mm : Bool} {a : Ec} {t : Tc} {it : Ic} {c : Option Ec} {own : List Nat} (hxi : S.T.xi = none) (hin : t.inB own = true) {σ : L2.St} {H : Hp} {Q : VK} (q : TEc S W (.comp mm a t it c own) σ H Q) : tLc (TIc S W it) (GTc S.T t) (TCc S WN c) (TEc S WN a) own σ H Q := by
  obtain ⟨env, h, m, st, p⟩ := q
  have p : Post S.T h.length m H (RepV S.T) Q (fun c d H' => W c d σ H') ((evi S.C it env h).bind fun I h => (compM I.guard (compE S.C a t c own env) I.items h).quiet.bind fun ds h => if ds.length ≤ sizeLine then mkL mm ds h else .no) := p
  refine ⟨env, h, m, st, p.split fun I h1 m1 H1 J x hr wr p1 => ?_⟩
  intro D hD
  obtain ⟨G, Y, w, kG, kY⟩ := wr.ex
  have eq0 : ∀ {hi : Hv} {l : List Hr.D} {ds : List Hr.D}, compM I.guard (compE S.C a t c own env) I.items h1 = (compM I.guard (compE S.C a t c own env) l hi).bind (fun r h => .ok (ds ++ r) h) → compM I.guard (compE S.C a t c own env) l hi ≠ .no := fun e z => by
    rw [e, z] at p1
    exact p1
  refine lc_it w (fun i Hc => ∃ hi mi acc ds, Lp S.T D h1.length m1 H1 hi mi Hc acc ds ∧ compM I.guard (compE S.C a t c own env) I.items h1 = (compM I.guard (compE S.C a t c own env) (I.items.drop i) hi).bind fun r h => .ok (ds ++ r) h)
    ⟨h1, m1.addP D, [], [], ⟨hr_addP hr hD, ext0_addP hD, rfl, fun a o _ e => by rw [upd_ne (ne_of_none e hD)]; exact e, upd_same, rfl⟩, ?_⟩ ?_ ?_ ?_
  · show compM _ _ I.items h1 = (compM _ _ I.items h1).bind _
    cases compM I.guard (compE S.C a t c own env) I.items h1 <;> rfl
  · intro i Hc hi ⟨h2, mi, acc, ds, l, e⟩
    have ne := eq0 e
    refine kG mi Hc h2 l.e0 l.hr ?_
    cases z : I.items.drop i with
    | nil =>
      rw [z] at ne
      by_cases c : I.guard h2
      · exact c
      · exact absurd (comp_nil_neg c) ne
    | cons d r =>
      rw [z] at ne
      exact comp_next ne
  · intro i v Hc Hy hi ⟨h2, mi, acc, ds, l, e⟩ y
    have ne := eq0 e
    have hd : I.items.drop i = I.items[i] :: I.items.drop (i + 1) := List.drop_eq_getElem_cons hi
    rw [hd] at e ne
    have gd := comp_next ne
    have un : compM I.guard (compE S.C a t c own env) (I.items[i] :: I.items.drop (i + 1)) h2 = (compE S.C a t c own env I.items[i] h2).bind fun o h => (compM I.guard (compE S.C a t c own env) (I.items.drop (i + 1)) h).bind fun r h => .ok (o.toList ++ r) h := comp_cons_pos gd
    obtain ⟨d, ed, x1, hr1, rd⟩ := kY i v mi Hc h2 Hy hi l.e0 l.hr gd y
    rw [List.getElem?_eq_getElem hi] at ed
    cases ed
    rw [un] at e ne
    cases z : compE S.C a t c own env I.items[i] h2 with
    | no => rw [z] at ne; exact absurd rfl ne
    | ex xx hh => rw [e, z] at p1; exact p1.elim
    | ok o h4 =>
      rw [z] at e
      obtain ⟨env1, b, h3, z1, z2, z3⟩ := compE_ok z
      have l1 := l.step x1 hr1
      have en1 : EnvR S.T h2.length mi Hy σ env := ((st.en.ext x).ext0 l.e0).ext x1
      refine ⟨wipeD env own, h2, mi, I.items[i], env1, ⟨hr1, en1.wipe own, .calm hxi⟩, rd, z1, fun σ2 st2 w2 => ⟨?_, ?_⟩⟩
      · rw [w2 own hin, wipe_wipe fun _ h => h]
      · refine ⟨env1, h2, mi, st2, ?_⟩
        rw [z2]
        intro m3 H3 b' x3 hr3 eb
        subst eb
        have l3 := l1.step x3 hr3
        rcases z3 with ⟨b1, xd, z4, eo⟩ | ⟨b0, eo, eh⟩
        · subst b1 eo
          rw [if_pos rfl]
          refine ⟨env1, h3, m3, st2.next x3 hr3, ?_⟩
          rw [z4]
          intro m4 H4 yv x4 hr4 r4
          have l4 := l3.step x4 hr4
          refine ⟨acc, l4.at_, ?_, h4, m4, _, ds ++ [xd], l4.push hD r4, ?_⟩
          · rw [← l4.rl.length]
            rw [e] at p1
            show ds.length < sizeLine
            cases zz : compM I.guard (compE S.C a t c own env) (I.items.drop (i + 1)) h4 with
            | no => rw [show ((Rs.ok (some xd) h4).bind fun o h => (compM I.guard (compE S.C a t c own env) (I.items.drop (i + 1)) h).bind fun r h => Rs.ok (o.toList ++ r) h) = (compM I.guard (compE S.C a t c own env) (I.items.drop (i + 1)) h4).bind fun r h => Rs.ok ([xd] ++ r) h from rfl, zz] at p1; exact p1.elim
            | ex _ _ => rw [show ((Rs.ok (some xd) h4).bind fun o h => (compM I.guard (compE S.C a t c own env) (I.items.drop (i + 1)) h).bind fun r h => Rs.ok (o.toList ++ r) h) = (compM I.guard (compE S.C a t c own env) (I.items.drop (i + 1)) h4).bind fun r h => Rs.ok ([xd] ++ r) h from rfl, zz] at p1; exact p1.elim
            | ok rr h5 =>
              rw [show ((Rs.ok (some xd) h4).bind fun o h => (compM I.guard (compE S.C a t c own env) (I.items.drop (i + 1)) h).bind fun r h => Rs.ok (o.toList ++ r) h) = (compM I.guard (compE S.C a t c own env) (I.items.drop (i + 1)) h4).bind fun r h => Rs.ok ([xd] ++ r) h from rfl, zz] at p1
              have p1 : Post S.T h1.length m1 H1 (RepV S.T) Q _ (if (ds ++ ([xd] ++ rr)).length ≤ sizeLine then mkL mm (ds ++ ([xd] ++ rr)) h5 else .no) := p1
              by_cases cc : (ds ++ ([xd] ++ rr)).length ≤ sizeLine
              · simp at cc
                omega
              · rw [if_neg cc] at p1
                exact p1.elim
          · rw [e]
            show ((compM I.guard (compE S.C a t c own env) (I.items.drop (i + 1)) h4).bind fun r h => Rs.ok ([xd] ++ r) h).bind (fun r h => Rs.ok (ds ++ r) h) = _
            cases compM I.guard (compE S.C a t c own env) (I.items.drop (i + 1)) h4 with
            | no => rfl
            | ex _ _ => rfl
            | ok rr h5 => show Rs.ok (ds ++ ([xd] ++ rr)) h5 = Rs.ok ((ds ++ [xd]) ++ rr) h5; rw [List.append_assoc]
        · subst b0 eo eh
          rw [if_neg Bool.false_ne_true]
          refine ⟨_, m3, acc, ds, l3, ?_⟩
          rw [e]
          show ((compM I.guard (compE S.C a t c own env) (I.items.drop (i + 1)) h4).bind fun r h => Rs.ok ([] ++ r) h).bind (fun r h => Rs.ok (ds ++ r) h) = _
          cases compM I.guard (compE S.C a t c own env) (I.items.drop (i + 1)) h4 <;> rfl
  · intro Hc ⟨h2, mi, acc, ds, l, e⟩
    have ne := eq0 e
    rw [List.drop_length] at e ne
    by_cases cg : I.guard h2
    · rw [comp_nil_pos cg] at e
      rw [e] at p1
      have p1 : Post S.T h1.length m1 H1 (RepV S.T) Q _ (if (ds ++ []).length ≤ sizeLine then mkL mm (ds ++ []) h2 else .no) := p1
      rw [List.append_nil] at p1
      by_cases cc : ds.length ≤ sizeLine
      · rw [if_pos cc] at p1
        exact l.fin hr hD p1
      · rw [if_neg cc] at p1
        exact p1.elim
    · rw [comp_nil_neg cg] at ne
      exact absurd rfl ne
theorem s_comp {mm : Bool} {a : Ec} {t : Tc} {it : Ic} {c : Option Ec} {own : List Nat} {x tg iter : Expr} {ifs : List Expr} {scope : Scope} {pos : Pos} (ok : OkX X S sc W) (hh : S.hot = none) (hi : PI X tg iter (TIc S W it)) (hb : blkC S.N sc scope (ownN S.N own) = true) (hin : t.inB own = true)
    (hg : ∀ (s : Shared) (H : Hp) (C : Addr) (cl : List (Str × Addr)) (fp : List Addr), PG (X.blk s H scope (compEnvC scope cl C X.env) fp) tg (GTc S.T t))
    (ht : ∀ (s : Shared) (H : Hp) (C : Addr) (cl : List (Str × Addr)) (fp : List Addr), PTs (X.blk s H scope (compEnvC scope cl C X.env) fp) ifs (TCc S WN c))
    (he : ∀ (s : Shared) (H : Hp) (C : Addr) (cl : List (Str × Addr)) (fp : List Addr), PE (X.blk s H scope (compEnvC scope cl C X.env) fp) x (TEc S WN a)) (hs : ∀ x, foldedSetIterable iter X.env x = pure x) :
    PE X (.ListComp x [⟨tg, iter, ifs, 0⟩] scope pos) (TEc S W (.comp mm a t it c own)) := by
  have b := blkOk_by hb
  rw [← ok.hN, ← ok.hsc] at b
  refine (pe_lc (own := ownN S.N own) (ok.calm hh) ok.nd hi (by rw [ok.hN] at b ⊢; exact b) hg ht he hs).impH fun σ H Q q => ?_
  rw [own_ix]
  exact tLc_of (xi_of ok hh) hin q
end
end Hr
set_option maxHeartbeats 4000000
/-! An exception that is kept beyond its suite: it is known from then on. -/
namespace Hr
open PySem PySem.Spec PyProof.Rows L2
theorem exh_ok {P : Program} {w : World} {H : Hp} {h : Heap} {a : Addr} {cls : Value} {d : Option Addr} {oe : Obj} {vs : Array Value} (he : h.get? a = some oe) (hz : Zc cls d oe) (hd : oe.data = .fields vs) : ObjOk P w H h a (ExH a cls d) :=
  ⟨⟨oe, vs, he, hz, hd⟩, ⟨oe, he⟩, fun _ _ ⟨o, v, e, z, dd⟩ k => ⟨o, v, k _ e, z, dd⟩⟩
section
variable {X : Cx} {pins : List (Addr × Obj)} {σ : List (Option V)} {H : Hp} {s : Shared}
/-- a thing that is not known yet is known from here on -/
theorem inv_track {a : Addr} {o : HO} (I : Inv X pins σ H s) (na : H a = none) (old : ∀ b ob, X.s_0.heap.get? b = some ob → b ∉ X.ex → b ≠ a) (nL : a ≠ X.env.locals) (nC : ∀ y c, X.env.cells.lookup y = some c → c ≠ a) (nP : ∀ p ∈ X.pn ++ pins, p.1 ≠ a)
    (ok : ObjOk X.prog X.w (upd H a o) s.heap a o) : Inv X pins σ (upd H a o) s := by
  have up : ∀ b u, H b = some u → upd H a o b = some u := fun b u e => by rw [upd_ne (ne_of_none e na)]; exact e
  have lz : upd H a o X.env.locals = none := by rw [upd_ne (Ne.symm nL)]; exact I.free
  have un : Un X.fs X.ex X.H_0 (upd H a o) X.s_0.heap s.heap :=
    { keep := I.base.keep, slot := I.base.slot, there := I.base.there
      free := fun b ob e n hx => by rw [upd_ne (old b ob e hx)]; exact I.base.free b ob e n hx
      tups := fun b ys e => up _ _ (I.base.tups b ys e)
      frzs := fun b ob u e => up _ _ (I.base.frzs b ob u e)
      tbls := fun b ys e => let ⟨m, q⟩ := I.base.tbls b ys e; ⟨m, up _ _ q⟩ }
  exact { ok := I.ok, os := I.os, bare := I.bare, base := un, loc := I.loc, cell := I.cell, free := lz, len := I.len
          freeC := fun y c e => by rw [upd_ne (nC y c e)]; exact I.freeC y c e
          pin := fun p hp => let ⟨e, n, r⟩ := I.pin p hp; ⟨e, by rw [upd_ne (nP p hp)]; exact n, r⟩
          hok := fun b u e => by
            by_cases hb : b = a
            · subst hb; rw [upd_same] at e; cases e; exact ok
            · rw [upd_ne hb] at e
              exact (I.hok b u e).stay (fun _ _ _ q => q) (fun c q => up c _ q) fun c ys q => up c _ q }
end
/-- what is asked where the suite keeps the exception -/
def wKeep (K : PySem.W.Frag) (c : Value) (i : Nat) (ts : Addr → Value → Option Addr → TS) (Wout : WX) (D : Ends) : WX := fun cls d σ H =>
  ∃ b, PySem.W.exmOne K cls c = some b ∧ (b = false → Wout cls d σ H) ∧
    (b = true → ∀ a, H a = none → ts a cls d ⟨fun σ1 H1 => H1 a = none → D.nx (σ1.set i none) (upd H1 a (ExH a cls d)), fun _ _ => False, fun _ _ => False, fun _ _ => False⟩ (σ.set i (some (.ref a))) H)
section
variable {X : Cx} {x n : Str} {c : Value} {i : Nat} {body suite : List Stmt} {s₀ : Stmt} {p1 p2 p3 : Pos} {tb : WX → TS} {ts : Addr → Value → Option Addr → TS} {Wout : WX}
theorem ps_keep (h1 : X.stack = X.env :: X.outer) (h2 : X.env.frame = some X.env.locals) (nd : X.N.Nodup) (hn : X.N[i]? = some n) (loc : X.env.kindOf n = some .local) (nm : Names X x c) (tk : L2N.Takes X Wout)
    (pb : ∀ (W : WX) (pn : List (Addr × Obj)) (xe : Value → Shared → Prop), L2N.Takes (X.tr pn xe) W → PassesOwn (model X.prog X.w) X.A X.env xe → PSs (X.tr pn xe) body (tb W))
    (psu : ∀ (a : Addr) (oe : Obj) (cls : Value) (d : Option Addr) (pn : List (Addr × Obj)), L2N.Zn cls d oe → (∃ vs, oe.data = .fields vs) → PSs (X.suite a ((a, oe) :: pn)) (s₀ :: suite) (ts a cls d)) :
    PS X (.Try body [.ExceptHandler (some (.Name x p1)) (some n) (s₀ :: suite) p2] [] [] p3) (fun D σ H => tb (wKeep X.K c i ts Wout D) D σ H) := by
  refine ⟨fun pins s σ H D I q0 => ?_⟩
  have okX := I.ok
  have fr : X.A.frames = some (X.env :: X.outer) := okX.frames.trans (congrArg some h1)
  let hd : List ExceptHandler := [.ExceptHandler (some (.Name x p1)) (some n) (s₀ :: suite) p2]
  let air : Value → Shared → Prop := fun e t1 => wpAny (model X.prog X.w) X.A (noteFrame e X.env) (fun _ t2 =>
    wpAny (model X.prog X.w) X.A (setFlight e none) (fun _ t3 => wpAny (model X.prog X.w) X.A (handleBy e X.env hd) (SP X pins D) X.xe t3) X.xe t2) X.xe t1
  refine wpAny_Try_except ?_
  have run := (pb (wKeep X.K c i ts Wout D) (X.pn ++ pins) air (fun u t xx => ?_) PassesOwn.looking).run [] s σ H D (I.toTry _) q0
  · refine wpAny_mono run (fun f t sp => ?_) fun _ _ he => he
    cases f with
    | ret v => obtain ⟨y, σ1, H1, J, r, q⟩ := sp; exact ⟨y, σ1, H1, J.ofTry okX, r, q⟩
    | brk => obtain ⟨σ1, H1, J, q⟩ := sp; exact ⟨σ1, H1, J.ofTry okX, q⟩
    | cont => obtain ⟨σ1, H1, J, q⟩ := sp; exact ⟨σ1, H1, J.ofTry okX, q⟩
    | next => obtain ⟨σ1, H1, J, q⟩ := sp; exact wpAny_execs_nil ⟨σ1, H1, J.ofTry okX, q⟩
  · obtain ⟨a, B, sI, pins1, σ1, H1, cls, d, rfl, JT, nb, up, sky, na, os, ag, b, hb1, hno, hyes⟩ := xx
    have J : Inv X pins σ1 H1 sI := JT.ofTry okX
    have sky1 : L2.Sky B (X.env :: X.outer) a (L2N.Zn cls d) X.env.locals t.heap := h1 ▸ sky
    show wpAny (model X.prog X.w) X.A (noteFrame (.ref a) X.env) _ _ _
    refine L2N.Sky.land L2N.Zn.steady fr h2 sky1 fun g3 fl3 up3 => ?_
    have J3 : Inv X pins σ1 H1 { t with heap := g3 } := J.landed nb fl3.1 (up.trans up3) os ag
    obtain ⟨o3, v3, e3, z3, dd3⟩ := fl3.there
    have nfr : a ∉ frs (X.env :: X.outer) := fun hm => by
      obtain ⟨_, o', e', hnf⟩ := fl3.2.2.1.mem hm
      rw [e3] at e'
      cases e'
      exact hnf _ dd3
    have nL : a ≠ X.env.locals := fun z => nfr (List.mem_filterMap.mpr ⟨X.env, List.mem_cons_self, h2.trans (congrArg some z.symm)⟩)
    have nF : a ∉ X.fs := fun hm => let ⟨e, he, q⟩ := List.mem_filterMap.mp hm; nfr (List.mem_filterMap.mpr ⟨e, List.mem_cons_of_mem _ he, q⟩)
    have fresh : ∀ y oy, sI.heap.get? y = some oy → y ≠ a := fun y oy e z => by
      subst z
      have := nb _ oy e (by rw [h1]; exact nfr)
      rw [fl3.2.1] at this
      cases this
    have S3 := J3.suite e3 dd3 na nL nF
    refine wpAny_handleBy_cons (codeAny_handlers_test ?_) (by intro q; cases q)
    have kind : PySem.W.Looks (model X.prog X.w) g3 (typeOf (.ref a)) cls := fun _ _ _ _ k q => wpAny_typeOf_ref (k _ _ e3) (by rw [z3.1]; exact q)
    have meet := PySem.W.exm_one (M := model X.prog X.w) J3.kIn kind hb1
    have name : ∀ {Q : Value → Shared → Prop} {E : Value → Shared → Prop}, Q c { t with heap := g3 } → wpAny (model X.prog X.w) (X.A.mark (some (.ref a))) (eval (.Name x p1) X.env) Q E { t with heap := g3 } := fun q => by
      obtain ⟨hg, hdb, ⟨hm⟩ | ⟨hm, hv, hx⟩⟩ := nm
      · exact ld_glob (X := X.suite a ((a, o3) :: (X.pn ++ pins))) S3 hg hm q hdb
      · exact ld_blt (X := X.suite a ((a, o3) :: (X.pn ++ pins))) S3 hg hm hv q hx hdb
    refine name (meet.here ?_)
    cases b with
    | true =>
      refine codeAny_handlers_suite_as (HandSPX.lands_againZ fl3 fun g4 fl4 up4 => ?_)
      have J4 : Inv X pins σ1 H1 { t with heap := g4 } := J.landed nb fl4.1 ((up.trans up3).trans up4) os ag
      obtain ⟨o4, v4, e4, z4, dd4⟩ := fl4.there
      have S4 := J4.suite e4 dd4 na nL nF
      refine store_ok (v := .ref a) (X := X.suite a ((a, o4) :: (X.pn ++ pins))) S4 nd hn (.inl loc) rfl (fun t5 S5 => ?_) (.inr loc)
      have su := (psu a o4 cls d (X.pn ++ pins) z4 ⟨_, dd4⟩).run [] t5 _ H1 _ S5 (hyes rfl a na)
      refine wpAny_mono su (fun f t6 sp => ?_) fun _ _ z => z.elim
      cases f with
      | ret v => obtain ⟨_, _, _, _, _, q⟩ := sp; exact q.elim
      | brk => obtain ⟨_, _, _, q⟩ := sp; exact q.elim
      | cont => obtain ⟨_, _, _, q⟩ := sp; exact q.elim
      | next =>
        obtain ⟨σ6, H6, S6, q6⟩ := sp
        obtain ⟨e6, n6, _⟩ := S6.pin (a, o4) (List.mem_append_left _ List.mem_cons_self)
        have J6 : Inv X pins σ6 H6 t6 := S6.unsuite okX
        have J7 : Inv X pins σ6 (upd H6 a (ExH a cls d)) t6 := inv_track J6 n6 (fun y oy e hx => by
            obtain ⟨o', e'⟩ := J.base.there y oy e hx
            exact fresh y o' e') nL (fun y cc e z => by
            obtain ⟨v, oc, ec, dc⟩ := J6.cell y cc e
            rw [z, e6] at ec
            cases ec
            rw [dd4] at dc
            cases dc) (fun p hp => fresh p.1 p.2 (J.pin p hp).1) (exh_ok e6 z4.zc dd4)
        exact gone_ok J7 nd hn loc fun t7 J8 => ⟨_, _, J8, q6 n6⟩
    | false =>
      show wpAny _ X.A (handleBy (.ref a) X.env []) _ _ _
      refine wpAny_handleBy_nil ?_
      obtain ⟨_, _, _, oe, vs, TT, oT, tr, he, hz, hdd, g1, hr⟩ := id fl3
      unfold PySem.passOn
      refine wpAny_bind (wpAny_field he hdd g1 ?_)
      rw [if_neg (show ¬ ((Value.ref TT == Value.none) = true) from by simp)]
      have out : wpAny (model X.prog X.w) X.A (setFlight (.ref a) X.env.frame) (fun _ t4 => wpAny (model X.prog X.w) X.A (throw (.ref a) : Sem Flow) (SP X pins D) X.xe t4) X.xe { t with heap := g3 } := by
        rw [h2]
        refine HandSPX.setFlight_upZ fl3 fun g4 hh4 up4 => wpAny_throw (tk _ _ ?_)
        exact ⟨a, B, sI, pins, σ1, H1, cls, d, rfl, J, nb, (up.trans up3).trans up4, .inr (.inr (by rw [h1]; exact hh4)), na, os, ag, hno rfl⟩
      first
        | exact wpAny_bind (wpAny_pure (wpAny_bind out))
        | exact wpAny_bind out
end
end Hr
set_option maxHeartbeats 4000000
/-! Operations told by their form: list(range(n)), len(set(t)), dict displays, setdefault, get, list(d); calls by names. -/
namespace Hr
open PySem PySem.Spec PyProof.Rows L2
section
variable {S : St0} {X : Cx} {sc : Scope} {W : WX}
/-- the arguments, one by one -/
inductive PEs (X : Cx) (S : St0) (W : WX) : List Ec → List Expr → Prop
  | nil : PEs X S W [] []
  | cons {c : Ec} {e : Expr} {cs : List Ec} {es : List Expr} : PE X e (TEc S W c) → (∀ r, starEach (e :: r) X.env = (false, eval e X.env) :: starEach r X.env) → PEs X S W cs es → PEs X S W (c :: cs) (e :: es)
theorem quiet_bind {α β : Type} {r : Rs α} {f : α → Hv → Rs β} {T : Tb} {N : Nat} {m : Gh} {H : Hp} {γ : Type} {Ra : Nat → Gh → Hp → β → γ → Prop} {Q : γ → Hp → Prop} {Wx : XK} (p : Post T N m H Ra Q Wx (r.quiet.bind f)) : ∃ a h, r = .ok a h ∧ Post T N m H Ra Q Wx (f a h) := by
  cases r with
  | no => exact p.elim
  | ok a h => exact ⟨a, h, rfl, p⟩
  | ex x h => exact p.elim
theorem evs_cons_ok {C : Cf} {c : Ec} {cs : List Ec} {env : En} {h hf : Hv} {ds : List D} (e : evs C (c :: cs) env h = .ok ds hf) : ∃ d h1 r, ev C c env h = .ok d h1 ∧ evs C cs env h1 = .ok r hf ∧ ds = d :: r := by
  obtain ⟨d, h1, e1, e⟩ := bl_bind (show ((ev C c env h).bind fun d h => (evs C cs env h).bind fun ds h => .ok (d :: ds) h) = .ok ds hf from e)
  obtain ⟨r, h2, e2, e⟩ := bl_bind e
  cases e
  exact ⟨d, h1, r, e1, e2, rfl⟩
theorem evs_nil_ok {C : Cf} {env : En} {h hf : Hv} {ds : List D} (e : evs C [] env h = .ok ds hf) : ds = [] ∧ hf = h := by
  cases e
  exact ⟨rfl, rfl⟩
/-- one argument, told -/
theorem one_run {c : Ec} {σ : L2.St} {H : Hp} {env : En} {h h1 : Hv} {m : Gh} {d : D} {Q : VK} (e : ev S.C c env h = .ok d h1) (st : Sta S.T m h H σ env)
    (k : ∀ m1 H1 v, Ext h.length m H h1.length m1 H1 → HR S.T m1 H1 h1 → RepV S.T h1.length m1 H1 d v → Q v H1) : TEc S W c σ H Q :=
  ⟨env, h, m, st, by rw [e]; exact fun m1 H1 v x hr r => k m1 H1 v x hr r⟩
theorem rep_rg {T : Tb} {N : Nat} {m : Gh} {H : Hp} (f : Nat → Int) : ∀ l : List Nat, RepL T N m H (l.map fun k => D.int (f k)) (l.map fun k => V.int (f k))
  | [] => rfl
  | k :: l => ⟨_, _, rfl, rfl, rep_rg f l⟩
theorem rngL_some {i j : Int} {ds : List D} (e : rngL i j = some ds) : RgOk i j ∧ ds = (List.range (j - i).toNat).map fun n : Nat => .int (i + (n : Int)) := by
  unfold rngL at e
  split at e
  · rename_i c
    cases e
    exact ⟨c, rfl⟩
  · cases e
/-- one operand's operation -/
theorem opn1 {mm : Bool} {o : Op} {c : Ec} {σ : L2.St} {H : Hp} {Q : VK} (q : TEc S W (.opn mm o [c]) σ H Q) : TEc S W c σ H (fun v H1 => ∃ h1 m1 d Wx, HR S.T m1 H1 h1 ∧ RepV S.T h1.length m1 H1 d v ∧ Post S.T h1.length m1 H1 (RepV S.T) Q Wx (opD mm o [d] h1)) := by
  obtain ⟨env, h, m, st, p⟩ := q
  obtain ⟨ds, hf, e, p⟩ := quiet_bind (show Post S.T h.length m H (RepV S.T) Q (fun c d H' => W c d σ H') ((evs S.C [c] env h).quiet.bind fun ds h => opD mm o ds h) from p)
  obtain ⟨d, h1, r, e1, e2, rfl⟩ := evs_cons_ok e
  obtain ⟨rfl, rfl⟩ := evs_nil_ok e2
  exact one_run e1 st fun m1 H1 v x hr r => ⟨_, m1, d, _, hr, r, Post.ext p x⟩
theorem s_lrng {mm : Bool} {c : Ec} {a : Expr} {p p2 q pos : Pos} (ok : OkX X S sc W) (hh : S.hot = none) (hg : Gl X "list") (hm : X.mg "list" = none) (hg2 : Gl X "range") (hm2 : X.mg "range" = none) (ha : PE X a (TEc S W c)) (na : ∀ r, starEach (a :: r) X.env = (false, eval a X.env) :: starEach r X.env) :
    PE X (.Call (.Name "list" p) [.Call (.Name "range" p2) [a] [] q] [] pos) (TEc S W (.opn mm .lrng [c])) := by
  refine (pe_listRg (ok.calm hh) hg hm (prg_1 hg2 hm2 ha (na _)) rfl).impH fun σ H Q z => ?_
  obtain ⟨env, h, m, st, p⟩ := opn1 z
  refine ⟨env, h, m, st, p.mono fun v H1 ⟨h1, m1, d, Wx, hr, r, p1⟩ => ?_⟩
  cases d with
  | int j =>
    cases r
    have p1 : Post S.T h1.length m1 H1 (RepV S.T) Q Wx (mkLo mm h1 (rngL 0 j)) := p1
    cases e : rngL 0 j with
    | none => rw [e] at p1; exact p1.elim
    | some ds =>
      rw [e] at p1
      obtain ⟨c1, rfl⟩ := rngL_some e
      exact ⟨j, rfl, c1, fun q hq => post_mkL p1 hr (rep_rg _ _) hq⟩
  | _ => exact p1.elim
theorem s_trng {mm : Bool} {c : Ec} {a : Expr} {p p2 q pos : Pos} (ok : OkX X S sc W) (hh : S.hot = none) (hg : Gl X "tuple") (hm : X.mg "tuple" = none) (hg2 : Gl X "range") (hm2 : X.mg "range" = none) (ha : PE X a (TEc S W c)) (na : ∀ r, starEach (a :: r) X.env = (false, eval a X.env) :: starEach r X.env) :
    PE X (.Call (.Name "tuple" p) [.Call (.Name "range" p2) [a] [] q] [] pos) (TEc S W (.opn mm .trng [c])) := by
  refine (pe_tupRg (ok.calm hh) hg hm (prg_1 hg2 hm2 ha (na _)) rfl).impH fun σ H Q z => ?_
  obtain ⟨env, h, m, st, p⟩ := opn1 z
  refine ⟨env, h, m, st, p.mono fun v H1 ⟨h1, m1, d, Wx, hr, r, p1⟩ => ?_⟩
  cases d with
  | int j =>
    cases r
    have p1 : Post S.T h1.length m1 H1 (RepV S.T) Q Wx (okD ((rngL 0 j).map .tup) h1) := p1
    cases e : rngL 0 j with
    | none => rw [e] at p1; exact p1.elim
    | some ds =>
      rw [e] at p1
      obtain ⟨c1, rfl⟩ := rngL_some e
      exact ⟨j, rfl, c1, fun q hq => post_tup p1 hr (rep_rg _ _) hq⟩
  | _ => exact p1.elim
/-! ### len(set(t)) -/
theorem dedup_mem {j : Int} : ∀ {l : List Int}, j ∈ dedup l ↔ j ∈ l
  | [] => Iff.rfl
  | i :: r => by
    have ih := dedup_mem (j := j) (l := r)
    show j ∈ i :: (dedup r).filter (· ≠ i) ↔ j ∈ i :: r
    rw [List.mem_cons, List.mem_cons, List.mem_filter, ih]
    by_cases c : j = i <;> simp [c]
theorem dedup_nodup : ∀ l : List Int, (dedup l).Nodup
  | [] => List.nodup_nil
  | i :: r => by
    show (i :: (dedup r).filter (· ≠ i)).Nodup
    rw [List.nodup_cons]
    exact ⟨fun z => by simp at z, (dedup_nodup r).filter _⟩
theorem len_same {a b : List Int} (ha : a.Nodup) (hb : b.Nodup) (h : ∀ j, j ∈ a ↔ j ∈ b) : a.length = b.length :=
  ((List.perm_ext_iff_of_nodup ha hb).mpr h).length_eq
theorem ints_are : ∀ {ns : List Int} {us : List Value}, Vals (ns.map V.int) us → PyProof.Rows.IntsAre us ns
  | [], us, v => by cases v; exact .nil
  | n :: ns, us, v => by
    cases v with
    | cons r t =>
      obtain ⟨k, e⟩ := r
      rw [e]
      exact .cons n k (ints_are t)
def tSetLen (K : PySem.W.Frag) (ta : TE) : TE := fun σ H Q => ta σ H fun x H1 => ∃ (l : Addr) (ns : List Int), x = .ref l ∧ SqT K H1 l (ns.map V.int) ∧ ns.length < 64 ∧ Q (.int (dedup ns).length) H1
theorem pe_setLen {a : Expr} {ta : TE} {p p2 q pos : Pos} (hc : X.calm = true) (hl : Gl X "len") (ml : X.mg "len" = none) (hs : Gl X "set") (ms : X.mg "set" = none) (ha : PE X a ta) (na : ∀ r, starEach (a :: r) X.env = (false, eval a X.env) :: starEach r X.env) :
    PE X (.Call (.Name "len" p) [.Call (.Name "set" p2) [a] [] q] [] pos) (tSetLen X.K ta) := by
  refine ⟨fun pins s σ H Q J z => Call_ (ld_blt J hl ml boot_len ?_)⟩
  refine PyProof.Rows.callWith_builtin1 (PyProof.Rows.args_cons (Call_ (ld_blt J hs ms boot_set ?_)) rfl) rfl rfl
  refine PyProof.Rows.callWith_type1 (PyProof.Rows.args_cons (thn (ha.run pins s σ H _ J z) fun v t ⟨x, G, J1, rx, z1⟩ => PyProof.Rows.args_nil ?_) (na _)) (na _) rfl
  obtain ⟨l, ns, rfl, tq, lt, z2⟩ := z1
  cases rx
  obtain ⟨its, rl, pl, _⟩ := J1.tuple tq
  refine call_set_tupI ns (J1.ok.hd hc) pl (by simpa using ints_are rl) (by unfold scanBound; omega) fun g tk c R le keep => PyProof.Rows.args_nil ?_
  obtain ⟨o, es, ep, tb, ho, hex, hd, _, hnd, hS, hb, hfit, hn, _⟩ := R
  have J2 : Inv X pins σ G { t with heap := g, toks := tk } := J1.kept fun b o e => keep b o e
  have e : es.size = (dedup ns).length := by
    have := len_same hnd (dedup_nodup ns) fun j => by rw [← hS j, dedup_mem, decide_eq_true_eq]
    rw [List.length_map, Array.length_toList] at this
    exact this
  exact call_len_set ho hex hd hfit (by unfold scanBound at hb; omega) ⟨.int (dedup ns).length, G, J2.tok _, ⟨_, by rw [e]⟩, z2⟩
theorem ints_vals {T : Tb} {N : Nat} {m : Gh} {H : Hp} : ∀ {ds : List D} {ns : List Int} {vs : List V}, intsD ds = some ns → RepL T N m H ds vs → vs = ns.map V.int
  | [], ns, vs, e, r => by cases e; exact r
  | d :: ds, ns, vs, e, ⟨v, w, q, a, b⟩ => by
    subst q
    cases d with
    | int i =>
      have e : (intsD ds).map (i :: ·) = some ns := e
      cases z : intsD ds with
      | none => rw [z] at e; cases e
      | some ks =>
        rw [z] at e
        cases e
        cases a
        rw [List.map_cons, ← ints_vals z b]
    | _ => cases e
theorem s_lenset {mm : Bool} {c : Ec} {a : Expr} {p p2 q pos : Pos} (ok : OkX X S sc W) (hh : S.hot = none) (hg : Gl X "len") (hm : X.mg "len" = none) (hg2 : Gl X "set") (hm2 : X.mg "set" = none) (ha : PE X a (TEc S W c)) (na : ∀ r, starEach (a :: r) X.env = (false, eval a X.env) :: starEach r X.env) :
    PE X (.Call (.Name "len" p) [.Call (.Name "set" p2) [a] [] q] [] pos) (TEc S W (.opn mm .lenset [c])) := by
  refine (pe_setLen (ok.calm hh) hg hm hg2 hm2 ha na).impH fun σ H Q z => ?_
  obtain ⟨env, h, m, st, p⟩ := opn1 z
  refine ⟨env, h, m, st, p.mono fun v H1 ⟨h1, m1, d, Wx, hr, r, p1⟩ => ?_⟩
  cases d with
  | tup ds =>
    have p1 : Post S.T h1.length m1 H1 (RepV S.T) Q Wx (okD ((intsD ds).bind fun ns => if ns.length < 64 then some (.int (dedup ns).length) else none) h1) := p1
    cases e : intsD ds with
    | none => rw [e] at p1; exact p1.elim
    | some ns =>
      rw [e] at p1
      have p1 : Post S.T h1.length m1 H1 (RepV S.T) Q Wx (okD (if ns.length < 64 then some (.int (dedup ns).length) else none) h1) := p1
      by_cases c : ns.length < 64
      · rw [if_pos c] at p1
        obtain ⟨b, vs, rfl, tq, l⟩ := rep_tup r
        have ev := ints_vals e l
        subst ev
        rw [ok.hK]
        exact ⟨b, ns, rfl, tq, c, Post.now p1 hr rfl⟩
      · rw [if_neg c] at p1
        exact p1.elim
  | _ => exact p1.elim
/-! ### list(d) -/
theorem keys_zip (f : L2.Key → V) : ∀ {kk : List L2.Key} {us : List V}, kk.length = us.length → ((kk.zip us).map fun kv => f kv.1) = kk.map f
  | [], _, _ => rfl
  | k :: kk, u :: us, e => congrArg (f k :: ·) (keys_zip f (by simpa using e))
  | _ :: _, [], e => by simp at e
/-- list(d), the dict as it stands or locked -/
theorem call_listR {X : Cx} (hc : X.calm = true) : CallR X (.type "list") (fun vs H Q => ∃ (a : Addr) (kvs : List (L2.Key × V)), vs = [.ref a] ∧ Rd H a (.dK kvs) ∧ ∀ q, H q = none → Q (.ref q) (upd H q (.lst (kvs.map fun kv => kV kv.1)))) := by
  rintro pins s σ H vs us Q I r ⟨a, kvs, rfl, g, q⟩
  obtain ⟨u, rfl, ru⟩ := vals1 r
  cases ru
  obtain ⟨len, nsm, ws, pr, dd⟩ := dk_rd I.hok g
  obtain ⟨ep, at_⟩ := dd.dictAt
  have lw := pr.length
  refine PySem.W.kdl_call (PySem.W.kdl_dict (ep := ep) (knd := mixKind X.prog X.w) (kvs := ws) nsm) (I.ok.hd hc) at_ (by omega) fun h2 tk acc c kp at2 each => ?_
  have rel : Vals (kvs.map fun kv => kV kv.1) acc.toList := by
    refine vals_of_at (by have := each.1; simp; omega) fun j x w h1 h3 => ?_
    rw [Array.getElem?_toList] at h3
    obtain ⟨k, y, hky, hi⟩ := each.2 j w h3
    have kk : (kvs.map (·.1))[j]? = some k := by rw [KV.keys pr, List.getElem?_map, hky]; rfl
    rw [List.getElem?_map] at h1 kk
    cases z : kvs[j]? with
    | none => rw [z] at kk; cases kk
    | some p =>
      rw [z] at h1 kk
      cases h1
      cases kk
      exact keyIs_rel hi
  have ok : ObjOk X.prog X.w (upd H s.heap.objs.size (.lst (kvs.map fun kv => kV kv.1))) h2 s.heap.objs.size (.lst (kvs.map fun kv => kV kv.1)) := ⟨by rw [List.length_map]; exact len, acc.toList, c, rel, by rw [Array.toArray_toList]; exact at2⟩
  exact ⟨.ref s.heap.objs.size, _, I.laid kp (Nat.le_refl _) ok, rfl, q _ (I.hok.fresh (Nat.le_refl _))⟩
theorem s_keysL {mm : Bool} {c : Ec} {a : Expr} {p pos : Pos} (ok : OkX X S sc W) (hh : S.hot = none) (hg : Gl X "list") (hm : X.mg "list" = none) (ha : PE X a (TEc S W c)) (na : ∀ r, starEach (a :: r) X.env = (false, eval a X.env) :: starEach r X.env) :
    PE X (.Call (.Name "list" p) [a] [] pos) (TEc S W (.opn mm .keysL [c])) := by
  refine (pe_callTy (T := "list") (call_listR (ok.calm hh)) hg hm boot_list (pa_cons ha pa_nil (na _)) (by decide) (by decide +kernel) (na _) rfl).impH fun σ H Q z => ?_
  obtain ⟨env, h, m, st, p⟩ := opn1 z
  refine ⟨env, h, m, st, p.mono fun v H1 ⟨h1, m1, d, Wx, hr, r, p1⟩ => ?_⟩
  have p1 : Post S.T h1.length m1 H1 (RepV S.T) Q Wx (match dctAt h1 d with
    | some (ks, _) => mkL mm ks h1
    | none => .no) := by cases d <;> exact p1
  cases e : dctAt h1 d with
  | none => rw [e] at p1; exact p1.elim
  | some kd =>
    obtain ⟨ks, ds⟩ := kd
    rw [e] at p1
    obtain ⟨b, us, rfl, ⟨kk, e1, l1, e2⟩, l⟩ := dctAt_rep hr r e
    refine ⟨b, _, rfl, e2, fun q hq => ?_⟩
    rw [keys_zip kV l1]
    exact post_mkL p1 hr (keys_rep e1) hq
end
end Hr
set_option maxHeartbeats 4000000
/-! Dict displays; setdefault and get; calls by names. -/
namespace Hr
open PySem PySem.Spec PyProof.Rows L2
section
variable {S : St0} {X : Cx} {sc : Scope} {W : WX}
def trsP (S : St0) (W : WX) : List Ec → List (TE × TE)
  | k :: v :: r => (TEc S W k, TEc S W v) :: trsP S W r
  | _ => []
theorem pps_of {pos : Pos} : ∀ {ks : List (Option Expr)} {vs xs : List Expr} {cs : List Ec}, dispB ks vs = some xs → PEs X S W cs xs → PPs X pos ks vs (trsP S W cs) ∧ ks.all (·.isSome) = true ∧ ks.length = vs.length
  | [], [], xs, cs, e, ps => by
    cases e
    cases ps
    exact ⟨pps_nil, rfl, rfl⟩
  | some k :: ks, v :: vs, xs, cs, e, ps => by
    have e : (dispB ks vs).map (fun r => k :: v :: r) = some xs := e
    cases z : dispB ks vs with
    | none => rw [z] at e; cases e
    | some r =>
      rw [z] at e
      cases e
      cases ps with
      | cons a _ ps =>
        cases ps with
        | cons b _ ps =>
          obtain ⟨i1, i2, i3⟩ := pps_of z ps
          exact ⟨pps_cons a b i1, by rw [List.all_cons, i2]; rfl, by rw [List.length_cons, List.length_cons, i3]⟩
  | none :: _, _, _, _, e, _ => by cases e
  | [], _ :: _, _, _, e, _ => by cases e
  | some _ :: _, [], _, _, e, _ => by cases e
theorem pairs_run {env : En} {hf : Hv} {σ : L2.St} : ∀ {cs : List Ec} {ds kd vd : List D} {h : Hv} {m : Gh} {H : Hp} {Q : List (V × V) → Hp → Prop}, evs S.C cs env h = .ok ds hf → pairsD ds = some (kd, vd) → Sta S.T m h H σ env →
    (∀ mf Hf kv vv, Ext h.length m H hf.length mf Hf → HR S.T mf Hf hf → RepL S.T hf.length mf Hf kd kv → RepL S.T hf.length mf Hf vd vv → Q (kv.zip vv) Hf) → tPairs (trsP S W cs) σ H Q
  | [], ds, kd, vd, h, m, H, Q, e, pe, st, q => by
    obtain ⟨rfl, rfl⟩ := evs_nil_ok e
    cases pe
    exact q m H [] [] .refl st.hr rfl rfl
  | [c], ds, kd, vd, h, m, H, Q, e, pe, st, q => by
    obtain ⟨d, h1, r, _, e2, rfl⟩ := evs_cons_ok e
    obtain ⟨rfl, _⟩ := evs_nil_ok e2
    cases pe
  | c :: c2 :: cs, ds, kd, vd, h, m, H, Q, e, pe, st, q => by
    obtain ⟨d, h1, r, e1, e2, rfl⟩ := evs_cons_ok e
    obtain ⟨d2, h2, r2, e3, e4, rfl⟩ := evs_cons_ok e2
    have pe : (pairsD r2).map (fun p => (d :: p.1, d2 :: p.2)) = some (kd, vd) := pe
    cases z : pairsD r2 with
    | none => rw [z] at pe; cases pe
    | some p =>
      obtain ⟨k0, v0⟩ := p
      rw [z] at pe
      cases pe
      refine one_run e1 st fun m1 H1 v x1 hr1 r1 => one_run e3 (st.next x1 hr1) fun m2 H2 u x2 hr2 r3 => ?_
      refine pairs_run e4 z ((st.next x1 hr1).next x2 hr2) fun mf Hf kv vv x hr a b => ?_
      exact q mf Hf (v :: kv) (u :: vv) ((x1.trans x2).trans x) hr ⟨v, kv, rfl, RepV.ext (x2.trans x) _ _ r1, a⟩ ⟨u, vv, rfl, RepV.ext x _ _ r3, b⟩
theorem keys_vals {T : Tb} {N : Nat} {m : Gh} {H : Hp} : ∀ {ks : List D} {kk : List L2.Key} {vs : List V}, keysD ks = some kk → RepL T N m H ks vs → vs = kk.map kV
  | [], kk, vs, e, r => by cases e; exact r
  | d :: ds, kk, vs, e, ⟨v, w, q, a, b⟩ => by
    subst q
    have e : (keyD d).bind (fun k => (keysD ds).map (k :: ·)) = some kk := e
    cases z : keyD d with
    | none => rw [z] at e; cases e
    | some q =>
      rw [z] at e
      cases y : keysD ds with
      | none => rw [y] at e; cases e
      | some ll =>
        rw [y] at e
        cases e
        rw [List.map_cons, ← keys_vals y b, key_rep z a]
theorem merge_new : ∀ (more acc : List (L2.Key × V)), ((acc ++ more).map (·.1)).Nodup → mergeK acc more = acc ++ more
  | [], acc, _ => by rw [List.append_nil]; rfl
  | p :: r, acc, h => by
    have e : putK acc p.1 p.2 = acc ++ [p] := by
      unfold putK
      rw [if_neg]
      intro z
      obtain ⟨x, hx, e⟩ := List.any_eq_true.mp z
      have e := of_decide_eq_true e
      rw [List.map_append, List.nodup_append] at h
      exact h.2.2 x.1 (List.mem_map.mpr ⟨x, hx, rfl⟩) p.1 (List.mem_map.mpr ⟨p, List.mem_cons_self, rfl⟩) e
    show mergeK (putK acc p.1 p.2) r = _
    rw [e, merge_new r (acc ++ [p]) (by rw [List.append_assoc]; exact h), List.append_assoc]
    rfl
/-- what was laid aside becomes a cell -/
theorem hr_adoptC {T : Tb} {m : Gh} {H : Hp} {h : Hv} {P : Addr → Prop} {A : Addr} {c : Cell} (hr : HR T m H h) (hP : ∀ a, P a → m.P a) (hD : m.P A) (hn : ¬ P A) (r : CellR T (h.length + 1) ((m.sub P).add h.length A) H A c) : HR T ((m.sub P).add h.length A) H (h ++ [c]) := by
  have x : Ext0 h.length m H (h.length + 1) ((m.sub P).add h.length A) H := ext0_adopt hP hD
  have hl : (h ++ [c]).length = h.length + 1 := by simp
  have hd : ∀ i, i < h.length → m i ≠ A := fun i hi z => hr.off i hi (by rw [z]; exact hD)
  refine ⟨fun n c' e' => ?_, fun i j hi hj e' => ?_, fun i hi => ?_, fun a z => hr.here a (hP a z)⟩
  · rw [hl]
    by_cases hn : n = h.length
    · subst hn
      rw [List.getElem?_concat_length] at e'
      cases e'
      rw [add_same]
      exact r
    · have hlt : n < h.length := by have := getElem?_lt e'; omega
      rw [List.getElem?_append_left hlt] at e'
      rw [add_ne hn]
      exact CellR.ext0 x (fun _ q => q) (hr.cell n c' e')
  · rw [hl] at hi hj
    by_cases h1 : i = h.length
    · by_cases h2 : j = h.length
      · omega
      · rw [h1, add_same, add_ne h2] at e'
        exact absurd e'.symm (hd j (by omega))
    · by_cases h2 : j = h.length
      · rw [h2, add_same, add_ne h1] at e'
        exact absurd e' (hd i (by omega))
      · rw [add_ne h1, add_ne h2] at e'
        exact hr.inj i j (by omega) (by omega) e'
  · rw [hl] at hi
    by_cases h1 : i = h.length
    · rw [h1, add_same]
      exact hn
    · rw [add_ne h1]
      exact fun z => hr.off i (by omega) (hP _ z)
/-- a dict that was made aside -/
theorem aside_dct {T : Tb} {m mi : Gh} {H Hi : Hp} {h hi : Hv} {q : Addr} {ks vs : List D} {us : List V} {mm : Bool} {Q : VK} {Wx : XK} (hr0 : HR T m H h) (hq : H q = none) (e0 : Ext0 h.length m H hi.length mi Hi) (hr : HR T mi Hi hi) (sd : mi.P = fun a => m.P a ∨ a = q) (pr : ∀ a o, m.P a → H a = some o → Hi a = some o)
    (dk : DK Hi q ks us) (l : RepL T hi.length mi Hi vs us) (p : Post T h.length m H (RepV T) Q Wx (mkDc mm ks vs hi)) : Q (.ref q) Hi := by
  have pD : mi.P q := by rw [sd]; exact .inr rfl
  have hP : ∀ a, m.P a → mi.P a := fun a z => by rw [sd]; exact .inl z
  have nD : ¬ m.P q := fun z => by
    obtain ⟨o, e⟩ := hr0.here q z
    rw [hq] at e
    cases e
  have ne : ∀ n, n < hi.length → mi n ≠ q := fun n hn z => hr.off n hn (by rw [z]; exact pD)
  cases mm with
  | false =>
    have x0 := e0.trans (ext0_sub (N := hi.length) (H := Hi) hP)
    exact p (mi.sub m.P) Hi _ ⟨x0.le, x0.mu, x0.keep, rfl, pr⟩ (hr_sub hr hP) ⟨q, us, rfl, dk.rd, ⟨ne, nD⟩, RepL.ext0 (ext0_sub hP) _ _ l⟩
  | true =>
    have hl : (hi ++ [Cell.dct ks vs]).length = hi.length + 1 := by simp
    have x0 := e0.trans (ext0_adopt (N := hi.length) (H := Hi) (D := q) hP pD)
    have p : ∀ m' H' b, Ext h.length m H (hi ++ [Cell.dct ks vs]).length m' H' → HR T m' H' (hi ++ [Cell.dct ks vs]) → RepV T (hi ++ [Cell.dct ks vs]).length m' H' (.ref hi.length) b → Q b H' := p
    rw [hl] at p
    exact p ((mi.sub m.P).add hi.length q) Hi _ ⟨x0.le, x0.mu, x0.keep, rfl, pr⟩ (hr_adoptC hr hP pD nD ⟨us, dk, RepL.ext0 (ext0_adopt hP pD) _ _ l⟩) ⟨Nat.lt_succ_self _, by rw [add_same]⟩
theorem s_disp {mm : Bool} {n : Nat} {cs : List Ec} {ks : List (Option Expr)} {vs xs : List Expr} {pos : Pos} (hxi : S.T.xi = none) (hn : ks.length = n) (hb : dispB ks vs = some xs) (ps : PEs X S W cs xs) (h0 : 0 < n) (h15 : n ≤ 15) : PE X (.Dict ks vs pos) (TEc S W (.opn mm (.disp n) cs)) := by
  obtain ⟨q1, q2, q3⟩ := pps_of (pos := pos) hb ps
  refine (pe_disp q1 q2 q3 (fun z => by rw [z] at hn; exact absurd hn.symm (by simp; omega)) (by omega)).impH fun σ H Q ⟨env, h, m, st, p⟩ => ?_
  obtain ⟨ds, hf, e, p⟩ := quiet_bind (show Post S.T h.length m H (RepV S.T) Q (fun c d H' => W c d σ H') ((evs S.C cs env h).quiet.bind fun ds h => opD mm (.disp n) ds h) from p)
  have p : Post S.T h.length m H (RepV S.T) Q (fun c d H' => W c d σ H') (if ds.length = n + n ∧ 0 < n ∧ n ≤ 15 then mkDo mm hf (pairsD ds) else .no) := p
  by_cases c : ds.length = n + n ∧ 0 < n ∧ n ≤ 15
  case neg => rw [if_neg c] at p; exact p.elim
  rw [if_pos c] at p
  cases z : pairsD ds with
  | none => rw [z] at p; exact p.elim
  | some kv =>
    obtain ⟨kd, vd⟩ := kv
    rw [z] at p
    have p : Post S.T h.length m H (RepV S.T) Q (fun c d H' => W c d σ H') (match keysD kd with
      | some kk => if kk.Nodup then mkDc mm kd vd hf else .no
      | none => .no) := p
    cases y : keysD kd with
    | none => rw [y] at p; exact p.elim
    | some kk =>
      rw [y] at p
      have p : Post S.T h.length m H (RepV S.T) Q (fun c d H' => W c d σ H') (if kk.Nodup then mkDc mm kd vd hf else .no) := p
      by_cases nd : kk.Nodup
      case neg => rw [if_neg nd] at p; exact p.elim
      rw [if_pos nd] at p
      intro q hq
      refine pairs_run e z ⟨hr_addP st.hr hq, st.en.ext0 (ext0_addP hq), .calm hxi⟩ fun mf Hf kv vv x hr a b => ?_
      have pl : ∀ {ds kd vd : List D}, pairsD ds = some (kd, vd) → ds.length = kd.length + kd.length ∧ kd.length = vd.length := by
        intro ds
        induction ds using pairsD.induct with
        | case1 => intro kd vd e; cases e; exact ⟨rfl, rfl⟩
        | case2 k v r ih =>
          intro kd vd e
          have e : (pairsD r).map (fun p => (k :: p.1, v :: p.2)) = some (kd, vd) := e
          cases z : pairsD r with
          | none => rw [z] at e; cases e
          | some p =>
            obtain ⟨k0, v0⟩ := p
            rw [z] at e
            cases e
            obtain ⟨i1, i2⟩ := ih z
            exact ⟨by simp only [List.length_cons]; omega, by simp only [List.length_cons]; omega⟩
        | case3 t h1 h2 =>
          intro kd vd e
          unfold pairsD at e
          split at e
          · exact absurd rfl h1
          · exact absurd rfl (h2 _ _ _)
          · cases e
      obtain ⟨l1, l2⟩ := pl z
      have lk := keys_len y
      have ek := keys_vals y a
      subst ek
      have lv : kk.length = vv.length := by rw [← b.length]; omega
      have at_ : Hf q = some (.dK []) := x.prot q _ (.inr rfl) upd_same
      refine ⟨at_, kk.zip vv, ?_, by rw [List.length_zip]; omega, ?_⟩
      · rw [List.zip_map_left]
        exact List.map_congr_left fun _ _ => rfl
      · rw [merge_new _ [] (by rw [List.nil_append, List.map_fst_zip (by omega)]; exact nd), List.nil_append]
        have pD : mf.P q := by rw [x.side]; exact .inr rfl
        exact aside_dct st.hr hq (((ext0_addP hq).trans x.to0).trans (ext0_side pD)) (hr_side hr pD) x.side (fun a o pa e => by rw [upd_ne (ne_of_none e hq)]; exact x.prot a o (.inl pa) (by rw [upd_ne (ne_of_none e hq)]; exact e))
          ⟨kk, y, lv, upd_same⟩ (RepL.ext0 (ext0_side pD) _ _ b) p
end
end Hr
set_option maxHeartbeats 4000000
/-! sorted of plain things of one kind. -/
namespace Hr
open PySem PySem.Spec PyProof.Rows L2
def ordP {α : Type} : α × PyData → α × PyData → Bool := PySem.W.dataLe false Prod.snd
theorem each_zip {K : PySem.W.Frag} {H : Hp} {s : Shared} (rd : ∀ (v : V) (p : PyData) (u : Value), Dp K H v p → RelV v u → p.plain = true → ∃ as, Reads s.heap u p as) : ∀ {xs : List V} {its : List Value} {ps : List PyData}, Vals xs its → DpAll K H xs ps → (∀ p ∈ ps, p.plain = true) →
    PySem.W.EachIs (fun (v : Value) (b : V × PyData) => RelV b.1 v) its (xs.zip ps) ∧ PySem.W.EachIs (fun (v : Value) (b : V × PyData) => ∃ as, Reads s.heap v b.2 as) its (xs.zip ps)
  | _, _, _, .nil, .nil, _ => ⟨.nil, .nil⟩
  | _, _, _, .cons r rs, .cons d ds, pl => by
    obtain ⟨a, b⟩ := each_zip rd rs ds fun p hp => pl p (List.mem_cons_of_mem _ hp)
    exact ⟨.cons r a, .cons (rd _ _ _ d r (pl _ List.mem_cons_self)) b⟩
theorem dpAll_len {K : PySem.W.Frag} {H : Hp} : ∀ {xs : List V} {ps : List PyData}, DpAll K H xs ps → xs.length = ps.length
  | _, _, .nil => rfl
  | _, _, .cons _ ds => congrArg (· + 1) (dpAll_len ds)
theorem vals_each : ∀ {out : List Value} {bs : List (V × PyData)}, PySem.W.EachIs (fun (v : Value) (b : V × PyData) => RelV b.1 v) out bs → Vals (bs.map (·.1)) out
  | _, _, .nil => .nil
  | _, _, .cons r e => .cons r (vals_each e)
theorem call_sortD {X : Cx} (hu : X.A.units + 65 < cLine) : CallR X (.builtin "sorted") (fun vs H Q => ∃ (a : Addr) (xs : List V) (ps : List PyData), vs = [.ref a] ∧ SqL X.K H a xs ∧ DpAll X.K H xs ps ∧ sortdOk ps = true ∧
    ∀ p, H p = none → Q (.ref p) (upd H p (.lst (((xs.zip ps).mergeSort ordP).map (·.1))))) := by
  intro pins s σ H vs us Q I r h
  obtain ⟨a, xs, ps, rfl, hs, dp, ok, q⟩ := h
  obtain ⟨its, rv, hl, hz⟩ := I.list hs
  rw [Vals.ref1 r]
  unfold sortdOk at ok
  rw [Bool.and_eq_true] at ok
  obtain ⟨ok1, ok2⟩ := ok
  have al := List.all_eq_true.mp ok1
  have sh : ∀ p ∈ ps, p.plain = true ∧ p.depth ≤ 60 := fun p hp => by
    have := al p hp
    rw [Bool.and_eq_true] at this
    have z := this.1
    unfold shp at z
    rw [Bool.and_eq_true, decide_eq_true_eq] at z
    exact z
  have ln := dpAll_len dp
  have em : (xs.zip ps).map Prod.snd = ps := List.map_snd_zip (by omega)
  obtain ⟨e1, e2⟩ := each_zip (s := s) (fun v p u d ru pl => Dp.reads I p v u d ru) rv dp fun p hp => (sh p hp).1
  have lz : (xs.zip ps).length = xs.length := by rw [List.length_zip]; omega
  refine PySem.W.sorted_data (enc := Prod.snd) hl.isList e1 e2 ?_ ?_ (by rw [lz]; exact hz) (fun b hb => ?_) fun out ho eo => ?_
  · rw [em]
    intro d hd d' hd'
    have := al d hd
    rw [Bool.and_eq_true] at this
    exact List.all_eq_true.mp this.2 d' hd'
  · rw [em]
    rw [Bool.or_eq_true] at ok2
    rcases ok2 with o | o
    · refine .inl fun d hd => ?_
      have := List.all_eq_true.mp o d hd
      cases d with
      | tuple ys => cases ys with
        | nil => cases this
        | cons x r => exact ⟨x, r, rfl⟩
      | _ => cases this
    · refine .inr fun d hd => ?_
      have := List.all_eq_true.mp o d hd
      cases d with
      | none => cases this
      | tuple ys => cases this
      | _ => exact ⟨fun z => PyData.noConfusion z, fun _ z => PyData.noConfusion z⟩
  · have := (sh b.2 (List.of_mem_zip hb).2).2
    omega
  · have vo := vals_each eo
    obtain ⟨ep, he'⟩ := PyProof.Rows.sortedAll_at s.heap its out.toArray
    have hlen : (((xs.zip ps).mergeSort ordP).map (·.1)).length ≤ sizeLine := by
      rw [List.length_map, List.length_mergeSort, lz]
      exact hz
    exact ⟨.ref _, upd H (s.heap.objs.size + 1) (.lst (((xs.zip ps).mergeSort ordP).map (·.1))), I.laid (t' := s.toks) (fun _ _ => PyProof.Rows.sortedAll_old) (Nat.le_succ _) ⟨hlen, out, ep, vo, he'⟩, rfl, q _ (I.hok.fresh (Nat.le_succ _))⟩
theorem zip3 {β : Type} : ∀ {ds : List D} {xs : List β} {ps : List PyData}, ds.length = xs.length → (ds.zip (xs.zip ps)).map (fun t => (t.1, t.2.2)) = ds.zip ps ∧ (ds.zip (xs.zip ps)).map (·.2) = xs.zip ps
  | [], [], _, _ => ⟨rfl, rfl⟩
  | d :: ds, x :: xs, [], _ => ⟨rfl, rfl⟩
  | d :: ds, x :: xs, p :: ps, e => by
    obtain ⟨a, b⟩ := zip3 (ds := ds) (xs := xs) (ps := ps) (by simpa using e)
    exact ⟨congrArg ((d, p) :: ·) a, congrArg ((x, p) :: ·) b⟩
  | [], _ :: _, _, e => by simp at e
  | _ :: _, [], _, e => by simp at e
theorem rep_map {T : Tb} {N : Nat} {m : Gh} {H : Hp} : ∀ {l : List (D × V × PyData)}, (∀ t ∈ l, RepV T N m H t.1 t.2.1) → RepL T N m H (l.map (·.1)) (l.map (·.2.1))
  | [], _ => rfl
  | t :: l, k => ⟨_, _, rfl, k t List.mem_cons_self, rep_map fun t ht => k t (List.mem_cons_of_mem _ ht)⟩
theorem rep_zip {T : Tb} {N : Nat} {m : Gh} {H : Hp} : ∀ {ds : List D} {xs : List V} {ps : List PyData}, RepL T N m H ds xs → ∀ t ∈ ds.zip (xs.zip ps), RepV T N m H t.1 t.2.1
  | [], _, _, _, t, ht => by simp at ht
  | d :: ds, _, [], ⟨v, w, e, a, b⟩, t, ht => by subst e; simp at ht
  | d :: ds, _, p :: ps, ⟨v, w, e, a, b⟩, t, ht => by
    subst e
    rcases List.mem_cons.mp (show t ∈ (d, v, p) :: ds.zip (w.zip ps) from ht) with rfl | ht
    · exact a
    · exact rep_zip b t ht
theorem sort_rep {T : Tb} {N : Nat} {m : Gh} {H : Hp} {ds : List D} {xs : List V} {ps : List PyData} (r : RepL T N m H ds xs) : RepL T N m H (((ds.zip ps).mergeSort ordP).map (·.1)) (((xs.zip ps).mergeSort ordP).map (·.1)) := by
  obtain ⟨z1, z2⟩ := zip3 (ps := ps) r.length
  let ordT : D × V × PyData → D × V × PyData → Bool := fun a b => ordP a.2 b.2
  have a1 : ((ds.zip (xs.zip ps)).mergeSort ordT).map (fun t => (t.1, t.2.2)) = (ds.zip ps).mergeSort ordP := by
    exact (List.map_mergeSort (f := fun t : D × V × PyData => (t.1, t.2.2)) (r := ordT) (s := ordP) (l := ds.zip (xs.zip ps)) fun a _ b _ => rfl).trans (by rw [z1])
  have a2 : ((ds.zip (xs.zip ps)).mergeSort ordT).map (·.2) = (xs.zip ps).mergeSort ordP := by
    exact (List.map_mergeSort (f := fun t : D × V × PyData => t.2) (r := ordT) (s := ordP) (l := ds.zip (xs.zip ps)) fun a _ b _ => rfl).trans (by rw [z2])
  rw [← a1, ← a2, List.map_map, List.map_map]
  exact rep_map fun t ht => rep_zip r t (List.mem_mergeSort.mp ht)
theorem toPs_rep {T : Tb} {m : Gh} {H : Hp} {h : Hv} (hr : HR T m H h) : ∀ {ds : List D} {xs : List V} {ps : List PyData}, RepL T h.length m H ds xs → toPs h ds = some ps → (∀ p ∈ ps, p.plain = true) → DpAll T.K H xs ps
  | [], xs, ps, r, e, _ => by cases r; cases e; exact .nil
  | d :: ds, _, ps, ⟨v, w, q, a, b⟩, e, k => by
    subst q
    have e : (toP h d).bind (fun p => (toPs h ds).map (p :: ·)) = some ps := e
    cases z : toP h d with
    | none => rw [z] at e; cases e
    | some p =>
      rw [z] at e
      cases y : toPs h ds with
      | none => rw [y] at e; cases e
      | some qs =>
        rw [y] at e
        cases e
        exact .cons (toP_rep hr a z (k p List.mem_cons_self)) (toPs_rep hr b y fun p hp => k p (List.mem_cons_of_mem _ hp))
section
variable {S : St0} {X : Cx} {sc : Scope} {W : WX}
theorem s_sortd {mm : Bool} {c : Ec} {a : Expr} {p pos : Pos} (ok : OkX X S sc W) (hg : Gl X "sorted") (hm : X.mg "sorted" = none) (ha : PE X a (TEc S W c)) (na : ∀ r, starEach (a :: r) X.env = (false, eval a X.env) :: starEach r X.env) :
    PE X (.Call (.Name "sorted" p) [a] [] pos) (TEc S W (.opn mm .sortd [c])) := by
  refine (pe_callB (id := "sorted") (call_sortD (by have := units_of ok; omega)) hg hm (boot_bi .sorted) (pa_cons ha pa_nil (na _)) (by decide) (by decide +kernel) (na _) rfl).impH fun σ H Q z => ?_
  obtain ⟨env, h, m, st, q⟩ := opn1 z
  refine ⟨env, h, m, st, q.mono fun v H1 ⟨h1, m1, d, Wx, hr, r, p1⟩ => ?_⟩
  have p1 : Post S.T h1.length m1 H1 (RepV S.T) Q Wx (match asL h1 d with
    | some ds => mkLo mm h1 (sortdL h1 ds)
    | none => .no) := by cases d <;> exact p1
  cases e : asL h1 d with
  | none => rw [e] at p1; exact p1.elim
  | some ds =>
    rw [e] at p1
    have p1 : Post S.T h1.length m1 H1 (RepV S.T) Q Wx (mkLo mm h1 (sortdL h1 ds)) := p1
    obtain ⟨b, vs, rfl, hb, l⟩ := asL_rep hr r e
    unfold sortdL at p1
    cases y : toPs h1 ds with
    | none => rw [y] at p1; exact p1.elim
    | some ps =>
      rw [y] at p1
      have p1 : Post S.T h1.length m1 H1 (RepV S.T) Q Wx (mkLo mm h1 (if sortdOk ps then some (((ds.zip ps).mergeSort ordP).map (·.1)) else none)) := p1
      by_cases cs : sortdOk ps = true
      case neg => rw [if_neg cs] at p1; exact p1.elim
      rw [if_pos cs] at p1
      have pl : ∀ p ∈ ps, p.plain = true := fun p hp => by
        have c1 := cs
        unfold sortdOk at c1
        rw [Bool.and_eq_true] at c1
        have := List.all_eq_true.mp c1.1 p hp
        rw [Bool.and_eq_true] at this
        have z := this.1
        unfold shp at z
        rw [Bool.and_eq_true] at z
        exact z.1
      have dp := toPs_rep hr l y pl
      rw [← ok.hK] at dp
      exact ⟨b, vs, ps, rfl, .of hb, dp, cs, fun q hq => post_mkL p1 hr (sort_rep l) hq⟩
end
end Hr
set_option maxHeartbeats 4000000
/-! sum(xs, []) of a list of lists. -/
namespace Hr
open PySem PySem.Spec PyProof.Rows L2
theorem args_sumB (a b : Value) : argsOk "sum" ⟨[a, b], []⟩ := by unfold argsOk; kernel_rfl
theorem sub_list_bytes' : isSubtype (.type "list") (.type "bytes") = pure false := by rw [isSubtype_type]; kernel_rfl
theorem sub_list_bytearray' : isSubtype (.type "list") (.type "bytearray") = pure false := by rw [isSubtype_type]; kernel_rfl
/-- the lists that are added: where each stands, its items -/
abbrev Lots := List (Nat × List Value)
def Lots.refs (xs : Lots) : List Value := xs.map fun p => Value.ref p.1
def Lots.all (xs : Lots) : List Value := (xs.map (·.2)).flatten
def ListAt (h : Heap) (a : Nat) (vs : List Value) : Prop := ∃ n, IsL h a vs.toArray n
theorem Lots.all_snoc {xs : Lots} {i : Nat} {p : Nat × List Value} (e : xs[i]? = some p) : Lots.all (xs.take (i + 1)) = Lots.all (xs.take i) ++ p.2 := by
  have hi : i < xs.length := (List.getElem?_eq_some_iff.mp e).1
  have e2 : xs[i] = p := by
    rw [List.getElem?_eq_getElem hi] at e
    exact Option.some.inj e
  unfold Lots.all
  rw [List.take_succ_eq_append_getElem hi, List.map_append, List.flatten_append, e2]
  simp
theorem Lots.all_len {xs : Lots} (i : Nat) : (Lots.all (xs.take i)).length ≤ (Lots.all xs).length := by
  unfold Lots.all
  rw [← List.take_append_drop i xs, List.map_append, List.flatten_append, List.length_append]
  rw [List.take_append_drop]
  omega
section
variable {prog : Program} {w : World} {A : Around} {R : Result → Shared → Prop} {L I S : Nat} {xs : Lots} {h0 : Heap}
theorem sumL_loop (hh : A.handled = none) (hL : ListAt h0 L (Lots.refs xs)) (hx : ∀ p ∈ xs, ListAt h0 p.1 p.2) (hI : h0.objs.size ≤ I) (hS : h0.objs.size ≤ S) (hIS : I ≠ S) (hz : (Lots.all xs).length ≤ sizeLine) :
    ∀ (k i : Nat) (s : Shared) (t : Nat) (c : Nat), xs.length - i = k → i ≤ xs.length → (∀ (b : Nat) o, b < h0.objs.size → h0.get? b = some o → s.heap.get? b = some o) → s.heap.IsListIter I L i → IsL s.heap S #[.ref t] c → t ≠ I → t ≠ S → ListAt s.heap t (Lots.all (xs.take i)) →
      (∀ h' tk (t' : Nat), (∀ (b : Nat) o, b < h0.objs.size → h0.get? b = some o → h'.get? b = some o) → ListAt h' t' (Lots.all xs) → (i < xs.length ∧ h0.objs.size ≤ t' ∨ i = xs.length ∧ t' = t) → R (.ok (.ret (.ref t'))) { s with heap := h', toks := tk }) →
      codeAny (model prog w) A (.builtin "sum.loop" ⟨[.ref I, .ref S, rawInt 2, rawInt 0], []⟩) R s := by
  have lt_of : ∀ {h : Heap} {a : Nat} {vs : List Value}, ListAt h a vs → a < h.objs.size := fun ⟨_, e⟩ => Heap.lt_size e
  intro k
  induction k with
  | zero =>
    intro i s t c hk hi old hit hs1 ht1 ht2 hacc hR
    have hin : i = xs.length := by omega
    subst hin
    refine codeAny_builtin F.entry_sum_loop ?_
    rw [Around.under_plainId F.plain_sum_loop _]
    show wpAny _ A.in1 (seqItems? (.ref S) >>= _) _ _ s
    refine wpAny_bind (wpAny_seqItems hs1 rfl ?_)
    show wpAny _ A.in1 (tryCatch (pyNext (.ref I)) _ >>= _) _ _ s
    obtain ⟨nL, eL⟩ := hL
    have eL' := old L _ (Heap.lt_size eL) eL
    refine wpAny_bind (wpAny_tryCatch (wpAny_pyNext_list_end (A := A.in1) hh hit (PySem.IsL.isList eL') (Array.getElem?_eq_none (by simp [Lots.refs])) fun h' eb => ?_))
    rw [List.take_length] at hacc
    obtain ⟨n, e⟩ := hacc
    refine wpAny_pure (hR h' s.toks t (fun b o lt e => eb b o (Nat.ne_of_lt (Nat.lt_of_lt_of_le lt hI)) (old b o lt e)) ⟨n, eb t _ ht1 e⟩ (.inr ⟨rfl, rfl⟩))
  | succ k ih =>
    intro i s t c hk hi old hit hs1 ht1 ht2 hacc hR
    have hlt : i < xs.length := by omega
    refine codeAny_builtin F.entry_sum_loop ?_
    rw [Around.under_plainId F.plain_sum_loop _]
    show wpAny _ A.in1 (seqItems? (.ref S) >>= _) _ _ s
    refine wpAny_bind (wpAny_seqItems hs1 rfl ?_)
    show wpAny _ A.in1 (tryCatch (pyNext (.ref I)) _ >>= _) _ _ s
    obtain ⟨nL, eL⟩ := id hL
    have eL' := old L _ (Heap.lt_size eL) eL
    have ltL : @LT.lt Nat _ L _ := Heap.lt_size eL
    obtain ⟨p, hp⟩ : ∃ p, xs[i]? = some p := ⟨xs[i], List.getElem?_eq_getElem hlt⟩
    have hp2 := List.mem_of_getElem? hp
    obtain ⟨np, ep⟩ := hx p hp2
    have ltp : @LT.lt Nat _ p.1 _ := Heap.lt_size ep
    refine wpAny_bind (wpAny_tryCatch (wpAny_pyNext_list_item hit (PySem.IsL.isList eL') (x := .ref p.1) (by simp [Lots.refs, hp]) fun h' hit' sb => ?_))
    have kp : ∀ (b : Nat) o, b ≠ I → s.heap.get? b = some o → h'.get? b = some o := fun b o hb e => (sb.2 b hb).trans e
    obtain ⟨na, ea⟩ := hacc
    have ea' := kp t _ ht1 ea
    have ep' := kp p.1 _ (by omega) (old p.1 _ ltp ep)
    have es' := kp S _ (Ne.symm hIS) hs1
    have sz : (Lots.all (xs.take i)).length + p.2.length ≤ sizeLine := by
      have := Lots.all_len (xs := xs) (i + 1)
      rw [Lots.all_snoc hp, List.length_append] at this
      omega
    show wpAny _ A.in1 ((holding [Value.ref p.1] (binaryOp .Add (.ref t) (.ref p.1))).attempt >>= _) _ _ _
    refine wpAny_bind (wpAny_attempt (wpAny_holding (PySem.P.add_list (s := { s with heap := h' }) ea' ep' ?_ (by simpa using sz))))
    have eT : (h'.push { cls := .type "list", data := .seq ((Lots.all (xs.take i)).toArray ++ p.2.toArray) }).get? h'.objs.size = some { cls := .type "list", data := .seq ((Lots.all (xs.take i)).toArray ++ p.2.toArray) } := Heap.get?_push_size _ rfl
    have ltI : @LT.lt Nat _ I h'.objs.size := by obtain ⟨o, e, _⟩ := hit'; exact Heap.lt_size e
    have ltS : @LT.lt Nat _ S h'.objs.size := Heap.lt_size es'
    have es2 : (h'.push { cls := .type "list", data := .seq ((Lots.all (xs.take i)).toArray ++ p.2.toArray) }).get? S = _ := Heap.get?_push_of_some _ es'
    show wpAny _ A.in1 (updateSeq S (fun _ => #[.ref h'.objs.size]) >>= _) _ _ _
    refine wpAny_bind (wpAny_updateSeq es2 rfl ?_)
    have es3 := Heap.get?_update_self (Obj.mapSeq fun _ => #[Value.ref h'.objs.size]) es2 rfl
    refine wpAny_bind (wpAny_letGo ?_)
    refine wpAny_bind (wpAny_updateSeq es3 rfl (wpAny_pure ⟨plainId_quiet F.plain_sum_loop _, ?_⟩))
    have oth : ∀ (b : Nat) o, b ≠ S → (h'.push { cls := .type "list", data := .seq ((Lots.all (xs.take i)).toArray ++ p.2.toArray) }).get? b = some o → (((h'.push { cls := .type "list", data := .seq ((Lots.all (xs.take i)).toArray ++ p.2.toArray) }).update S (Obj.mapSeq fun _ => #[Value.ref h'.objs.size])).update S (Obj.mapSeq fun _ => #[Value.ref h'.objs.size])).get? b = some o := fun b o hb e =>
      (Heap.get?_update_other _ _ (Ne.symm hb)).trans ((Heap.get?_update_other _ _ (Ne.symm hb)).trans e)
    refine ih (i + 1) _ h'.objs.size _ (by omega) (by omega) (fun b o lt e => ?_) (hit'.at fun o e => ?_) (Heap.get?_update_self _ es3 rfl) (by omega) (by omega) ?_ fun h'' tk t' old2 la c2 => ?_
    · exact oth b o (by omega) (Heap.get?_push_of_some _ (kp b o (by omega) (old b o lt e)))
    · exact oth I o hIS (Heap.get?_push_of_some _ e)
    · rw [Lots.all_snoc hp]
      refine ⟨0, (oth _ _ (by omega) eT).trans ?_⟩
      rw [List.append_toArray]
    · refine hR h'' tk t' old2 la (.inl ⟨hlt, ?_⟩)
      rcases c2 with ⟨_, c2⟩ | ⟨_, rfl⟩
      · exact c2
      · omega
end
section
variable {prog : Program} {w : World} {A : Around} {s : Shared} {L t0 : Nat} {xs : Lots}
theorem call_sumL {Q : Value → Shared → Prop} {E : Value → Shared → Prop} (hh : A.handled = none) (hL : ListAt s.heap L (Lots.refs xs)) (hx : ∀ p ∈ xs, ListAt s.heap p.1 p.2) (ht : ListAt s.heap t0 []) (hz : (Lots.all xs).length ≤ sizeLine)
    (h : ∀ h' tk (t' : Nat), (∀ b o, s.heap.get? b = some o → h'.get? b = some o) → ListAt h' t' (Lots.all xs) → (xs ≠ [] ∧ s.heap.objs.size ≤ t' ∨ xs = [] ∧ t' = t0) → Q (.ref t') { s with heap := h', toks := tk }) :
    wpAny (model prog w) A (call (.builtin "sum") [.ref L, .ref t0]) Q E s := by
  refine call_function_tree F.kind_sum F.plain_sum F.entry_sum (args_sumB _ _) ?_
  unfold Builtin.«sum»
  simp only [List.length_cons, List.length_nil]
  rw [if_neg (by decide)]
  refine wpAny_bind (wpAny_of_eq (show Builtin.Builtins.bindParams "sum" ["start"] 0 ⟨[.ref t0], []⟩ = pure [some (.ref t0)] from rfl) ?_)
  obtain ⟨nL, eL⟩ := id hL
  obtain ⟨nt, et⟩ := id ht
  have ltL : @LT.lt Nat _ L _ := Heap.lt_size eL
  have ltt : @LT.lt Nat _ t0 _ := Heap.lt_size et
  refine wpAny_bind (wpAny_pyIter_list (PySem.IsL.isList eL) ?_)
  refine wpAny_bind (wpAny_pure ?_)
  have ety : Shared.TypeIs { s with heap := s.heap.push { cls := .type "list_iterator", data := .fields #[.ref L, .int 0 0] } } (.ref t0) "list" := ⟨_, Heap.get?_push_of_some _ et, rfl⟩
  simp only [List.forIn_cons, List.forIn_nil]
  refine wpAny_bind (wpAny_bind (wpAny_bind (wpAny_isInstance (T := "list") (b := false) ety F.sub_list_str ?_)))
  simp only [Bool.false_eq_true, if_false]
  refine wpAny_pure (wpAny_bind (wpAny_bind (wpAny_isInstance (T := "list") (b := false) ety sub_list_bytes' ?_)))
  simp only [Bool.false_eq_true, if_false]
  refine wpAny_pure (wpAny_bind (wpAny_bind (wpAny_isInstance (T := "list") (b := false) ety sub_list_bytearray' ?_)))
  simp only [Bool.false_eq_true, if_false]
  refine wpAny_pure (wpAny_pure ?_)
  refine wpAny_bind (wpAny_newObj_type ?_)
  have kp : ∀ b o, s.heap.get? b = some o → ((s.heap.push { cls := .type "list_iterator", data := .fields #[.ref L, .int 0 0] }).push { cls := .type "list", data := .seq #[.ref t0] }).get? b = some o := fun b o e => Heap.get?_push_of_some _ (Heap.get?_push_of_some _ e)
  refine wpAny_pure ⟨plainId_quiet F.plain_sum_loop _, sumL_loop (A := A) (I := s.heap.objs.size) (S := (s.heap.push { cls := .type "list_iterator", data := .fields #[.ref L, .int 0 0] }).objs.size) hh hL hx (Nat.le_refl _) (by rw [Heap.size_push]; omega) (by rw [Heap.size_push]; omega) hz xs.length 0 _ t0 _ rfl (Nat.zero_le _) (fun b o _ e => kp b o e) ⟨_, Heap.get?_push_of_some _ (Heap.get?_push_size _ rfl), rfl, rfl⟩ (Heap.get?_push_size _ rfl) (by omega) (by rw [Heap.size_push]; omega) ⟨_, kp _ _ et⟩ fun h' tk t' old la c => ?_⟩
  refine h h' tk t' (fun b o e => old b o (Heap.lt_size e) e) la ?_
  rcases c with ⟨c, d⟩ | ⟨c, d⟩
  · exact .inl ⟨fun z => by rw [z] at c; exact absurd c (by simp), d⟩
  · exact .inr ⟨List.eq_nil_of_length_eq_zero c.symm, d⟩
end
/-- the lists that stand there, in the heap -/
theorem lots_of {P : Program} {w : World} {H : Hp} {h : Heap} (ok : HOk P w H h) : ∀ {xs : List (Nat × List V)}, (∀ p ∈ xs, H p.1 = some (.lst p.2)) → ∃ ys : Lots, Lots.refs ys = xs.map (fun p => Value.ref p.1) ∧ (∀ p ∈ ys, ListAt h p.1 p.2) ∧ Vals (xs.map (·.2)).flatten (Lots.all ys) ∧ (ys = [] ↔ xs = [])
  | [], _ => ⟨[], rfl, (fun _ z => nomatch z), .nil, ⟨fun _ => rfl, fun _ => rfl⟩⟩
  | p :: xs, k => by
    obtain ⟨ys, e1, e2, e3, _⟩ := lots_of ok (xs := xs) fun q hq => k q (List.mem_cons_of_mem _ hq)
    obtain ⟨_, its, n, r, e⟩ := ok p.1 _ (k p List.mem_cons_self)
    refine ⟨(p.1, its) :: ys, ?_, fun q hq => ?_, ?_, by simp⟩
    · show Value.ref p.1 :: Lots.refs ys = _
      rw [e1]; rfl
    · rcases List.mem_cons.mp hq with rfl | hq
      · exact ⟨n, e⟩
      · exact e2 q hq
    · show Vals (p.2 ++ (xs.map (·.2)).flatten) (its ++ Lots.all ys)
      exact r.append e3
theorem refs_vals : ∀ {xs : List (Nat × List V)} {us : List Value}, Vals (xs.map fun p => V.ref p.1) us → us = xs.map fun p => Value.ref p.1
  | [], _, r => by cases r; rfl
  | p :: xs, _, r => by
    rw [List.map_cons] at r
    cases r with
    | cons a b =>
      cases a
      rw [refs_vals b]; rfl
def rSumL : List V → Hp → VK → Prop := fun vs H Q => ∃ (a p0 : Nat) (xs : List (Nat × List V)), vs = [.ref a, .ref p0] ∧ H a = some (.lst (xs.map fun p => .ref p.1)) ∧ (∀ p ∈ xs, H p.1 = some (.lst p.2)) ∧ H p0 = some (.lst []) ∧ (xs.map (·.2)).flatten.length ≤ sizeLine ∧
  (xs = [] → Q (.ref p0) H) ∧ (xs ≠ [] → ∀ q, H q = none → Q (.ref q) (upd H q (.lst (xs.map (·.2)).flatten)))
theorem cr_sumL {X : Cx} (hc : X.calm = true) : CallR X (.builtin "sum") rSumL := by
  intro pins s σ H vs us Q I r h
  obtain ⟨a, p0, xs, rfl, ha, hx, hp, hz, q0, q1⟩ := h
  obtain ⟨u1, u2, rfl⟩ : ∃ u1 u2, us = [u1, u2] := by
    cases r with
    | cons r1 t => cases t with
      | cons r2 t => cases t; exact ⟨_, _, rfl⟩
  cases r with
  | cons r1 t => cases t with
    | cons r2 t =>
      cases t
      cases r1
      cases r2
      obtain ⟨ys, e1, e2, e3, e4⟩ := lots_of I.hok hx
      obtain ⟨_, its, n, rl, el⟩ := I.hok a _ ha
      obtain ⟨_, its0, n0, rl0, el0⟩ := I.hok p0 _ hp
      cases rl0
      have := refs_vals rl
      subst this
      have lz := e3.length
      refine call_sumL (I.ok.hd hc) (xs := ys) ⟨n, by rw [e1]; exact el⟩ e2 ⟨n0, el0⟩ (by rw [← lz]; exact hz) fun h' tk t' kp la c => ?_
      rcases c with ⟨c, d⟩ | ⟨c, rfl⟩
      · obtain ⟨nn, la⟩ := la
        have ne : xs ≠ [] := fun z => c (e4.mpr z)
        exact ⟨.ref t', upd H t' (.lst (xs.map (·.2)).flatten), I.laid (t' := tk) kp d ⟨hz, Lots.all ys, nn, e3, la⟩, rfl, q1 ne t' (I.hok.fresh d)⟩
      · exact ⟨.ref t', H, I.kept (t' := tk) kp, rfl, q0 (e4.mp c)⟩
theorem listsD_rep {T : Tb} {m : Gh} {H : Hp} {h : Hv} (hr : HR T m H h) : ∀ {ds : List D} {vs : List V} {xss : List (List D)}, RepL T h.length m H ds vs → listsD h ds = some xss → ∃ xs : List (Nat × List V), vs = xs.map (fun p => V.ref p.1) ∧ (∀ p ∈ xs, H p.1 = some (.lst p.2)) ∧ RepL T h.length m H xss.flatten (xs.map (·.2)).flatten
  | [], _, xss, r, e => by
    cases r
    cases e
    exact ⟨[], rfl, (fun _ z => nomatch z), rfl⟩
  | d :: ds, _, xss, ⟨v, w, q, a, b⟩, e => by
    subst q
    have e : (asL h d).bind (fun xs => (listsD h ds).map (xs :: ·)) = some xss := e
    cases z : asL h d with
    | none => rw [z] at e; cases e
    | some ys =>
      rw [z] at e
      cases y : listsD h ds with
      | none => rw [y] at e; cases e
      | some yss =>
        rw [y] at e
        cases e
        obtain ⟨xs, e1, e2, e3⟩ := listsD_rep hr b y
        obtain ⟨ad, vs, rfl, hb, l⟩ := asL_rep hr a z
        refine ⟨(ad, vs) :: xs, by rw [e1]; rfl, fun p hp => ?_, ?_⟩
        · rcases List.mem_cons.mp hp with rfl | hp
          · exact hb
          · exact e2 p hp
        · exact RepL.append l e3
section
variable {S : St0} {X : Cx} {sc : Scope} {W : WX}
theorem opn2 {mm : Bool} {o : Op} {c c2 : Ec} {σ : L2.St} {H : Hp} {Q : VK} (q : TEc S W (.opn mm o [c, c2]) σ H Q) : TEc S W c σ H (fun v H1 => TEc S W c2 σ H1 fun u H2 => ∃ h2 m2 d e Wx, HR S.T m2 H2 h2 ∧ RepV S.T h2.length m2 H2 d v ∧ RepV S.T h2.length m2 H2 e u ∧ Post S.T h2.length m2 H2 (RepV S.T) Q Wx (opD mm o [d, e] h2)) := by
  obtain ⟨env, h, m, st, p⟩ := q
  obtain ⟨ds, hf, e, p⟩ := quiet_bind (show Post S.T h.length m H (RepV S.T) Q (fun c d H' => W c d σ H') ((evs S.C [c, c2] env h).quiet.bind fun ds h => opD mm o ds h) from p)
  obtain ⟨d, h1, r, e1, e2, rfl⟩ := evs_cons_ok e
  obtain ⟨d2, h2, r2, e3, e4, rfl⟩ := evs_cons_ok e2
  obtain ⟨rfl, rfl⟩ := evs_nil_ok e4
  exact one_run e1 st fun m1 H1 v x hr r => one_run e3 (st.next x hr) fun m2 H2 u x2 hr2 r2 => ⟨_, m2, d, d2, _, hr2, RepV.ext x2 _ _ r, r2, Post.ext p (x.trans x2)⟩
theorem s_suml {mm : Bool} {c c2 : Ec} {a b : Expr} {p pos : Pos} (ok : OkX X S sc W) (hh : S.hot = none) (hg : Gl X "sum") (hm : X.mg "sum" = none) (ha : PE X a (TEc S W c)) (na : ∀ r, starEach (a :: r) X.env = (false, eval a X.env) :: starEach r X.env)
    (hb : PE X b (TEc S W c2)) (nb : ∀ r, starEach (b :: r) X.env = (false, eval b X.env) :: starEach r X.env) :
    PE X (.Call (.Name "sum" p) [a, b] [] pos) (TEc S W (.opn mm .suml [c, c2])) := by
  refine (pe_callB (id := "sum") (cr_sumL (ok.calm hh)) hg hm (boot_bi .sum) (pa_cons ha (pa_cons hb pa_nil (nb _)) (na _)) (by decide) (by decide +kernel) (na _) (by rw [nb]; rfl)).impH fun σ H Q z => ?_
  obtain ⟨env, h, m, st, q⟩ := opn2 z
  refine ⟨env, h, m, st, q.mono fun v H1 ⟨env2, h1, m1, st1, q1⟩ => ⟨env2, h1, m1, st1, q1.mono fun u H2 ⟨h2, m2, d, e, Wx, hr, r1, r2, p2⟩ => ?_⟩⟩
  have p2 : Post S.T h2.length m2 H2 (RepV S.T) Q Wx (match asL h2 d, asL h2 e with
    | some ds, some [] => sumlD h2 ds e
    | _, _ => .no) := p2
  cases z1 : asL h2 d with
  | none => rw [z1] at p2; exact p2.elim
  | some ds =>
    cases z2 : asL h2 e with
    | none => rw [z1, z2] at p2; exact p2.elim
    | some es =>
      rw [z1, z2] at p2
      cases es with
      | cons _ _ => exact p2.elim
      | nil =>
        have p2 : Post S.T h2.length m2 H2 (RepV S.T) Q Wx (match listsD h2 ds with
          | some xss => if ds = [] then .ok e h2 else if xss.flatten.length ≤ sizeLine then .ok (.lst xss.flatten) h2 else .no
          | none => .no) := p2
        obtain ⟨b, vs, rfl, hb, l⟩ := asL_rep hr r1 z1
        obtain ⟨p0, vs0, rfl, hp0, l0⟩ := asL_rep hr r2 z2
        cases l0
        cases y : listsD h2 ds with
        | none => rw [y] at p2; exact p2.elim
        | some xss =>
          rw [y] at p2
          obtain ⟨xs, rfl, e2, e3⟩ := listsD_rep hr l y
          have p2 : Post S.T h2.length m2 H2 (RepV S.T) Q Wx (if ds = [] then .ok e h2 else if xss.flatten.length ≤ sizeLine then .ok (.lst xss.flatten) h2 else .no) := p2
          have ln := l.length
          by_cases c0 : ds = []
          · rw [if_pos c0] at p2
            subst c0
            have nx : xs = [] := List.eq_nil_of_length_eq_zero (by simpa using ln.symm)
            subst nx
            exact ⟨b, p0, [], rfl, hb, e2, hp0, Nat.zero_le _, fun _ => Post.now p2 hr r2, fun z => absurd rfl z⟩
          · rw [if_neg c0] at p2
            by_cases cz : xss.flatten.length ≤ sizeLine
            · rw [if_pos cz] at p2
              refine ⟨b, p0, xs, rfl, hb, e2, hp0, by rw [← e3.length]; exact cz, fun z => ?_, fun _ q hq => post_mkL (b := false) p2 hr e3 hq⟩
              subst z
              exact absurd (List.eq_nil_of_length_eq_zero (by simpa using ln)) c0
            · rw [if_neg cz] at p2
              exact p2.elim
end
end Hr
set_option maxHeartbeats 4000000
/-! setdefault and get; calls by names alone. -/
namespace Hr
open PySem PySem.Spec PyProof.Rows L2
section
variable {T : Tb} {m : Gh} {H : Hp} {h : Hv} {d : D} {v : V}
theorem tyD_dict (hr : HR T m H h) (r : RepV T h.length m H d v) (e : tyD h d = some "dict") : ∃ a, v = .ref a ∧ IsD H a := by
  have bad : ∀ s : String, s ≠ "dict" → some s = some "dict" → False := fun s n e => n (Option.some.inj e)
  cases d with
  | dct ks xs =>
    obtain ⟨a, us, rfl, ⟨kk, _, _, q⟩, _⟩ := r
    exact ⟨a, rfl, .inl ⟨_, q⟩⟩
  | ref n =>
    obtain ⟨hn, rfl⟩ := r
    have e : (match h[n]? with | some (.lst _) => some "list" | some (.dct _ _) => some "dict" | _ => none) = some "dict" := e
    split at e
    · exact (bad _ (by decide) e).elim
    · rename_i k x q
      obtain ⟨us, ⟨kk, _, _, a⟩, _⟩ := hr.cell n _ q
      exact ⟨_, rfl, .inl ⟨_, .inl a⟩⟩
    · cases e
  | _ => exact (bad _ (by decide) e).elim
theorem findK_miss {q : L2.Key} : ∀ {kk : List L2.Key} {ds : List D} {us : List V}, kk.length = us.length → ds.length = us.length → findK kk q ds = none → valV (kk.zip us) q = none
  | [], _, _, _, _, _ => rfl
  | k :: kk, [], us, e, f, _ => by simp at e f; omega
  | k :: kk, x :: ds, [], e, f, _ => by simp at e
  | k :: kk, x :: ds, u :: us, e, f, g => by
    have g : ((((k, x) :: kk.zip ds).find? fun p => decide (p.1 = q)).map (·.2)) = none := g
    by_cases c : k = q
    · rw [List.find?_cons_of_pos (by exact decide_eq_true c)] at g
      cases g
    · rw [List.find?_cons_of_neg (by simpa using c)] at g
      show valV ((k, u) :: kk.zip us) q = none
      have := findK_miss (q := q) (by simpa using e) (by simpa using f) g
      unfold valV at this ⊢
      rw [List.find?_cons_of_neg (by simpa using c)]
      exact this
end
section
variable {S : St0} {X : Cx} {sc : Scope} {W : WX}
theorem m2_of {x y z : Expr} {nm : Str} {ap cp : Pos} (hb : attributeBase x nm X.env (eval x X.env) = eval x X.env) (hl : (ap.endLine == cp.line) = true) (ny : ∀ r, starEach (y :: r) X.env = (false, eval y X.env) :: starEach r X.env) (nz : ∀ r, starEach (z :: r) X.env = (false, eval z X.env) :: starEach r X.env) : M2 X x nm ap y z cp where
  base := hb
  few := by rw [ny, nz]; rfl
  line := hl
  trees := by rw [ny, nz]; rfl
theorem s_setd {o a b : Ec} {x y z : Expr} {ap cp : Pos} (ok : OkX X S sc W) (ho : PE X x (TEc S W o)) (ha : PE X y (TEc S W a)) (hb : PE X z (TEc S W b)) (m2 : M2 X x "setdefault" ap y z cp) : PE X (.Call (.Attribute x "setdefault" ap) [y, z] [] cp) (TEc S W (.dmt .setd o a b)) := by
  refine (pe_dsetd ho ha hb m2).impH fun σ H Q ⟨env, h, m, st, p⟩ => ⟨env, h, m, st, p.split fun d h1 m1 H1 v x1 hr r p1 => ?_⟩
  by_cases c : tyD h1 d = some "dict"
  case neg => rw [if_neg c] at p1; exact p1.elim
  rw [if_pos c] at p1
  obtain ⟨ad, rfl, isd⟩ := tyD_dict hr r c
  refine ⟨ad, rfl, isd, env, h1, m1, st.next x1 hr, p1.split fun k h2 m2 H2 u x2 hr2 r2 p2 => ⟨env, h2, m2, (st.next x1 hr).next x2 hr2, p2.split fun w h3 m3 H3 y3 x3 hr3 r3 p3 => ?_⟩⟩
  have rd := RepV.ext (x2.trans x3) _ _ r
  have rk := RepV.ext x3 _ _ r2
  have p3 : Post S.T h3.length m3 H3 (RepV S.T) Q (fun c d H' => W c d σ H') (match cellD h3 d with
    | some (n, ks, vs) => setDc h3 n (setdD ks vs k w)
    | none => .no) := p3
  cases zd : cellD h3 d with
  | none => rw [zd] at p3; exact p3.elim
  | some kd =>
    obtain ⟨n, ks, ds⟩ := kd
    rw [zd] at p3
    obtain ⟨hn, ev, us, ⟨kk, e1, l1, g1⟩, l⟩ := cellD_rep hr3 rd zd
    cases ev
    have p3 : Post S.T h3.length m3 H3 (RepV S.T) Q (fun c d H' => W c d σ H') (setDc h3 n ((keysD ks).bind fun kk => (keyD k).bind fun q => if ks.length < sizeLine then some (match findK kk q ds with
      | some w => (w, none)
      | none => (w, some (ks ++ [k], ds ++ [w]))) else none)) := p3
    rw [e1] at p3
    cases zk : keyD k with
    | none => rw [zk] at p3; exact p3.elim
    | some q =>
      rw [zk] at p3
      have p3 : Post S.T h3.length m3 H3 (RepV S.T) Q (fun c d H' => W c d σ H') (setDc h3 n (if ks.length < sizeLine then some (match findK kk q ds with
        | some w => (w, none)
        | none => (w, some (ks ++ [k], ds ++ [w]))) else none)) := p3
      by_cases cs : ks.length < sizeLine
      case neg => rw [if_neg cs] at p3; exact p3.elim
      rw [if_pos cs] at p3
      have ek := key_rep zk rk
      subst ek
      refine ⟨kk.zip us, q, g1, rfl, by rw [List.length_zip, keys_len e1]; omega, fun v' hv => ?_, fun hv => ?_⟩
      · cases f : findK kk q ds with
        | none => rw [findK_miss l1 l.length f] at hv; cases hv
        | some w' =>
          rw [f] at p3
          obtain ⟨v2, e2, r5⟩ := findK_rep l w' f
          rw [hv] at e2
          cases e2
          exact Post.now p3 hr3 r5
      · cases f : findK kk q ds with
        | some w' =>
          obtain ⟨v2, e2, r5⟩ := findK_rep l w' f
          rw [hv] at e2
          cases e2
        | none =>
          rw [f] at p3
          have dk : DK (upd H3 (m3 n) (.dK (putK (kk.zip us) q y3))) (m3 n) (ks ++ [k]) (us ++ [y3]) := by
            refine ⟨kk ++ [q], keys_append e1 zk, by simp [l1], ?_⟩
            rw [upd_same, List.zip_append l1]
            unfold putK
            rw [if_neg]
            · rfl
            · intro z
              obtain ⟨t, ht, e⟩ := List.any_eq_true.mp z
              unfold valV at hv
              have := List.find?_eq_none.mp (Option.map_eq_none_iff.mp hv) t ht
              exact this e
          have p3 : ∀ m' H' b, Ext h3.length m3 H3 (h3.set n (.dct (ks ++ [k]) (ds ++ [w]))).length m' H' → HR S.T m' H' (h3.set n (.dct (ks ++ [k]) (ds ++ [w]))) → RepV S.T (h3.set n (.dct (ks ++ [k]) (ds ++ [w]))).length m' H' w b → Q b H' := p3
          rw [List.length_set] at p3
          exact p3 m3 _ y3 (ext_write hr3 hn) (hr_writeC hr3 hn ⟨us ++ [y3], dk, RepL.ext (ext_write hr3 hn) _ _ (l.append (.one r3))⟩) (RepV.ext (ext_write hr3 hn) _ _ r3)
theorem s_get2 {o a b : Ec} {x y z : Expr} {ap cp : Pos} (ok : OkX X S sc W) (ho : PE X x (TEc S W o)) (ha : PE X y (TEc S W a)) (hb : PE X z (TEc S W b)) (m2 : M2 X x "get" ap y z cp) : PE X (.Call (.Attribute x "get" ap) [y, z] [] cp) (TEc S W (.dmt .get2 o a b)) := by
  refine (pe_dget2 (by have := units_of ok; omega) ho ha hb m2).impH fun σ H Q ⟨env, h, m, st, p⟩ => ⟨env, h, m, st, p.split fun d h1 m1 H1 v x1 hr r p1 => ?_⟩
  by_cases c : tyD h1 d = some "dict"
  case neg => rw [if_neg c] at p1; exact p1.elim
  rw [if_pos c] at p1
  obtain ⟨ad, rfl, isd⟩ := tyD_dict hr r c
  refine ⟨ad, rfl, isd, env, h1, m1, st.next x1 hr, p1.split fun k h2 m2 H2 u x2 hr2 r2 p2 => ⟨env, h2, m2, (st.next x1 hr).next x2 hr2, p2.split fun w h3 m3 H3 y3 x3 hr3 r3 p3 => ?_⟩⟩
  have rd := RepV.ext (x2.trans x3) _ _ r
  have rk := RepV.ext x3 _ _ r2
  have p3 : Post S.T h3.length m3 H3 (RepV S.T) Q (fun c d H' => W c d σ H') (match dctAt h3 d with
    | some (ks, vs) => okD ((hasD ks k).bind fun b => if b then dGetD ks vs k else some w) h3
    | none => .no) := p3
  cases zd : dctAt h3 d with
  | none => rw [zd] at p3; exact p3.elim
  | some kd =>
    obtain ⟨ks, ds⟩ := kd
    rw [zd] at p3
    obtain ⟨a', us, ev, ⟨kk, e1, l1, g1⟩, l⟩ := dctAt_rep hr3 rd zd
    cases ev
    have p3 : Post S.T h3.length m3 H3 (RepV S.T) Q (fun c d H' => W c d σ H') (okD (((keysD ks).bind fun kk => (keyD k).map fun q => hasK kk q).bind fun b => if b then (keysD ks).bind fun kk => (keyD k).bind fun q => findK kk q ds else some w) h3) := p3
    rw [e1] at p3
    cases zk : keyD k with
    | none => rw [zk] at p3; exact p3.elim
    | some q =>
      rw [zk] at p3
      have p3 : Post S.T h3.length m3 H3 (RepV S.T) Q (fun c d H' => W c d σ H') (okD (if hasK kk q then findK kk q ds else some w) h3) := p3
      have ek := key_rep zk rk
      subst ek
      refine ⟨valV (kk.zip us) q, dget_rd g1, ?_⟩
      have hv := hasK_val (q := q) l1
      by_cases ch : hasK kk q = true
      · rw [if_pos ch] at p3
        rw [ch] at hv
        cases f : findK kk q ds with
        | none => rw [f] at p3; exact p3.elim
        | some w' =>
          rw [f] at p3
          obtain ⟨v2, e2, r5⟩ := findK_rep l w' f
          rw [e2]
          exact Post.now p3 hr3 r5
      · rw [if_neg ch] at p3
        have : valV (kk.zip us) q = none := by
          cases e : valV (kk.zip us) q with
          | none => rfl
          | some t => rw [e] at hv; exact absurd hv.symm ch
        rw [this]
        exact Post.now p3 hr3 r3
/-! ### calls by names -/
theorem s_kw_nil : PK X [] (TAc S W []) := ⟨fun pos pins s σ H Q I ⟨env, h, m, st, p⟩ => pk_nil.run pos pins s σ H Q I (p m H _ .refl st.hr rfl)⟩
theorem s_kw_cons {c : Ec} {cs : List Ec} {e : Expr} {kws : List Keyword} {nm : Option Str} {kp : Pos} (ha : PE X e (TEc S W c)) (hr : PK X kws (TAc S W cs)) : PK X (⟨nm, e, kp⟩ :: kws) (TAc S W (c :: cs)) := by
  refine ⟨fun pos pins s σ H Q I ⟨env, h, m, st, p⟩ => (pk_cons ha hr).run pos pins s σ H Q I ⟨env, h, m, st, p.split fun d h1 m1 H1 v x hr r p1 => ⟨env, h1, m1, st.next x hr, p1.split fun ds h2 m2 H2 vs x2 hr2 r2 p2 => ?_⟩⟩⟩
  exact p2 m2 H2 _ .refl hr2 ⟨v, vs, rfl, RepV.ext x2 _ _ r, r2⟩
theorem kw_of : ∀ {kws : List Keyword} {cs : List Ec}, PEs X S W cs (kws.map (·.value)) → PK X kws (TAc S W cs)
  | [], cs, h => by cases h; exact s_kw_nil
  | ⟨nm, e, kp⟩ :: kws, cs, h => by
    cases h with
    | cons a _ t => exact s_kw_cons a (kw_of t)
theorem kw_names {env : Env} {pos : Pos} : ∀ {kws : List Keyword}, kws.all (·.arg.isSome) = true → (backToKw pos (keywordEach kws env)).all (·.1.isSome) = true ∧ (backToKw pos (keywordEach kws env)).filterMap (·.1) = kws.filterMap (·.arg) ∧ (backToKw pos (keywordEach kws env)).any (·.1.isNone) = false
  | [], _ => ⟨rfl, rfl, rfl⟩
  | ⟨some nm, e, kp⟩ :: kws, h => by
    obtain ⟨a, b, c⟩ := kw_names (env := env) (pos := pos) (kws := kws) h
    exact ⟨a, congrArg (nm :: ·) b, c⟩
  | ⟨none, e, kp⟩ :: kws, h => by cases h
theorem perm_len {α : Type} {ds us : List α} : ∀ {pm : List Nat} {us : List α}, permD ds pm = some us → us.length = pm.length
  | [], us, e => by cases e; rfl
  | i :: r, us, e => by
    have e : (ds[i]?).bind (fun d => (permD ds r).map (d :: ·)) = some us := e
    cases z : ds[i]? with
    | none => rw [z] at e; cases e
    | some d =>
      rw [z] at e
      cases y : permD ds r with
      | none => rw [y] at e; cases e
      | some t =>
        rw [y] at e
        cases e
        rw [List.length_cons, List.length_cons, perm_len (us := us) y]
theorem perm_rep {T : Tb} {N : Nat} {m : Gh} {H : Hp} {ds : List D} {vs : List V} {us : List Value} (r : RepL T N m H ds vs) (rv : Vals vs us) : ∀ {pm : List Nat} {ds' : List D}, permD ds pm = some ds' → ∃ vs' us', permD us pm = some us' ∧ RepL T N m H ds' vs' ∧ Vals vs' us'
  | [], ds', e => by cases e; exact ⟨[], [], rfl, rfl, .nil⟩
  | i :: q, ds', e => by
    have e : (ds[i]?).bind (fun d => (permD ds q).map (d :: ·)) = some ds' := e
    cases z : ds[i]? with
    | none => rw [z] at e; cases e
    | some d =>
      rw [z] at e
      cases y : permD ds q with
      | none => rw [y] at e; cases e
      | some t =>
        rw [y] at e
        cases e
        obtain ⟨vs', us', e1, r1, v1⟩ := perm_rep r rv y
        obtain ⟨v, ev, rd⟩ := r.get z
        obtain ⟨u, eu, ru⟩ := rv.get ev
        refine ⟨v :: vs', u :: us', ?_, ⟨v, vs', rfl, rd, r1⟩, .cons ru v1⟩
        show (us[i]?).bind (fun d => (permD us q).map (d :: ·)) = _
        rw [eu, e1]
        rfl
theorem s_callK {i : Nat} {raw : Bool} {pm : List Nat} {cs : List Ec} {kws : List Keyword} {p pos : Pos} {fc : Fc} (ok : OkX X S sc W) (hh : S.hot = none) (hf : S.F[i]? = some fc) (hcl : fc.cls = none) (hp : pm.length = fc.np) (hg : Gl X fc.name) (hdb : (fc.name == ("__debug__" : Str)) = false) (hall : kws.all (·.arg.isSome) = true)
    (hk : S.ct.kw.contains (i, kws.filterMap (·.arg), pm) = true) (ha : PEs X S W cs (kws.map (·.value))) : PE X (.Call (.Name fc.name p) [] kws pos) (TEc S W (.callK i raw pm cs)) := by
  obtain ⟨f, fd, ps, hat, hl, hF, _, hkw⟩ := ok.fns hh i fc hf
  obtain ⟨hmg, hkp⟩ : X.mg fc.name = some (.ref f) ∧ PySem.W.keepIn X.K (.ref f) = true := by
    unfold AtF at hat
    rw [hcl] at hat
    exact hat
  have kb := hkw _ pm hk
  obtain ⟨n1, n2, n3⟩ := kw_names (env := X.env) (pos := pos) hall
  have room : Room (2 * S.k + 1) X.A := (ok.room hh).mono (by omega)
  refine ⟨fun pins s σ H Q I ⟨env, h, m, st, p1⟩ => wpAny_Call_Name_kw (ld_glob I hg hmg (PySem.W.callWith_KW0 (h₀ := X.base) I.ok.mod.kin hkp n1 ?_ (by rw [n3]; rfl)) hdb)⟩
  have tq : TAc S W cs σ H (fun vs H1 => ∃ h1 m1 ds, HR S.T m1 H1 h1 ∧ RepL S.T h1.length m1 H1 ds vs ∧ ds.length = cs.length ∧ Post S.T h1.length m1 H1 (RepV S.T) Q (fun c d H' => W c d σ H') (match permD ds pm with
    | some ds => S.C.call i raw ds h1
    | none => .no)) := ⟨env, h, m, st, (show Post S.T h.length m H (RepV S.T) Q (fun c d H' => W c d σ H') ((evs S.C cs env h).bind fun ds h => match permD ds pm with
      | some ds => S.C.call i raw ds h
      | none => .no) from p1).splitE fun ds h1 m1 H1 vs ee x hr r p2 => ⟨h1, m1, ds, hr, r, evs_length ee, p2⟩⟩
  refine thn ((kw_of ha).run pos pins s σ H _ I tq) fun ws s2 ⟨vs, H1, I1, rv, h1, m1, ds, hr, r, el, p2⟩ => ⟨I1.kIn, ?_⟩
  rw [n2]
  cases e : permD ds pm with
  | none => rw [e] at p2; exact p2.elim
  | some ds' =>
    rw [e] at p2
    obtain ⟨vs', us', e1, r1, v1⟩ := perm_rep r rv e
    have hsp : spF S i raw vs' H1 Q (fun c d H' => W c d σ H') := ⟨h1, m1, ds', fc, hf, by rw [perm_len (us := ds') e, hp], hr, r1, p2⟩
    have ln : ∀ {l : List Keyword}, l.all (·.arg.isSome) = true → (l.filterMap (·.arg)).length = l.length := fun {l} => by
      induction l with
      | nil => intro _; rfl
      | cons a l ih =>
        intro h
        rw [List.all_cons, Bool.and_eq_true] at h
        obtain ⟨b, hb⟩ := Option.isSome_iff_exists.mp h.1
        rw [List.filterMap_cons_some hb, List.length_cons, List.length_cons, ih h.2]
    have pl : ∀ {cs : List Ec} {es : List Expr}, PEs X S W cs es → cs.length = es.length := fun {cs es} z => by
      induction z with
      | nil => rfl
      | cons _ _ _ ih => rw [List.length_cons, List.length_cons, ih]
    have lw : ws.length = (kws.filterMap (·.arg)).length := by
      rw [ln hall, ← rv.length, ← r.length, el, pl ha, List.length_map]
    refine wpAny_call (codeAny_mono ((hF raw).run X.A X.stack s2 H1 ⟨[] ++ [], (kws.filterMap (fun x : Keyword => x.arg)).zip ws⟩ us' vs' Q (fun c d H' => W c d σ H') room ok.gd I1.env0 (kb s2 ws us' I1.kIn lw e1) v1 hsp) fun res s' q => ?_)
    match res, q with
    | .error e, q => exact ok.pass σ pins H1 s2 e s' I1 q
    | .ok (.ret u), q => exact I1.after q
end
end Hr
namespace Hr
open PySem PySem.Spec PyProof.Rows L2
section
variable {S : St0} {X : Cx} {sc : Scope} {W : WX}
theorem twoB_of (ok : OkX X S sc W) {x y : PySem.Str} {a b : String} (h : twoB S sc x y a b = true) : (x = PySem.Str.ofString a ∧ Gl X x ∧ X.mg x = none) ∧ y = PySem.Str.ofString b ∧ Gl X y ∧ X.mg y = none := by
  have h : (fromB S sc x (PySem.Str.ofString a) && fromB S sc y (PySem.Str.ofString b)) = true := h
  rw [Bool.and_eq_true] at h
  exact ⟨fromB_of ok h.1, fromB_of ok h.2⟩
theorem s_dclr {mm : Bool} {c : Ec} {x : Expr} {ap cp : Pos} (ho : PE X x (TEc S W c)) (hb : mtB ap cp x = true) : PE X (.Call (.Attribute x "clear" ap) [] [] cp) (TEc S W (.opn mm .dclr [c])) := by
  unfold mtB at hb
  rw [Bool.and_eq_true] at hb
  have base : attributeBase x "clear" X.env (eval x X.env) = eval x X.env := by
    have h := hb.2
    unfold attributeBase
    split
    · exact absurd h Bool.false_ne_true
    · rfl
  refine (pe_dclear ho base hb.1).impH fun σ H Q z => ?_
  obtain ⟨env, h, m, st, p⟩ := opn1 z
  refine ⟨env, h, m, st, p.mono fun v H1 ⟨h1, m1, d, Wx, hr, r, p1⟩ => ?_⟩
  have p1 : Post S.T h1.length m1 H1 (RepV S.T) Q Wx (match cellD h1 d with
    | some (n, _, _) => .ok .non (h1.set n (.dct [] []))
    | none => .no) := by cases d <;> exact p1
  cases zd : cellD h1 d with
  | none => rw [zd] at p1; exact p1.elim
  | some kd =>
    obtain ⟨n, ks, ds⟩ := kd
    rw [zd] at p1
    obtain ⟨hn, ev, us, ⟨kk, e1, l1, g1⟩, l⟩ := cellD_rep hr r zd
    cases ev
    refine ⟨.inr (.inr (.inl ⟨rfl, .inl ⟨_, g1⟩⟩)), _, _, rfl, rfl, g1, ?_⟩
    have p1 : ∀ m' H' b, Ext h1.length m1 H1 (h1.set n (.dct [] [])).length m' H' → HR S.T m' H' (h1.set n (.dct [] [])) → RepV S.T (h1.set n (.dct [] [])).length m' H' .non b → Q b H' := p1
    rw [List.length_set] at p1
    exact p1 m1 _ .non (ext_write hr hn) (hr_writeC hr hn ⟨[], ⟨[], rfl, rfl, upd_same⟩, rfl⟩) rfl
theorem s_opn {mm : Bool} {o : Op} {cs : List Ec} {e : Expr} {xs : List Expr} (ok : OkX X S sc W) (hh : S.hot = none) (hb : opB S.toCk sc o e = some xs) (ps : PEs X S W cs xs) :
    PE X e (TEc S W (.opn mm o cs)) ∧ (∀ whole, isTrue e X.env whole = (do let v ← whole; standAt e.pos; holding [v] (truthy v))) ∧ (∀ b vs q, e ≠ .BoolOp b vs q) := by
  cases e with
  | Call fn args kws cp =>
    refine ⟨?_, fun _ => rfl, fun _ _ _ z => Expr.noConfusion z⟩
    cases kws with
    | cons _ _ => cases hb
    | nil =>
      cases fn with
      | Name x p =>
        have hb : opName S.toCk sc o x args = some xs := hb
        unfold opName at hb
        split at hb
        · split at hb
          · rename_i y p2 a q c
            obtain ⟨⟨rfl, g1, m1⟩, rfl, g2, m2⟩ := twoB_of ok c
            cases hb
            cases ps with
            | cons a1 n1 t => cases t; exact s_lrng ok hh g1 m1 g2 m2 a1 n1
          · cases hb
        · split at hb
          · rename_i y p2 a q c
            obtain ⟨⟨rfl, g1, m1⟩, rfl, g2, m2⟩ := twoB_of ok c
            cases hb
            cases ps with
            | cons a1 n1 t => cases t; exact s_trng ok hh g1 m1 g2 m2 a1 n1
          · cases hb
        · split at hb
          · rename_i y p2 a q c
            obtain ⟨⟨rfl, g1, m1⟩, rfl, g2, m2⟩ := twoB_of ok c
            cases hb
            cases ps with
            | cons a1 n1 t => cases t; exact s_lenset ok hh g1 m1 g2 m2 a1 n1
          · cases hb
        · split at hb
          · rename_i a c
            obtain ⟨rfl, g1, m1⟩ := fromB_of ok c
            cases hb
            cases ps with
            | cons a1 n1 t => cases t; exact s_keysL ok hh g1 m1 a1 n1
          · cases hb
        · split at hb
          · rename_i a c
            obtain ⟨rfl, g1, m1⟩ := fromB_of ok c
            cases hb
            cases ps with
            | cons a1 n1 t => cases t; exact s_sortd ok g1 m1 a1 n1
          · cases hb
        · split at hb
          · rename_i a b c
            obtain ⟨rfl, g1, m1⟩ := fromB_of ok c
            cases hb
            cases ps with
            | cons a1 n1 t => cases t with
              | cons a2 n2 t => cases t; exact s_suml ok hh g1 m1 a1 n1 a2 n2
          · cases hb
        · cases hb
      | Attribute x nm ap =>
        have hb : (if (decide (o = .dclr) && decide (nm = "clear") && args.isEmpty && mtB ap cp x) = true then some [x] else none) = some xs := hb
        by_cases c : (decide (o = .dclr) && decide (nm = "clear") && args.isEmpty && mtB ap cp x) = true
        · rw [if_pos c] at hb
          cases hb
          simp only [Bool.and_eq_true, decide_eq_true_eq, List.isEmpty_iff] at c
          obtain ⟨⟨⟨rfl, rfl⟩, rfl⟩, c⟩ := c
          cases ps with
          | cons a1 n1 t => cases t; exact s_dclr a1 c
        · rw [if_neg c] at hb
          cases hb
      | _ => cases hb
  | Dict ks vs q =>
    refine ⟨?_, fun _ => rfl, fun _ _ _ z => Expr.noConfusion z⟩
    have hb : opDict o ks vs = some xs := hb
    cases o with
    | disp n =>
      have hb : (if decide (ks.length = n) then dispB ks vs else none) = some xs := hb
      by_cases c : ks.length = n
      case neg => rw [decide_eq_false c] at hb; cases hb
      rw [decide_eq_true c] at hb
      by_cases c2 : 0 < n ∧ n ≤ 15
      · exact s_disp (xi_of ok hh) c hb ps c2.1 c2.2
      · refine ⟨fun pins s σ H Q I ⟨env, h, m, st, p⟩ => ?_⟩
        obtain ⟨ds, hf, e, p⟩ := quiet_bind (show Post S.T h.length m H (RepV S.T) Q (fun c d H' => W c d σ H') ((evs S.C cs env h).quiet.bind fun ds h => opD mm (.disp n) ds h) from p)
        have p : Post S.T h.length m H (RepV S.T) Q (fun c d H' => W c d σ H') (if ds.length = n + n ∧ 0 < n ∧ n ≤ 15 then mkDo mm hf (pairsD ds) else .no) := p
        rw [if_neg (fun z => c2 z.2)] at p
        exact p.elim
    | _ => cases hb
  | _ => cases hb
end
end Hr
set_option maxHeartbeats 4000000
/-! A clause of a comprehension, whatever is done in its turns: one lemma for all; a dict comprehension of two clauses without tests. -/
namespace Hr
open PySem PySem.Spec PyProof.Rows L2
/-- one turn of a clause without tests: act is what is done with the item, and then the next turn -/
def clauseT (tg : Expr) (p : Pos) (it : Value) (env : Env) (act : Sem PySem.Fin) : Sem PySem.Fin := do
  standAt p
  match ← pyNext it with
  | none => pure (.done .next)
  | some v =>
    letOwnedTupleGo tg it v
    assign tg env v
    act
section
variable {prog : Program} {w : World} {A : Around} {s : Shared}
def NoE : Value → Shared → Prop := fun _ _ => False
/-- what is wanted of a turn behind next -/
def TurnW (prog : Program) (w : World) (A : Around) (tg : Expr) (it : Value) (env : Env) (act : Sem PySem.Fin) (c : Code) (R : Result → Shared → Prop) (G : Shared → Prop) (r : Option Value) (s : Shared) : Prop := match r with
  | none => R (.ok .next) s
  | some v => wpAny (model prog w) A (letOwnedTupleGo tg it v) (fun _ a => wpAny (model prog w) A (assign tg env v) (fun _ b => wpAny (model prog w) A act (fun f d => f = .again c ∧ G d) NoE b) NoE a) NoE s
theorem clause_loop {kx vx : Expr} {gs : List Comprehension} {scope : Scope} {pos : Pos} {k : Nat} {it acc : Value} {env : Env} {tg : Expr} {p : Pos} {act : Sem PySem.Fin} {R : Result → Shared → Prop} (ht : compTurn (.DictComp kx vx gs scope pos) k it acc env = clauseT tg p it env act)
    (I : Nat → Shared → Prop) (turn : ∀ n s, I n s → wpAny (model prog w) A (pyNext it) (fun r a => TurnW prog w A tg it env act (.compLoop (.DictComp kx vx gs scope pos) k it acc env) R (fun c => ∃ m, m < n ∧ I m c) r a) NoE s) (n : Nat) (i0 : I n s) : codeAny (model prog w) A (.compLoop (.DictComp kx vx gs scope pos) k it acc env) R s := by
  refine codeAny_loop rfl I (fun n s hs => ?_) n i0
  show wpAny _ A ((compTurn (.DictComp kx vx gs scope pos) k it acc env).onRaise fun x => do noteFrame x env; theTreesLotGoes x) _ _ s
  refine wpAny_noted ?_
  rw [ht]
  refine wpAny_bind (wpAny_standAt (wpAny_bind (thnF (turn n s hs) fun r a ha => ?_)))
  cases r with
  | none => exact wpAny_pure ha
  | some v =>
    refine wpAny_bind (thnF (show wpAny _ _ _ _ NoE a from ha) fun _ b hb => wpAny_bind (thnF hb fun _ c hc => thnF hc fun f d hd => ?_))
    obtain ⟨rfl, hd⟩ := hd
    exact ⟨rfl, hd⟩
end
section
variable {Y : Cx} {pins : List (Addr × Obj)} {fp : List Addr} {tn : Nat → Heap → Prop} {it : Addr} {J : It} {tg : Expr} {g : TG}
/-- the slots that were known still stand -/
def Knows (σ τ : L2.St) : Prop := σ.length = τ.length ∧ ∀ (j : Nat) (v : V), σ[j]? = some (some v) → τ[j]? = some (some v)
/-- a clause walked to its end -/
theorem clause_walk {kx vx : Expr} {gs : List Comprehension} {scope : Scope} {pos : Pos} {k : Nat} {acc : Value} {p : Pos} {act : Sem PySem.Fin} {R : Result → Shared → Prop} {σ : L2.St} {Done : Hp → Prop} {B : L2.St → Hp → (Hp → Prop) → Prop} (T : Turn Y.prog Y.w Y.K tg J fp it tn) (hc : Y.calm = true) (pg : PG Y tg g) (hx : Y.xe = fun _ _ => False)
    (ht : compTurn (.DictComp kx vx gs scope pos) k (.ref it) acc Y.env = clauseT tg p (.ref it) Y.env act)
    (stat : ∀ H', (∀ b ∈ fp, H' b = none) → ∀ b ∈ fp, FpOk Y pins H' b) (W : Nat → Nat → Hp → Prop)
    (turn : ∀ i n H, W i n H → (J.stop i H ∧ Done H) ∨ (J.go i H ∧ ∃ Nx : Hp → Prop, (∀ H', Nx H' → ∃ m, m < n ∧ W (i + 1) m H') ∧ ∀ x H', J.yld i H x H' → g x σ H' fun τ H2 => Knows σ τ ∧ B τ H2 Nx))
    (hact : ∀ (pn : List (Addr × Obj)) (τ : L2.St) (H2 : Hp) (t : Shared) (Nx : Hp → Prop), Inv Y pn τ H2 t → Knows σ τ → B τ H2 Nx → wpAny (model Y.prog Y.w) Y.A act (fun f t' => f = .again (.compLoop (.DictComp kx vx gs scope pos) k (.ref it) acc Y.env) ∧ ∃ τ' H', Inv Y pn τ' H' t' ∧ Knows σ τ' ∧ Nx H') NoE t)
    (fin : ∀ (i : Nat) (H : Hp) (t : Shared), Inv Y pins σ H t → Done H → R (.ok .next) t) {H0 : Hp} {s : Shared} {n0 : Nat} (I0 : Inv Y pins σ H0 s) (t0 : tn 0 s.heap) (f0 : ∀ b ∈ fp, H0 b = none) (w0 : W 0 n0 H0) :
    codeAny (model Y.prog Y.w) Y.A (.compLoop (.DictComp kx vx gs scope pos) k (.ref it) acc Y.env) R s := by
  refine clause_loop ht (fun n t => ∃ i H, Inv Y pins σ H t ∧ tn i t.heap ∧ (∀ b ∈ fp, H b = none) ∧ W i n H) ?_ n0 ⟨0, H0, I0, t0, f0, w0⟩
  rintro n t ⟨i, H, I, ti, nf, wi⟩
  rcases turn i n H wi with ⟨stop, ff⟩ | ⟨go, Nx, next, step⟩
  · refine thnF (T.done Y rfl rfl rfl hc i pins t σ H _ I (stat H nf) ti stop) fun r t1 ⟨hr, I1⟩ => ?_
    subst hr
    exact fin i H t1 I1 ff
  · refine thnF (T.item Y rfl rfl rfl hc i pins t σ H _ I (stat H nf) ti go) fun r t1 ⟨u, hr, h1⟩ => ?_
    subst hr
    refine thnF h1 fun _ t2 ⟨x, G, J2, rx, y, tn2, nf2⟩ => ?_
    have J3 := J2.pinned (stat G nf2) (T.obj _ _ tn2)
    have pr := pg.run _ t2 σ G x u _ J3 rx (step x G y)
    rw [hx] at pr
    refine thnF pr fun _ t3 ⟨τ, H2, I3, kn, b3⟩ => ?_
    refine thnF (hact _ τ H2 t3 Nx I3 kn b3) fun f t4 ⟨hf, τ', H4, I4, kn4, nx⟩ => ?_
    refine ⟨hf, ?_⟩
    obtain ⟨m, hm, w4⟩ := next H4 nx
    have pin : ∀ b ∈ fp, ∀ o, t2.heap.get? b = some o → t4.heap.get? b = some o ∧ H4 b = none := fun b hb o eo => by
      have z := I4.pin (b, o) (List.mem_append_right _ (List.mem_append_right _ (mem_pinsAt hb eo)))
      exact ⟨z.1, z.2.1⟩
    refine ⟨m, hm, i + 1, H4, I4.unpinned.weak kn4.1 kn4.2, T.keep _ _ _ tn2 fun b hb o eo => (pin b hb o eo).1, fun b hb => ?_, w4⟩
    obtain ⟨o, eo, _⟩ := T.obj _ _ tn2 b hb
    exact (pin b hb o eo).2
end
/-! ### {k: v for t0 in i0 for t1 in i1} -/
section
variable {kx vx t0 i0 t1 i1 : Expr} {scope : Scope} {pos : Pos}
abbrev dcx (kx vx t0 i0 t1 i1 : Expr) (scope : Scope) (pos : Pos) : Expr := .DictComp kx vx [⟨t0, i0, [], 0⟩, ⟨t1, i1, [], 0⟩] scope pos
def actIn (kx vx t0 i0 t1 i1 : Expr) (scope : Scope) (pos : Pos) (it : Value) (D : Addr) (env : Env) : Sem PySem.Fin := do
  (do
    let k ← eval kx env
    let x ← holding [k] (eval vx env)
    standAt { kx.pos with endLine := vx.pos.endLine, endCol := vx.pos.endCol }
    holding [k, x] (dictSet D k x))
  again (.compLoop (dcx kx vx t0 i0 t1 i1 scope pos) 1 it (.ref D) env)
def actOut (kx vx t0 i0 t1 i1 : Expr) (scope : Scope) (pos : Pos) (it : Value) (D : Addr) (env : Env) : Sem PySem.Fin := do
  let x ← eval i1 env
  standAt i1.pos
  let x ← foldedSetIterable i1 env x
  let _ ← runOwn (.compStart (dcx kx vx t0 i0 t1 i1 scope pos) 1 (← holding [x] (pyIter x)) (.ref D) env) env
  again (.compLoop (dcx kx vx t0 i0 t1 i1 scope pos) 0 it (.ref D) env)
theorem turn_in {it : Value} {D : Addr} {env : Env} : compTurn (dcx kx vx t0 i0 t1 i1 scope pos) 1 it (.ref D) env = clauseT t1 i1.pos it env (actIn kx vx t0 i0 t1 i1 scope pos it D env) := by rfl
theorem turn_out {it : Value} {D : Addr} {env : Env} : compTurn (dcx kx vx t0 i0 t1 i1 scope pos) 0 it (.ref D) env = clauseT t0 i0.pos it env (actOut kx vx t0 i0 t1 i1 scope pos it D env) := by rfl
variable {prog : Program} {w : World} {A : Around} {s : Shared}
theorem start_in {it acc : Value} {env : Env} {R : Result → Shared → Prop} (h0 : codeAny (model prog w) A (.compLoop (dcx kx vx t0 i0 t1 i1 scope pos) 1 it acc env) R s)
    (h1 : wpAny (model prog w) A (pyIter it) (fun jt t => codeAny (model prog w) A (.compLoop (dcx kx vx t0 i0 t1 i1 scope pos) 1 jt acc env) R t) NoE s) : codeAny (model prog w) A (.compStart (dcx kx vx t0 i0 t1 i1 scope pos) 1 it acc env) R s := by
  refine codeAny_of_tree ?_
  change wpAny (model prog w) A ((compStart (dcx kx vx t0 i0 t1 i1 scope pos) 1 it acc env).onRaise fun x => do noteFrame x env; standAt theWindowsPlace) _ _ s
  refine wpAny_notedAt ?_
  unfold compStart
  change wpAny _ _ (ask >>= _) _ _ s
  refine wpAny_bind (wpAny_askSetting (wpAny_ite ?_))
  split
  · first
      | exact wpAny_pure (And.intro rfl h0)
      | exact wpAny_bind (wpAny_pure (wpAny_pure (And.intro rfl h0)))
  · refine wpAny_bind (wpAny_rule ?_)
    first
      | exact wpAny_bind (wpAny_standAt (wpAny_bind (thnF h1 fun jt t ht => wpAny_pure (And.intro rfl ht))))
      | (change wpAny _ _ (standAt i1.pos >>= _) _ _ s; exact wpAny_bind (wpAny_standAt (wpAny_bind (thnF h1 fun jt t ht => wpAny_pure (And.intro rfl ht)))))
end
section
variable {X : Cx} {kx vx t0 i0 t1 i1 : Expr} {scope : Scope} {pos : Pos} {own : List (Str × Nat)} {vs1 : List Nat} {wi wi1 : TI} {g g1 : TG} {tk tv : TE}
/-- behind the first clause's store: the second's walk -/
def Inner (wi1 : TI) (g1 : TG) (tk tv : TE) (vs1 : List Nat) (D : Addr) (τ : L2.St) (H2 : Hp) (Nx : Hp → Prop) : Prop := wi1 τ H2 fun J1 H4 => ∃ W1 : Nat → Nat → Hp → Prop, (∃ m, W1 0 m H4) ∧ ∀ j k H, W1 j k H →
  (J1.stop j H ∧ Nx H) ∨ (J1.go j H ∧ ∃ Nx1 : Hp → Prop, (∀ H', Nx1 H' → ∃ m, m < k ∧ W1 (j + 1) m H') ∧ ∀ x H', J1.yld j H x H' → g1 x (wipe τ vs1) H' fun ρ H5 => Knows (wipe τ vs1) ρ ∧
    tk ρ H5 fun y H6 => tv ρ H6 fun z H7 => ∃ (kvs : List (L2.Key × V)) (q : L2.Key), y = kV q ∧ H7 D = some (.dK kvs) ∧ kvs.length < sizeLine ∧ Nx1 (upd H7 D (.dK (putK kvs q z))))
def tDc2 (wi : TI) (g : TG) (wi1 : TI) (g1 : TG) (tk tv : TE) (vs vs1 : List Nat) : TE := fun σ H Q => wi σ H fun J H1 => ∀ D, H1 D = none → ∃ W : Nat → Nat → Hp → Prop, (∃ m, W 0 m (upd H1 D (.dK []))) ∧ ∀ i n H, W i n H →
  (J.stop i H ∧ Q (.ref D) H) ∨ (J.go i H ∧ ∃ Nx : Hp → Prop, (∀ H', Nx H' → ∃ m, m < n ∧ W (i + 1) m H') ∧ ∀ x H', J.yld i H x H' → g x (wipe σ vs) H' fun τ H2 => Knows (wipe σ vs) τ ∧ Inner wi1 g1 tk tv vs1 D τ H2 Nx)
abbrev BlkC (X : Cx) (scope : Scope) (s : Shared) (H : Hp) (C : Addr) (cl : List (Str × Addr)) (fp : List Addr) : Cx := X.blk s H scope (compEnvC scope cl C X.env) fp
theorem pe_dc2 (hc : X.calm = true) (hN : X.N.Nodup) (hi : PI X t0 i0 wi) (ok : BlkOk X.N X.env.scope scope own) (hv1 : ∀ i ∈ vs1, i ∈ own.map (·.2))
    (hg : ∀ s H C cl fp, PG (BlkC X scope s H C cl fp) t0 g) (hi1 : ∀ s H C cl fp, PI (BlkC X scope s H C cl fp) t1 i1 wi1) (hg1 : ∀ s H C cl fp, PG (BlkC X scope s H C cl fp) t1 g1) (hk : ∀ s H C cl fp, PE (BlkC X scope s H C cl fp) kx tk) (hv : ∀ s H C cl fp, PE (BlkC X scope s H C cl fp) vx tv)
    (hs : ∀ x, foldedSetIterable i0 X.env x = pure x) (hs1 : ∀ env x, foldedSetIterable i1 env x = pure x) : PE X (dcx kx vx t0 i0 t1 i1 scope pos) (tDc2 wi g wi1 g1 tk tv (own.map (·.2)) vs1) := by
  refine ⟨fun pins s σ H Q I h => ?_⟩
  rw [arm_eval_DictComp]
  have cl : ∀ y ∈ scope.names, y.2 = .free → ∃ c, X.env.cells.lookup y.1 = some c := fun y hy e => (ok.free y hy e).elim (fun z => I.ok.has _ (.inl z)) fun z => I.ok.has _ (.inr z)
  refine wpAny_comprehension_free (use := none) rfl hs (closure_ok cl) ok.kind (fun y hy e => by rw [ok.uniq y hy, e]) (thn (hi.run pins s σ H _ I h) fun xv sa ha => thn ha fun iv sb hb => ?_)
  obtain ⟨it, fp, tn, J, Ha, eit, Ia, T, ta, fa, q⟩ := hb
  subst eit
  refine wpAny_newObj_type (newEnv_comp ?_)
  obtain ⟨W, ⟨m0, w0⟩, turn⟩ := q sb.heap.objs.size (Ia.hok.fresh (Nat.le_refl _))
  have hdk := dk_empty (P := X.prog) (w := X.w) (H := upd Ha sb.heap.objs.size (.dK [])) sb.heap Ia.big
  have Ic := Ia.laid (a := sb.heap.objs.size) (o := .dK []) (h' := sb.heap.push { cls := .type "dict", data := .dict #[] }) (t' := sb.toks) (fun b o e => Heap.get?_push_of_some _ e) (Nat.le_refl _) hdk
  have lt : ∀ b ∈ fp, b < sb.heap.objs.size := fun b hb => by
    obtain ⟨o, e, _⟩ := T.obj _ _ ta b hb
    exact Heap.lt_size e
  generalize eD : sb.heap.objs.size = D at *
  generalize eh : sb.heap.push { cls := .type "dict", data := .dict #[] } = hp at *
  have fc : ∀ b ∈ fp, FpOk X pins (upd Ha D (.dK [])) b ∧ b < hp.objs.size := fun b hb => by
    have l := lt b hb
    refine ⟨⟨?_, (fa b hb).2⟩, by rw [← eh, Heap.size_push, eD]; exact Nat.lt_succ_of_lt l⟩
    rw [upd_ne (Nat.ne_of_lt l)]
    exact (fa b hb).1
  have keep : ∀ b o, sb.heap.get? b = some o → hp.get? b = some o := fun b o e => by rw [← eh]; exact Heap.get?_push_of_some _ e
  generalize eH : upd Ha D (.dK []) = G at *
  have Id := block_start Ic ok hN fc
  let ce := compEnvC scope (cellsFrom (hp.objs.size + 1) scope.names (cloFrom X.env.cells scope.names [])) hp.objs.size X.env
  let sc : Shared := { sb with heap := hp }
  let Y : Cx := X.blk sc G scope ce fp
  let sd : Shared := { sb with heap := pushCells (hp.push { cls := .type "dict", data := .dict #[] }) scope.names }
  have Id : Inv Y [] (wipe σ (own.map (·.2))) G sd := Id
  have td : tn 0 sd.heap := T.keep _ _ _ ta fun b _ o e => pushCells_keeps _ _ _ _ (Heap.get?_push_of_some _ (keep b o e))
  have stat : ∀ (pn : List (Addr × Obj)) (σ' : L2.St) (H' : Hp) (t : Shared), Inv Y pn σ' H' t → ∀ H'' : Hp, (∀ b ∈ fp, H'' b = none) → ∀ b ∈ fp, FpOk Y [] H'' b := fun pn σ' H' t J H'' hn b hb =>
    ⟨hn b hb, (J.ok.exf b hb).1, J.ok.exfs b hb, .inl hb, fun x c e => (J.ok.exf b hb).2 x c e, fun p hp => nomatch hp⟩
  have key : codeAny (model X.prog X.w) X.A (.compLoop (dcx kx vx t0 i0 t1 i1 scope pos) 0 (.ref it) (.ref D) ce) (compPost (model X.prog X.w) X.A X.xe none (fun u t => EP X pins σ Q u t) (.ref D) hp.objs.size) sd := by
    refine clause_walk (Y := Y) (pins := []) (B := fun τ H2 Nx => Inner wi1 g1 tk tv vs1 D τ H2 Nx) T hc (hg sc G _ _ fp) rfl turn_out (stat _ _ _ _ Id) W turn ?_ ?_ Id td (fun b hb => (fc b hb).1.1) w0
    · intro pn τ H2 t Nx It kn inn
      refine wpAny_bind (thnF ((hi1 sc G _ _ fp).run pn t τ H2 _ It inn) fun xv ua h1 => wpAny_bind (wpAny_standAt (wpAny_bind (wpAny_of_eq (hs1 _ xv) (wpAny_bind (wpAny_holding (thnF h1 fun iv ub h2 => ?_)))))))
      obtain ⟨it1, fp1, tn1, J1, H4, e1, I4, T1, tb, f4, W1, ⟨m1, w1⟩, turn1⟩ := h2
      subst e1
      have knw : Knows (wipe σ (own.map (·.2))) (wipe τ vs1) := ⟨kn.1.trans (wipe_length _ _).symm, fun j v e => by
        have a := kn.2 j v e
        rw [wipe_out fun z => (wipe_some e).2 (hv1 j z)]
        exact a⟩
      have I5 : Inv Y pn (wipe τ vs1) H4 ub := I4.weak (wipe_length _ _) fun j v e => (wipe_some e).1
      have stat1 : ∀ H'' : Hp, (∀ b ∈ fp1, H'' b = none) → ∀ b ∈ fp1, FpOk Y pn H'' b := fun H'' hn b hb => ⟨hn b hb, (f4 b hb).2⟩
      let R1 : Result → Shared → Prop := fun r t' => match r with
        | .ok _ => ∃ H', Inv Y pn (wipe τ vs1) H' t' ∧ Nx H'
        | .error _ => False
      have key1 : codeAny (model X.prog X.w) X.A (.compLoop (dcx kx vx t0 i0 t1 i1 scope pos) 1 (.ref it1) (.ref D) ce) R1 ub := by
        refine clause_walk (Y := Y) (pins := pn) (Done := Nx) (B := fun ρ H5 Nx1 => tk ρ H5 fun y H6 => tv ρ H6 fun z H7 => ∃ (kvs : List (L2.Key × V)) (q : L2.Key), y = kV q ∧ H7 D = some (.dK kvs) ∧ kvs.length < sizeLine ∧ Nx1 (upd H7 D (.dK (putK kvs q z)))) T1 hc (hg1 sc G _ _ fp) rfl turn_in stat1 W1 turn1 ?_ (fun i H' t' I' nx => ⟨H', I', nx⟩) I5 tb (fun b hb => (f4 b hb).1) w1
        intro pn2 ρ H5 t5 Nx1 I5' kn5 b5
        refine wpAny_bind (wpAny_bind (thnF ((hk sc G _ _ fp).run pn2 t5 ρ H5 _ I5' b5) fun kv t6 ⟨y, H6, I6, r6, b6⟩ => wpAny_bind (wpAny_holding (thnF ((hv sc G _ _ fp).run pn2 t6 ρ H6 _ I6 b6) fun vv t7 ⟨z, H7, I7, r7, kvs, q, ey, hD, hl, nx⟩ => wpAny_bind (wpAny_standAt (wpAny_holding ?_))))))
        subst ey
        exact d_dictSet (X := Y) I7 hD hl r6 r7 fun t8 I8 => wpAny_pure ⟨rfl, ρ, _, I8, kn5, nx⟩
      refine wpAny_bind (wpAny_runOwn ?_)
      rw [Around.mark_none]
      refine codeAny_mono (start_in key1 (T1.self X.A 0 _ _ _ tb key1)) fun r t' hr => ?_
      cases r with
      | ok f =>
        obtain ⟨H', I', nx⟩ := hr
        first
          | exact wpAny_pure ⟨rfl, _, H', I', knw, nx⟩
          | exact wpAny_bind (wpAny_pure (wpAny_pure ⟨rfl, _, H', I', knw, nx⟩))
      | error e => exact hr.elim
    · intro i H' t It qq
      have back : Inv X pins σ H' t := Ic.call' (ch := fp) It.os It.base It.hok It.bare fun b hb => ⟨(fc b hb).1.2.2.2.1, (fc b hb).1.2.1, (fc b hb).1.2.2.2.2.1, (fc b hb).1.2.2.2.2.2⟩
      have nC : H' hp.objs.size = none := It.free
      obtain ⟨m, hn, _⟩ := It.loc
      refine ⟨m, hn, fun h'' sb' => ?_⟩
      obtain ⟨f0, f1, f2, f3, f4, f5⟩ := Ic.fpOk (H' := H') (Nat.le_refl _) nC
      exact ⟨.ref D, H', back.turned (t' := t.toks) (fun b o hb e => (sb'.2 b hb).trans e) f0 f1 f3 f4 f5, rfl, qq⟩
  exact codeAny_compStart_dict key (T.self X.A 0 _ _ _ td key)
end
end Hr
set_option maxHeartbeats 4000000
/-! A dict comprehension of two clauses: its code means what it does. -/
namespace Hr
open PySem PySem.Spec PyProof.Rows L2
section
variable {A : Type} {g : Hv → Prop} {f : D → A → Hv → Rs A} {d : D} {ds : List D} {a : A} {h : Hv}
theorem fold_nil_pos (c : g h) : foldG g f [] a h = .ok a h := by unfold foldG; exact if_pos c
theorem fold_nil_neg (c : ¬ g h) : foldG g f [] a h = .no := by unfold foldG; exact if_neg c
theorem fold_cons_pos (c : g h) : foldG g f (d :: ds) a h = (f d a h).bind fun a h => foldG g f ds a h := by rw [foldG]; exact if_pos c
theorem fold_cons_neg (c : ¬ g h) : foldG g f (d :: ds) a h = .no := by rw [foldG]; exact if_neg c
theorem fold_cons_ok {aF : A} {hF : Hv} (e : foldG g f (d :: ds) a h = .ok aF hF) : g h ∧ ∃ a' h', f d a h = .ok a' h' ∧ foldG g f ds a' h' = .ok aF hF := by
  by_cases c : g h
  · rw [fold_cons_pos c] at e
    obtain ⟨a', h', e1, e2⟩ := bl_bind e
    exact ⟨c, a', h', e1, e2⟩
  · rw [fold_cons_neg c] at e; cases e
theorem fold_nil_ok {aF : A} {hF : Hv} (e : foldG g f [] a h = .ok aF hF) : g h ∧ aF = a ∧ hF = h := by
  by_cases c : g h
  · rw [fold_nil_pos c] at e; cases e; exact ⟨c, rfl, rfl⟩
  · rw [fold_nil_neg c] at e; cases e
end
/-- a fold over what is walked, turn by turn -/
theorem fold_walkB {T : Tb} {A : Type} {J : It} {I : Itr} {N : Nat} {m : Gh} {H Hs : Hp} {f : D → A → Hv → Rs A} {a0 aF : A} {h0 hF : Hv} {σ : L2.St} {g : TG} {B : L2.St → Hp → (Hp → Prop) → Prop} (wr : WalkR T J I N m H) (e : foldG I.guard f I.items a0 h0 = .ok aF hF)
    (P : A → Hv → Gh → Hp → Prop) (hP : ∀ a h mi Hi, P a h mi Hi → Ext0 N m H h.length mi Hi ∧ HR T mi Hi h) (start : ∃ m0, P a0 h0 m0 Hs)
    (turn : ∀ d x a h a' h' mi Hi H2, P a h mi Hi → Ext h.length mi Hi h.length mi H2 → HR T mi H2 h → RepV T h.length mi H2 d x → f d a h = .ok a' h' → ∀ Nx : Hp → Prop, (∀ m' H', P a' h' m' H' → Nx H') → g x σ H2 fun τ H3 => B τ H3 Nx) :
    ∃ W : Nat → Nat → Hp → Prop, (∃ n, W 0 n Hs) ∧ ∀ i n H, W i n H → (J.stop i H ∧ ∃ mF, P aF hF mF H) ∨ (J.go i H ∧ ∃ Nx : Hp → Prop, (∀ H', Nx H' → ∃ m, m < n ∧ W (i + 1) m H') ∧ ∀ x H', J.yld i H x H' → g x σ H' fun τ H2 => B τ H2 Nx) := by
  obtain ⟨G, Y, w, kG, kY⟩ := wr.ex
  obtain ⟨m0, p0⟩ := start
  refine ⟨fun i n Hc => n = I.items.length - i ∧ i ≤ I.items.length ∧ ∃ a h mi, P a h mi Hc ∧ foldG I.guard f (I.items.drop i) a h = .ok aF hF, ⟨_, rfl, Nat.zero_le _, a0, h0, m0, p0, e⟩, ?_⟩
  rintro i n Hc ⟨rfl, hi, a, h, mi, p, ea⟩
  obtain ⟨x0, hr⟩ := hP _ _ _ _ p
  by_cases lt : i < I.items.length
  · rw [List.drop_eq_getElem_cons lt] at ea
    obtain ⟨gd, a', h', e1, e2⟩ := fold_cons_ok ea
    have gg := kG mi Hc h x0 hr gd
    refine .inr ⟨w.goes i Hc lt gg, fun H' => ∃ a h mi, P a h mi H' ∧ foldG I.guard f (I.items.drop (i + 1)) a h = .ok aF hF, fun H' q => ⟨I.items.length - (i + 1), by omega, rfl, lt, q⟩, fun x H2 y => ?_⟩
    obtain ⟨d, ed, x1, hr1, rd⟩ := kY i x mi Hc h H2 lt x0 hr gd (w.yields i Hc x H2 lt gg y)
    rw [List.getElem?_eq_getElem lt] at ed
    cases ed
    exact turn _ x a h a' h' mi Hc H2 p x1 hr1 rd e1 _ fun m' H' q => ⟨a', h', m', q, e2⟩
  · have ei : i = I.items.length := by omega
    subst ei
    rw [List.drop_length] at ea
    obtain ⟨gd, e1, e2⟩ := fold_nil_ok ea
    subst e1 e2
    exact .inl ⟨w.stops Hc (kG mi Hc _ x0 hr gd), mi, p⟩
theorem fold_walk {T : Tb} {A : Type} {J : It} {I : Itr} {N : Nat} {m : Gh} {H Hs : Hp} {f : D → A → Hv → Rs A} {a0 aF : A} {h0 hF : Hv} {σ : L2.St} {g : TG} {B : L2.St → Hp → (Hp → Prop) → Prop} (wr : WalkR T J I N m H) (e : foldG I.guard f I.items a0 h0 = .ok aF hF)
    (P : A → Hv → Gh → Hp → Prop) (hP : ∀ a h mi Hi, P a h mi Hi → Ext0 N m H h.length mi Hi ∧ HR T mi Hi h) (start : ∃ m0, P a0 h0 m0 Hs)
    (turn : ∀ d x a h a' h' mi Hi H2, P a h mi Hi → Ext h.length mi Hi h.length mi H2 → HR T mi H2 h → RepV T h.length mi H2 d x → f d a h = .ok a' h' → ∀ Nx : Hp → Prop, (∀ m' H', P a' h' m' H' → Nx H') → g x σ H2 fun τ H3 => Knows σ τ ∧ B τ H3 Nx) :
    ∃ W : Nat → Nat → Hp → Prop, (∃ n, W 0 n Hs) ∧ ∀ i n H, W i n H → (J.stop i H ∧ ∃ mF, P aF hF mF H) ∨ (J.go i H ∧ ∃ Nx : Hp → Prop, (∀ H', Nx H' → ∃ m, m < n ∧ W (i + 1) m H') ∧ ∀ x H', J.yld i H x H' → g x σ H' fun τ H2 => Knows σ τ ∧ B τ H2 Nx) :=
  fold_walkB (B := fun τ H2 Nx => Knows σ τ ∧ B τ H2 Nx) wr e P hP start turn
/-- where a dict comprehension stands behind some turns -/
structure Ld (T : Tb) (q : Addr) (N : Nat) (m : Gh) (H : Hp) (acc : List D × List D) (hi : Hv) (mi : Gh) (Hi : Hp) : Prop where
  hr : HR T mi Hi hi
  e0 : Ext0 N m H hi.length mi Hi
  sd : mi.P = fun a => m.P a ∨ a = q
  pr : ∀ a o, m.P a → H a = some o → Hi a = some o
  dk : ∃ us, DK Hi q acc.1 us ∧ RepL T hi.length mi Hi acc.2 us
section
variable {T : Tb} {q : Addr} {N : Nat} {m : Gh} {H : Hp} {acc : List D × List D} {hi : Hv} {mi : Gh} {Hi : Hp}
theorem Ld.step {h2 : Hv} {m2 : Gh} {H2 : Hp} (l : Ld T q N m H acc hi mi Hi) (x : Ext hi.length mi Hi h2.length m2 H2) (hr : HR T m2 H2 h2) : Ld T q N m H acc h2 m2 H2 :=
  ⟨hr, l.e0.trans x.to0, x.side.trans l.sd, fun a o p e => x.prot a o (by rw [l.sd]; exact .inl p) (l.pr a o p e), let ⟨us, dk, r⟩ := l.dk; ⟨us, dk.keep fun o e => x.prot q o (by rw [l.sd]; exact .inr rfl) e, RepL.ext x _ _ r⟩⟩
theorem Ld.put {k v : D} {y z : V} {acc' : List D × List D} (hq : H q = none) (l : Ld T q N m H acc hi mi Hi) (rk : RepV T hi.length mi Hi k y) (rv : RepV T hi.length mi Hi v z) (e : putD acc.1 acc.2 k v = some acc') :
    ∃ kvs q', y = kV q' ∧ Hi q = some (.dK kvs) ∧ kvs.length < sizeLine ∧ Ld T q N m H acc' hi mi (upd Hi q (.dK (putK kvs q' z))) := by
  obtain ⟨us, dk, r⟩ := l.dk
  obtain ⟨us', o, dp, dk', r'⟩ := putD_rep e dk r rk rv
  obtain ⟨kk, e1, l1, h1⟩ := dk
  have pD : mi.P q := by rw [l.sd]; exact .inr rfl
  rcases dp with ⟨kvs, q', h2, ey, hl, eo⟩ | ⟨kvs, q', b, h2, _⟩
  · refine ⟨kvs, q', ey, h2, hl, hr_side l.hr pD, l.e0.trans (ext0_side pD), l.sd, fun a o pa ea => by rw [upd_ne (ne_of_none ea hq)]; exact l.pr a o pa ea, us', ?_, RepL.ext0 (ext0_side pD) _ _ r'⟩
    rw [← eo]
    exact dk'
  · rw [h1] at h2
    cases h2
end
section
variable {S : St0} {X : Cx} {sc : Scope} {W : WX}
theorem knows_of {σ τ : L2.St} {vs : List Nat} (e : wipe τ vs = wipe σ vs) : Knows (wipe σ vs) τ :=
  ⟨by rw [← e, wipe_length], fun j v z => by rw [← e] at z; exact (wipe_some z).1⟩
theorem tDc2_of {mm : Bool} {ke ve : Ec} {t t1 : Tc} {it it1 : Ic} {own own1 : List Nat} (hxi : S.T.xi = none) (hin : t.inB own = true) (hin1 : t1.inB own1 = true) {σ : L2.St} {H : Hp} {Q : VK} (z : TEc S W (.dcomp2 mm ke ve t it own t1 it1 own1) σ H Q) :
    tDc2 (TIc S W it) (GTc S.T t) (TIc S WN it1) (GTc S.T t1) (TEc S WN ke) (TEc S WN ve) own own1 σ H Q := by
  obtain ⟨env, h, m, st, p⟩ := z
  let fin1 : En → D → List D × List D → Hv → Rs (List D × List D) := fun env1 d acc h => match setT t1 d (wipeD env1 own1) with
    | none => .no
    | some env2 => (ev S.C ke env2 h).bind fun k h => (ev S.C ve env2 h).bind fun v h => okA (putD acc.1 acc.2 k v) h
  let fo : D → List D × List D → Hv → Rs (List D × List D) := fun d acc h => match setT t d (wipeD env own) with
    | none => .no
    | some env1 => (evi S.C it1 env1 h).bind fun I1 h => foldG I1.guard (fin1 env1) I1.items acc h
  have p : Post S.T h.length m H (RepV S.T) Q (fun c d H' => W c d σ H') ((evi S.C it env h).bind fun I h => (foldG I.guard fo I.items ([], []) h).quiet.bind fun acc h => mkDc mm acc.1 acc.2 h) := p
  refine ⟨env, h, m, st, p.split fun I h1 m1 H1 J x hr wr p1 => ?_⟩
  intro q hq
  obtain ⟨aF, hF, eF, p2⟩ := quiet_bind p1
  have go := fold_walk (B := fun τ H2 Nx => Inner (TIc S WN it1) (GTc S.T t1) (TEc S WN ke) (TEc S WN ve) own1 q τ H2 Nx) (σ := wipe σ own) (g := GTc S.T t) wr eF (fun a h mi Hi => Ld S.T q h1.length m1 H1 a h mi Hi) (fun a h mi Hi l => ⟨l.e0, l.hr⟩) (Hs := upd H1 q (.dK []))
    ⟨m1.addP q, hr_addP hr hq, ext0_addP hq, rfl, fun a o _ e => by rw [upd_ne (ne_of_none e hq)]; exact e, [], ⟨[], rfl, rfl, upd_same⟩, rfl⟩ ?_
  · obtain ⟨W0, w0, turn⟩ := go
    refine ⟨W0, w0, fun i n Hc wc => ?_⟩
    rcases turn i n Hc wc with ⟨s1, mF, l⟩ | r
    · refine .inl ⟨s1, ?_⟩
      obtain ⟨us, dk, rl⟩ := l.dk
      exact aside_dct hr hq l.e0 l.hr l.sd l.pr dk rl p2
    · exact .inr r
  · intro d xv acc hc acc' hc' mi Hi H2 l x1 hr1 rd e1 Nx nx
    have e1 : (match setT t d (wipeD env own) with
      | none => (Rs.no : Rs (List D × List D))
      | some env1 => (evi S.C it1 env1 hc).bind fun I1 h => foldG I1.guard (fin1 env1) I1.items acc h) = Rs.ok acc' hc' := e1
    cases z1 : setT t d (wipeD env own) with
    | none => rw [z1] at e1; cases e1
    | some env1 =>
      rw [z1] at e1
      have en1 : EnvR S.T hc.length mi H2 σ env := ((st.en.ext x).ext0 l.e0).ext x1
      refine ⟨wipeD env own, hc, mi, d, env1, ⟨hr1, en1.wipe own, .calm hxi⟩, rd, z1, fun τ st2 w2 => ⟨knows_of ((w2 own hin).trans (wipe_wipe fun _ h => h)), ?_⟩⟩
      obtain ⟨I1, h3, e2, e3⟩ := bl_bind e1
      refine ⟨env1, hc, mi, st2, ?_⟩
      rw [e2]
      intro m3 H3 J1 x3 hr3 wr3
      have l3 := (l.step x1 hr1).step x3 hr3
      have st3 := st2.next x3 hr3
      have go1 := fold_walk (B := fun ρ H5 Nx1 => TEc S WN ke ρ H5 fun y H6 => TEc S WN ve ρ H6 fun z H7 => ∃ (kvs : List (L2.Key × V)) (q' : L2.Key), y = kV q' ∧ H7 q = some (.dK kvs) ∧ kvs.length < sizeLine ∧ Nx1 (upd H7 q (.dK (putK kvs q' z)))) (σ := wipe τ own1) (g := GTc S.T t1) wr3 e3
        (fun a h mi Hi => Ld S.T q h1.length m1 H1 a h mi Hi ∧ Ext0 h3.length m3 H3 h.length mi Hi) (fun a h mi Hi l => ⟨l.2, l.1.hr⟩) (Hs := H3) ⟨m3, l3, Ext0.refl⟩ ?_
      · obtain ⟨W1, w1, turn1⟩ := go1
        refine ⟨W1, w1, fun i n Hc wc => ?_⟩
        rcases turn1 i n Hc wc with ⟨s1, mF, l4, _⟩ | r
        · exact .inl ⟨s1, nx mF Hc l4⟩
        · exact .inr r
      · intro d2 xv2 acc2 h5 acc3 h6 mi5 Hi5 H5 ⟨l5, x05⟩ x5 hr5 rd5 e5 Nx1 nx1
        have e5 : (match setT t1 d2 (wipeD env1 own1) with
          | none => (Rs.no : Rs (List D × List D))
          | some env2 => (ev S.C ke env2 h5).bind fun k h => (ev S.C ve env2 h).bind fun v h => okA (putD acc2.1 acc2.2 k v) h) = Rs.ok acc3 h6 := e5
        cases z5 : setT t1 d2 (wipeD env1 own1) with
        | none => rw [z5] at e5; cases e5
        | some env2 =>
          rw [z5] at e5
          obtain ⟨k, h7, e7, e8⟩ := bl_bind e5
          obtain ⟨v, h8, e9, e10⟩ := bl_bind e8
          have en5 : EnvR S.T h5.length mi5 H5 τ env1 := (st3.en.ext0 x05).ext x5
          refine ⟨wipeD env1 own1, h5, mi5, d2, env2, ⟨hr5, en5.wipe own1, .calm hxi⟩, rd5, z5, fun ρ st6 w6 => ⟨knows_of ((w6 own1 hin1).trans (wipe_wipe fun _ h => h)), ?_⟩⟩
          refine one_run e7 st6 fun m7 H7 y x7 hr7 r7 => one_run e9 (st6.next x7 hr7) fun m8 H8 zv x8 hr8 r8 => ?_
          have l8 := ((l5.step x5 hr5).step x7 hr7).step x8 hr8
          cases zp : putD acc2.1 acc2.2 k v with
          | none => rw [zp] at e10; cases e10
          | some ap =>
            rw [zp] at e10
            cases e10
            obtain ⟨kvs, q', ey, eh, hl, l9⟩ := l8.put hq (RepV.ext x8 _ _ r7) r8 zp
            exact ⟨kvs, q', ey, eh, hl, nx1 m8 _ ⟨l9, ((x05.trans x5.to0).trans (x7.to0.trans x8.to0)).trans (ext0_side (by rw [l8.sd]; exact .inr rfl))⟩⟩
theorem tLc2_of {mm : Bool} {e : Ec} {t t1 : Tc} {it it1 : Ic} {c c1 : Option Ec} {own own1 : List Nat} (hxi : S.T.xi = none) (hin : t.inB own = true) (hin1 : t1.inB own1 = true) {σ : L2.St} {H : Hp} {Q : VK} (z : TEc S W (.lcomp2 mm e t it own c t1 it1 own1 c1) σ H Q) :
    tLc2 (TIc S W it) (GTc S.T t) (TCc S WN c) (TIc S WN it1) (GTc S.T t1) (TCc S WN c1) (TEc S WN e) own own1 σ H Q := by
  obtain ⟨env, h, m, st, p⟩ := z
  let fin1 : En → D → List D → Hv → Rs (List D) := fun env1 d acc h => match setT t1 d (wipeD env1 own1) with
    | none => .no
    | some env2 => (evc S.C c1 env2 h).bind fun b h => if b then (ev S.C e env2 h).bind fun x h => okA (if acc.length < sizeLine then some (acc ++ [x]) else none) h else .ok acc h
  let fo : D → List D → Hv → Rs (List D) := fun d acc h => match setT t d (wipeD env own) with
    | none => .no
    | some env1 => (evc S.C c env1 h).bind fun b h => if b then (evi S.C it1 env1 h).bind fun I1 h => foldG I1.guard (fin1 env1) I1.items acc h else .ok acc h
  have p : Post S.T h.length m H (RepV S.T) Q (fun c d H' => W c d σ H') ((evi S.C it env h).bind fun I h => (foldG I.guard fo I.items [] h).quiet.bind fun ds h => mkL mm ds h) := p
  refine ⟨env, h, m, st, p.split fun I h1 m1 H1 J x hr wr p1 => ?_⟩
  intro q hq
  obtain ⟨aF, hF, eF, p2⟩ := quiet_bind p1
  have go := fold_walkB (B := fun τ H2 Nx => wipe τ own = wipe σ own ∧ TCc S WN c τ H2 fun b H3 => if b = true then TIc S WN it1 τ H3 fun J1 H4 => ∃ W1 : Nat → Nat → Hp → Prop, (∃ m, W1 0 m H4) ∧ ∀ j k H, W1 j k H →
      (J1.stop j H ∧ Nx H) ∨ (J1.go j H ∧ ∃ Nx1 : Hp → Prop, (∀ H', Nx1 H' → ∃ k', k' < k ∧ W1 (j + 1) k' H') ∧ ∀ x H', J1.yld j H x H' → GTc S.T t1 x (wipe τ own1) H' fun ρ H5 => wipe ρ own1 = wipe τ own1 ∧ TCc S WN c1 ρ H5 fun b H6 =>
        if b = true then TEc S WN e ρ H6 fun y H7 => ∃ acc, H7 q = some (.lst acc) ∧ acc.length < sizeLine ∧ Nx1 (upd H7 q (.lst (acc ++ [y]))) else Nx1 H6) else Nx H3) (σ := wipe σ own) (g := GTc S.T t) wr eF (fun ds h mi Hi => ∃ acc, Lp S.T q h1.length m1 H1 h mi Hi acc ds) (fun a h mi Hi ⟨acc, l⟩ => ⟨l.e0, l.hr⟩) (Hs := upd H1 q (.lst []))
    ⟨m1.addP q, [], hr_addP hr hq, ext0_addP hq, rfl, fun a o _ e => by rw [upd_ne (ne_of_none e hq)]; exact e, upd_same, rfl⟩ ?_
  · obtain ⟨W0, w0, turn⟩ := go
    refine ⟨W0, w0, fun i n Hc wc => ?_⟩
    rcases turn i n Hc wc with ⟨s1, mF, acc, l⟩ | r
    · exact .inl ⟨s1, l.fin hr hq p2⟩
    · exact .inr r
  · intro d xv acc hc acc' hc' mi Hi H2 ⟨va, l⟩ x1 hr1 rd e1 Nx nx
    have e1 : (match setT t d (wipeD env own) with
      | none => (Rs.no : Rs (List D))
      | some env1 => (evc S.C c env1 hc).bind fun b h => if b then (evi S.C it1 env1 h).bind fun I1 h => foldG I1.guard (fin1 env1) I1.items acc h else .ok acc h) = Rs.ok acc' hc' := e1
    cases z1 : setT t d (wipeD env own) with
    | none => rw [z1] at e1; cases e1
    | some env1 =>
      rw [z1] at e1
      have en1 : EnvR S.T hc.length mi H2 σ env := ((st.en.ext x).ext0 l.e0).ext x1
      refine ⟨wipeD env own, hc, mi, d, env1, ⟨hr1, en1.wipe own, .calm hxi⟩, rd, z1, fun τ st2 w2 => ⟨by rw [w2 own hin, wipe_wipe fun _ h => h], ?_⟩⟩
      obtain ⟨b, hb, eb, e1⟩ := bl_bind e1
      refine ⟨env1, hc, mi, st2, ?_⟩
      rw [eb]
      intro mb Hb b' xb hrb ebb
      subst ebb
      have lb := (l.step x1 hr1).step xb hrb
      have stb := st2.next xb hrb
      cases b with
      | false =>
        rw [if_neg Bool.false_ne_true] at e1 ⊢
        cases e1
        exact nx mb Hb ⟨va, lb⟩
      | true =>
        rw [if_pos rfl] at e1 ⊢
        obtain ⟨I1, h3, e2, e3⟩ := bl_bind e1
        refine ⟨env1, hb, mb, stb, ?_⟩
        rw [e2]
        intro m3 H3 J1 x3 hr3 wr3
        have l3 := lb.step x3 hr3
        have st3 := stb.next x3 hr3
        have go1 := fold_walkB (B := fun ρ H5 Nx1 => wipe ρ own1 = wipe τ own1 ∧ TCc S WN c1 ρ H5 fun b H6 =>
          if b = true then TEc S WN e ρ H6 fun y H7 => ∃ acc, H7 q = some (.lst acc) ∧ acc.length < sizeLine ∧ Nx1 (upd H7 q (.lst (acc ++ [y]))) else Nx1 H6) (σ := wipe τ own1) (g := GTc S.T t1) wr3 e3
          (fun ds h mi Hi => (∃ acc, Lp S.T q h1.length m1 H1 h mi Hi acc ds) ∧ Ext0 h3.length m3 H3 h.length mi Hi) (fun a h mi Hi l => ⟨l.2, let ⟨_, l1⟩ := l.1; l1.hr⟩) (Hs := H3) ⟨m3, ⟨va, l3⟩, Ext0.refl⟩ ?_
        · obtain ⟨W1, w1, turn1⟩ := go1
          refine ⟨W1, w1, fun i n Hc wc => ?_⟩
          rcases turn1 i n Hc wc with ⟨s1, mF, l4, _⟩ | r
          · exact .inl ⟨s1, nx mF Hc l4⟩
          · exact .inr r
        · intro d2 xv2 acc2 h5 acc3 h6 mi5 Hi5 H5 ⟨⟨va5, l5⟩, x05⟩ x5 hr5 rd5 e5 Nx1 nx1
          have e5 : (match setT t1 d2 (wipeD env1 own1) with
            | none => (Rs.no : Rs (List D))
            | some env2 => (evc S.C c1 env2 h5).bind fun b h => if b then (ev S.C e env2 h).bind fun x h => okA (if acc2.length < sizeLine then some (acc2 ++ [x]) else none) h else .ok acc2 h) = Rs.ok acc3 h6 := e5
          cases z5 : setT t1 d2 (wipeD env1 own1) with
          | none => rw [z5] at e5; cases e5
          | some env2 =>
            rw [z5] at e5
            have en5 : EnvR S.T h5.length mi5 H5 τ env1 := (st3.en.ext0 x05).ext x5
            refine ⟨wipeD env1 own1, h5, mi5, d2, env2, ⟨hr5, en5.wipe own1, .calm hxi⟩, rd5, z5, fun ρ st6 w6 => ⟨by rw [w6 own1 hin1, wipe_wipe fun _ h => h], ?_⟩⟩
            obtain ⟨b2, h7, e7, e8⟩ := bl_bind e5
            refine ⟨env2, h5, mi5, st6, ?_⟩
            rw [e7]
            intro m7 H7 b' x7 hr7 ebb
            subst ebb
            have l7 := (l5.step x5 hr5).step x7 hr7
            have st7 := st6.next x7 hr7
            cases b2 with
            | false =>
              rw [if_neg Bool.false_ne_true] at e8 ⊢
              cases e8
              exact nx1 m7 H7 ⟨⟨va5, l7⟩, (x05.trans x5.to0).trans x7.to0⟩
            | true =>
              rw [if_pos rfl] at e8 ⊢
              obtain ⟨v, h8, e9, e10⟩ := bl_bind e8
              refine one_run e9 st7 fun m8 H8 zv x8 hr8 r8 => ?_
              have l8 := l7.step x8 hr8
              by_cases cl : acc2.length < sizeLine
              · rw [if_pos cl] at e10
                cases e10
                exact ⟨va5, l8.at_, by rw [← l8.rl.length]; exact cl, nx1 m8 _ ⟨⟨_, l8.push hq r8⟩, ((x05.trans x5.to0).trans (x7.to0.trans x8.to0)).trans (ext0_side (by rw [l8.sd]; exact .inr rfl))⟩⟩
              · rw [if_neg cl] at e10
                cases e10
end
end Hr
set_option maxHeartbeats 2000000
/-! The exception that a suite holds: its field, its classes. -/
namespace Hr
open PySem PySem.Spec PyProof.Rows L2
section
variable {S : St0} {X : Cx} {sc : Scope} {W : WX}
theorem mem_of_lookup {c : Nat} {b : Bool} : ∀ {l : List (Nat × Bool)}, l.lookup c = some b → (c, b) ∈ l
  | (k, v) :: r, h => by
    rw [List.lookup_cons] at h
    split at h
    · rename_i e
      cases h
      rw [eq_of_beq e]
      exact List.mem_cons_self ..
    · exact List.mem_cons_of_mem _ (mem_of_lookup h)
theorem mt_base' {x : Expr} {n : Str} {env : Env} (h : notSuper x = true) : attributeBase x n env (eval x env) = eval x env := by
  unfold attributeBase
  split
  · exact absurd h Bool.false_ne_true
  · rfl
theorem vis_loc {sc : Scope} {x : Str} (h : locB sc x = true) : Vis sc x := by
  unfold locB at h
  unfold Vis
  split at h <;> first | (rename_i e; simp [e]) | cases h
theorem exc_nm (ok : OkX X S sc W) {x : Str} {xi : XI} (e : S.T.xi = some xi) (h : excB S sc x = true) {p : Pos} : PE X (.Name x p) (fun σ H Q => (∀ o, σ[xi.i]? = some o → o = some (.ref xi.a)) ∧ Q (.ref xi.a) H) := by
  have hh := (ok.hx xi e).1
  unfold excB at h
  rw [show S.toCk.hot = some xi.i from hh] at h
  have h : (decide (S.N[xi.i]? = some x) && locB sc x && okB x) = true := h
  simp only [Bool.and_eq_true, decide_eq_true_eq] at h
  obtain ⟨⟨h1, h2⟩, h3⟩ := h
  have hN : X.N[xi.i]? = some x := by rw [ok.hN]; exact h1
  have hv : Vis X.env.scope x := by rw [ok.hsc]; exact vis_loc h2
  refine ⟨fun pins s σ H Q I ⟨a, q⟩ => (pe_var hN hv (okB_1 h3) (okB_2 h3)).run pins s σ H Q I ⟨.ref xi.a, ?_, q⟩⟩
  have hl : xi.i < σ.length := by rw [I.len]; exact getElem?_lt hN
  have z := a _ (List.getElem?_eq_getElem hl)
  rw [List.getElem?_eq_getElem hl, z]
theorem s_exF {f x : Str} {p pos : Pos} (ok : OkX X S sc W) (h : excB S sc x = true) (hf : S.ct.xo.contains f = true) : PE X (.Attribute (.Name x p) f pos) (TEc S W (.exF f)) := by
  refine ⟨fun pins s σ H Q I ⟨env, h0, m, st, q⟩ => ?_⟩
  have q : Post S.T h0.length m H (RepV S.T) Q (fun c d H' => W c d σ H') (match S.T.xi.map XI.x with
    | some ⟨_, [(g, d)]⟩ => if g = f then .ok d h0 else .no
    | _ => .no) := q
  cases e : S.T.xi with
  | none =>
    rw [e] at q
    exact q.elim
  | some xi =>
    rw [e] at q
    have hnm := exc_nm (p := p) ok e h
    obtain ⟨a1, rx⟩ := st.sx xi e
    obtain ⟨hh, X0, oe, pn, eX, hz, hv⟩ := ok.hx xi e
    obtain ⟨i, a, ⟨c, args⟩, d⟩ := xi
    match args, q, rx with
    | [(g, y)], q, ⟨⟨_, hc⟩, dd, u, ed, eh, of, ru⟩ =>
      have q : Post S.T h0.length m H (RepV S.T) Q (fun c d H' => W c d σ H') (if g = f then .ok y h0 else .no) := q
      by_cases gf : g = f
      · subst gf
        rw [if_pos rfl] at q
        have C := ok.xc c hc
        have pe : PE X (.Attribute (.Name x p) g pos) (tXf a (.ref (S.T.xc c)) d (S.T.xc c) g (fun σ H Q => (∀ o, σ[i]? = some o → o = some (.ref a)) ∧ Q (.ref a) H)) := by
          have hno := C.no g hf
          have xf : XfC X.K (S.T.xc c) := ⟨C.ga, C.gg, C.sb, C.hd⟩
          subst eX
          exact pe_xf xf hno hz hv hnm (mt_base' rfl)
        exact pe.run pins s σ H Q I ⟨a1, rfl, rfl, dd, [(g, u)], u, ed, eh, by simp, q m H u .refl st.hr ru⟩
      · rw [if_neg gf] at q
        exact q.elim
    | [], q, _ => exact q.elim
    | _ :: _ :: _, q, _ => exact q.elim
/-! ### its classes -/
def clV (T : Tb) : Cl → V
  | .own j => .ref (T.xc j)
  | .ty n => .ty n
def clU (T : Tb) : Cl → Value
  | .own j => .ref (T.xc j)
  | .ty n => .type n
theorem clV_eq {T : Tb} {c : Cl} {w : Value} (r : RelV (clV T c) w) : w = clU T c := by cases c <;> exact r
theorem clV_rel {T : Tb} (c : Cl) : RelV (clV T c) (clU T c) := by cases c <;> exact rfl
/-- a class that may stand in isinstance -/
def ClOk (S : St0) : Cl → Prop
  | .own j => j < S.T.nx
  | .ty n => S.ct.xt.contains n = true
theorem kit_cl (ok : OkX X S sc W) {c : Nat} (hc : c < S.T.nx) {k : Cl} (hk : ClOk S k) : PySem.W.kitOne X.K (.ref (S.T.xc c)) (clU S.T k) = some (isX S c k) := by
  cases k with
  | own j => exact ((ok.xc c hc).own j hk).1
  | ty n => exact (ok.xc c hc).blt n hk
theorem kit_cls (ok : OkX X S sc W) {c : Nat} (hc : c < S.T.nx) : ∀ {ks : List Cl}, (∀ k ∈ ks, ClOk S k) → PySem.W.kitAny X.K (.ref (S.T.xc c)) (ks.map (clU S.T)) = some (ks.any (isX S c))
  | [], _ => rfl
  | k :: ks, h => kitAny_cons (kit_cl ok hc (h k (List.mem_cons_self ..))) (fun e => by
      have := kit_cls ok hc (ks := ks) fun k' hk' => h k' (List.mem_cons_of_mem _ hk')
      rw [this, List.any_cons, e, Bool.false_or]) (fun e => by rw [List.any_cons, e, Bool.true_or])
theorem xcl_of (ok : OkX X S sc W) {x : Str} {p : Pos} {c : Cl} (h : xclB S sc x = some c) : PE X (.Name x p) (tC (clV S.T c)) ∧ ClOk S c := by
  unfold xclB at h
  by_cases g : (glB sc x && okB x) = true
  · rw [if_pos g] at h
    rw [Bool.and_eq_true] at g
    by_cases m : S.ct.xn.contains x = true
    · rw [if_pos m] at h
      cases h
      have hm : x ∈ S.ct.xn := List.contains_iff_mem.mp m
      have hl : S.ct.xn.idxOf x < S.ct.xn.length := List.idxOf_lt_length_of_mem hm
      have hx : S.ct.xn[S.ct.xn.idxOf x]? = some x := by rw [List.getElem?_eq_getElem hl, List.getElem_idxOf hl]
      exact ⟨pe_glob (gl_of ok g.1) (ok.xmg _ x hx) rfl (okB_1 g.2), by show S.ct.xn.idxOf x < S.T.nx; rw [← ok.xcs]; exact hl⟩
    · rw [if_neg m] at h
      by_cases b : S.blt.contains x = true
      · rw [if_pos b] at h
        split at h
        · rename_i n e3
          by_cases t : S.ct.xt.contains n = true
          · rw [if_pos t] at h
            cases h
            exact ⟨pe_bltn (gl_of ok g.1) (ok.blt x b) e3 rfl (okB_3 g.2) (okB_1 g.2), t⟩
          · rw [if_neg t] at h
            cases h
        · cases h
      · rw [if_neg b] at h
        cases h
  · rw [if_neg g] at h
    cases h
theorem xcls_of (ok : OkX X S sc W) : ∀ {es : List Expr} {cs : List Cl}, xclsB S sc es = some cs → (∀ k ∈ cs, ClOk S k) ∧ ∃ t : TA, PA X es t ∧ ∀ σ H Q, Q (cs.map (clV S.T)) H → t σ H Q
  | [], cs, h => by
    cases (show some [] = some cs from h)
    exact ⟨fun k hk => absurd hk (by simp), _, pa_nil, fun _ _ _ q => q⟩
  | e :: es, cs, h => by
    cases e with
    | Name x p =>
      have h : (match xclB S sc x, xclsB S sc es with
        | some c, some cs => some (c :: cs)
        | _, _ => none) = some cs := h
      cases h1 : xclB S sc x with
      | none => rw [h1] at h; cases h
      | some c =>
        cases h2 : xclsB S sc es with
        | none => rw [h1, h2] at h; cases h
        | some r =>
          rw [h1, h2] at h
          cases h
          obtain ⟨p1, k1⟩ := xcl_of (p := p) ok h1
          obtain ⟨k2, t, pa, q⟩ := xcls_of ok h2
          exact ⟨fun k hk => (List.mem_cons.mp hk).elim (fun e => by rw [e]; exact k1) (k2 k), _, pa_cons p1 pa rfl, fun σ H Q z => q σ H _ z⟩
    | _ => exact absurd h (fun z => nomatch z)
/-- isinstance(e, c), e the exception that the suite holds -/
def rIsX (K : PySem.W.Frag) (T : Tb) (c : Nat) (a : Addr) (d : Option Addr) : List V → Hp → VK → Prop := fun xs H Q => (∀ dd, d = some dd → ∃ fs, H dd = some (.xd fs)) ∧
  ((∃ (k : Cl) (b : Bool), xs = [.ref a, clV T k] ∧ PySem.W.kitOne K (.ref (T.xc c)) (clU T k) = some b ∧ Q (.bl b) H) ∨
    ∃ (tp : Addr) (ks : List Cl) (b : Bool), xs = [.ref a, .ref tp] ∧ H tp = some (.tup (ks.map (clV T))) ∧ PySem.W.kitAny K (.ref (T.xc c)) (ks.map (clU T)) = some b ∧ Q (.bl b) H)
theorem vals_cls {T : Tb} : ∀ {ks : List Cl} {ws : List Value}, Vals (ks.map (clV T)) ws → ws = ks.map (clU T)
  | [], _, .nil => rfl
  | k :: ks, _, .cons r t => by rw [clV_eq r, vals_cls t]; rfl
theorem call_isX {X0 : Cx} {a : Addr} {oe : Obj} {pn : List (Addr × Obj)} {ct : Ct} {T : Tb} {c : Nat} {d : Option Addr} (C : XcOk X0.K ct T c) (hz : Zc (.ref (T.xc c)) d oe) (hf : ∃ vs, oe.data = .fields vs) : CallR (X0.suite a ((a, oe) :: pn)) (.builtin "isinstance") (rIsX X0.K T c a d) := by
  intro pins s σ H xs us Q I r ⟨hd, h⟩
  obtain ⟨hget, _⟩ := I.pin (a, oe) (List.mem_append.mpr (.inl List.mem_cons_self))
  obtain ⟨vs, hv⟩ := hf
  obtain ⟨od, J⟩ : ∃ od, PySem.W.InstAt s.heap a oe (T.xc c) od := by
    cases d with
    | none => exact ⟨none, hget, hz.1, by unfold PySem.W.notCls; rw [hv] <;> rfl, by rw [hz.2]; exact trivial⟩
    | some dd =>
      obtain ⟨fs, ea⟩ := hd dd rfl
      have hx : ObjOk X0.prog X0.w H s.heap dd (.xd fs) := I.hok dd _ ea
      obtain ⟨mA, hns, hr⟩ := hx
      obtain ⟨od, ho, hl⟩ := lookIn_ns hns
      exact ⟨some od, hget, hz.1, by unfold PySem.W.notCls; rw [hv] <;> rfl, by rw [hz.2]; exact ho⟩
  have hcl : (PySem.W.clsIn X0.K (T.xc c)).isSome = true := by
    obtain ⟨cd, hc, _⟩ := PySem.W.any_some C.hd
    rw [hc] <;> rfl
  have Z := PySem.W.kitx_exc (K := X0.K) (x := a) (ox := oe) (od := od) hcl C.ga C.gg C.sb C.ha C.hn C.ht C.hm
  rcases h with ⟨k, b, rfl, e, q⟩ | ⟨tp, ks, b, rfl, hT, e, q⟩
  · obtain ⟨u1, u2, rfl, r1, r2⟩ := vals2 r
    cases (show u1 = Value.ref a from r1)
    cases clV_eq r2
    exact PySem.W.kia_one Z I.kIn J e (fun z => nomatch z) fun tk => ⟨.bl b, H, I.kept (t' := tk) fun _ _ z => z, rfl, q⟩
  · obtain ⟨u1, u2, rfl, r1, r2⟩ := vals2 r
    cases (show u1 = Value.ref a from r1)
    cases (show u2 = Value.ref tp from r2)
    obtain ⟨_, its, rv, o, h1, h2, n, h3⟩ := (show ObjOk X0.prog X0.w H s.heap tp (.tup (ks.map (clV T))) from I.hok tp _ hT)
    have e3 := vals_cls rv
    subst e3
    obtain ⟨oc, od', dt, sl⟩ := o
    simp only at h2 h3
    subst h2 h3
    exact PySem.W.kia_tup Z I.kIn J h1 e (fun z => nomatch z) fun tk => ⟨.bl b, H, I.kept (t' := tk) fun _ _ z => z, rfl, q⟩
theorem s_exIs {tab : List (Nat × Bool)} {x : Str} {t : Expr} {p p1 pos : Pos} (ok : OkX X S sc W) (hg : Gl X "isinstance") (hm : X.mg "isinstance" = none) (h : excB S sc x = true)
    (hc : exIsB S sc tab t = true) : PE X (.Call (.Name "isinstance" p) [.Name x p1, t] [] pos) (TEc S W (.exIs tab)) := by
  refine ⟨fun pins s σ H Q I ⟨env, h0, m, st, q⟩ => ?_⟩
  have q : Post S.T h0.length m H (RepV S.T) Q (fun c d H' => W c d σ H') (match S.T.xi.map XI.x with
    | some ⟨c, _⟩ => (match tab.lookup c with
      | some b => .ok (.bl b) h0
      | none => .no)
    | _ => .no) := q
  cases e : S.T.xi with
  | none =>
    rw [e] at q
    exact q.elim
  | some xi =>
    rw [e] at q
    have hnm := exc_nm (p := p1) ok e h
    obtain ⟨a1, rx⟩ := st.sx xi e
    obtain ⟨hh, X0, oe, pn, eX, hz, hv⟩ := ok.hx xi e
    obtain ⟨i, a, ⟨c, args⟩, d⟩ := xi
    have hcn : c < S.T.nx := rx.1.2
    have hd : ∀ dd, d = some dd → ∃ fs, H dd = some (.xd fs) := fun dd ed => by
      match args, rx with
      | [], rx => exact absurd (ed.symm.trans rx.2) (fun z => nomatch z)
      | [(g, y)], ⟨_, dd', u, ed', eh, _⟩ =>
        have ed' : d = some dd' := ed'
        rw [ed] at ed'
        cases ed'
        exact ⟨_, eh⟩
    have q : Post S.T h0.length m H (RepV S.T) Q (fun c d H' => W c d σ H') (match tab.lookup c with
      | some b => .ok (.bl b) h0
      | none => .no) := q
    cases tb : tab.lookup c with
    | none => rw [tb] at q; exact q.elim
    | some b =>
      rw [tb] at q
      have hmem : (c, b) ∈ tab := mem_of_lookup tb
      have call : CallR X (.builtin "isinstance") (rIsX X.K S.T c a d) := by
        have C := ok.xc c hcn
        subst eX
        exact call_isX C hz hv
      cases t with
      | Name y p2 =>
        have hc : (match xclB S sc y with
          | some c => tab.all (fun p => p.2 == isX S p.1 c)
          | none => false) = true := hc
        cases hy : xclB S sc y with
        | none => rw [hy] at hc; cases hc
        | some k =>
          rw [hy] at hc
          obtain ⟨py, ky⟩ := xcl_of (p := p2) ok hy
          have eb : b = isX S c k := eq_of_beq (List.all_eq_true.mp hc (c, b) hmem)
          refine (pe_callB (id := "isinstance") call hg hm (by decide +kernel) (pa_cons hnm (pa_cons py pa_nil rfl) rfl) (hn := by decide +kernel) (hdb := by decide +kernel)).run pins s σ H Q I ?_
          exact ⟨a1, hd, .inl ⟨k, b, rfl, by rw [eb]; exact kit_cl ok hcn ky, q m H (.bl b) .refl st.hr rfl⟩⟩
      | Tuple es kk p2 =>
        have hc : (match xclsB S sc es with
          | some cs => tab.all (fun p => p.2 == cs.any (isX S p.1)) && decide (cs.length ≤ 100)
          | none => false) = true := hc
        cases hy : xclsB S sc es with
        | none => rw [hy] at hc; cases hc
        | some ks =>
          rw [hy] at hc
          have hc : (tab.all (fun p => p.2 == ks.any (isX S p.1)) && decide (ks.length ≤ 100)) = true := hc
          rw [Bool.and_eq_true, decide_eq_true_eq] at hc
          obtain ⟨ky, u, pu, ku⟩ := xcls_of ok hy
          have eb : b = ks.any (isX S c) := eq_of_beq (List.all_eq_true.mp hc.1 (c, b) hmem)
          refine (pe_callB (id := "isinstance") call hg hm (by decide +kernel) (pa_cons hnm (pa_cons (pe_tup pu) pa_nil rfl) rfl) (hn := by decide +kernel) (hdb := by decide +kernel)).run pins s σ H Q I ?_
          refine ⟨a1, ku σ H _ ⟨by rw [List.length_map, sizeLine_eq]; have := hc.2; omega, fun tp htp => ?_⟩⟩
          exact ⟨fun dd ed => by
            obtain ⟨fs, z⟩ := hd dd ed
            exact ⟨fs, by rw [upd_ne (ne_of_none z htp)]; exact z⟩, .inr ⟨tp, ks, b, rfl, upd_same, by rw [eb]; exact kit_cls ok hcn ky, q m _ (.bl b) (ext_new htp) (hr_new st.hr htp) rfl⟩⟩
      | _ => exact absurd hc Bool.false_ne_true
/-! ### an exception that was kept -/
theorem xd_of {T : Tb} {N : Nat} {m : Gh} {H : Hp} {x : Exn} {c : Value} {d : Option Addr} (r : RepX T N m H x c d) : ∀ dd, d = some dd → ∃ fs, H dd = some (.xd fs) := fun dd ed => by
  obtain ⟨k, args⟩ := x
  match args, r with
  | [], r => exact absurd (ed.symm.trans r.2) (fun z => nomatch z)
  | [(g, y)], ⟨_, dd', u, ed', eh, _⟩ =>
    rw [ed] at ed'
    cases ed'
    exact ⟨_, eh⟩
  | _ :: _ :: _, ⟨_, z⟩ => exact z.elim
theorem exh_at {P : Program} {w : World} {H : Hp} {h : Heap} {a : Addr} {cls : Value} {d : Option Addr} (ok : HOk P w H h) (e : H a = some (ExH a cls d)) : ∃ oe vs, h.get? a = some oe ∧ Zc cls d oe ∧ oe.data = .fields vs := (ok a _ e).1
/-- a kept exception's field -/
theorem pe_kx {X : Cx} {e : Expr} {te : TE} {pos : Pos} {f : Str} (he : PE X e te) (hb : attributeBase e f X.env (eval e X.env) = eval e X.env) :
    PE X (.Attribute e f pos) (fun σ H Q => te σ H fun x H1 => ∃ (a C dd : Addr) (fs : List (Str × V)) (v : V), x = .ref a ∧ XfC X.K C ∧ PySem.W.findIn X.K (.ref C) f = some none ∧ H1 a = some (ExH a (.ref C) (some dd)) ∧ H1 dd = some (.xd fs) ∧ fs.lookup f = some v ∧ Q v H1) := by
  refine ⟨fun pins s σ H Q I h => attr_of hb (thn (he.run pins s σ H _ I h) fun u s1 hh => ?_)⟩
  obtain ⟨x, H1, I1, rx, a, C, dd, fs, v, rfl, xf, no, ea, ed, l, q⟩ := hh
  cases rx
  obtain ⟨oe, vs, g, hz, hd⟩ := exh_at I1.hok ea
  obtain ⟨mA, hns, hr⟩ : ObjOk X.prog X.w H1 s1.heap dd (.xd fs) := I1.hok dd _ ed
  obtain ⟨od, ho, hl⟩ := lookIn_ns hns
  obtain ⟨u, hu, ru⟩ := RelO.some_of (v := v) (o := mA f) (by rw [← l]; exact hr f)
  have J : PySem.W.InstAt s1.heap a oe C (some od) := ⟨g, hz.1, by unfold PySem.W.notCls; rw [hd] <;> rfl, by rw [hz.2]; exact ho⟩
  exact HandSPX.exc_get I1.kIn J xf.ga xf.gg xf.exC (PySem.W.findObj_own xf.hdC no rfl (by rw [hl, hu])) (handed_of ru) ⟨v, H1, I1.tok _, ru, q⟩
theorem s_kxF {c : Ec} {f : Str} {o : Expr} {pos : Pos} (ok : OkX X S sc W) (ho : PE X o (TEc S W c)) (hb : notSuper o = true) (hf : S.ct.xo.contains f = true) : PE X (.Attribute o f pos) (TEc S W (.kxF c f)) := by
  refine (pe_kx ho (mt_base' hb)).impH fun σ H Q ⟨env, h, m, st, p⟩ => ⟨env, h, m, st, p.split fun d h1 m1 H1 v x hr r p1 => ?_⟩
  cases e : kxD h1 d f with
  | none =>
    have p2 : Post S.T h1.length m1 H1 (RepV S.T) Q (fun c d H' => W c d σ H') (okD (kxD h1 d f) h1) := p1
    rw [e] at p2
    exact p2.elim
  | some y =>
    have p2 : Post S.T h1.length m1 H1 (RepV S.T) Q (fun c d H' => W c d σ H') (okD (kxD h1 d f) h1) := p1
    rw [e] at p2
    cases d with
    | ref n =>
      obtain ⟨hn, rfl⟩ := r
      have e : (match h1[n]? with
        | some (.exn ⟨_, [(g, y)]⟩) => if g = f then some y else none
        | _ => none) = some y := e
      split at e
      · rename_i cls g y' ec
        by_cases gf : g = f
        · subst gf
          rw [if_pos rfl] at e
          cases e
          obtain ⟨dd, ea, ⟨⟨_, hc⟩, d2, u, ed, eh, of, ru⟩⟩ := hr.cell n _ ec
          subst ed
          have C := ok.xc cls hc
          exact ⟨_, _, d2, _, u, rfl, ⟨C.ga, C.gg, C.sb, C.hd⟩, C.no g hf, ea, eh, by simp, Post.now p2 hr ru⟩
        · rw [if_neg gf] at e
          cases e
      · cases e
    | _ => cases e
def rIsK (K : PySem.W.Frag) (ct : Ct) (T : Tb) : List V → Hp → VK → Prop := fun xs H Q => ∃ (a : Addr) (c : Nat) (d : Option Addr), XcOk K ct T c ∧ H a = some (ExH a (.ref (T.xc c)) d) ∧ (∀ dd, d = some dd → ∃ fs, H dd = some (.xd fs)) ∧
  ((∃ (k : Cl) (b : Bool), xs = [.ref a, clV T k] ∧ PySem.W.kitOne K (.ref (T.xc c)) (clU T k) = some b ∧ Q (.bl b) H) ∨
    ∃ (tp : Addr) (ks : List Cl) (b : Bool), xs = [.ref a, .ref tp] ∧ H tp = some (.tup (ks.map (clV T))) ∧ PySem.W.kitAny K (.ref (T.xc c)) (ks.map (clU T)) = some b ∧ Q (.bl b) H)
theorem call_isK {X : Cx} {ct : Ct} {T : Tb} : CallR X (.builtin "isinstance") (rIsK X.K ct T) := by
  intro pins s σ H xs us Q I r ⟨a, c, d, C, ea, hd, h⟩
  obtain ⟨oe, vs, g, hz, hv⟩ := exh_at I.hok ea
  obtain ⟨od, J⟩ : ∃ od, PySem.W.InstAt s.heap a oe (T.xc c) od := by
    cases d with
    | none => exact ⟨none, g, hz.1, by unfold PySem.W.notCls; rw [hv] <;> rfl, by rw [hz.2]; exact trivial⟩
    | some dd =>
      obtain ⟨fs, ed⟩ := hd dd rfl
      obtain ⟨mA, hns, hr⟩ : ObjOk X.prog X.w H s.heap dd (.xd fs) := I.hok dd _ ed
      obtain ⟨od, ho, hl⟩ := lookIn_ns hns
      exact ⟨some od, g, hz.1, by unfold PySem.W.notCls; rw [hv] <;> rfl, by rw [hz.2]; exact ho⟩
  have hcl : (PySem.W.clsIn X.K (T.xc c)).isSome = true := by
    obtain ⟨cd, hc, _⟩ := PySem.W.any_some C.hd
    rw [hc] <;> rfl
  have Z := PySem.W.kitx_exc (K := X.K) (x := a) (ox := oe) (od := od) hcl C.ga C.gg C.sb C.ha C.hn C.ht C.hm
  rcases h with ⟨k, b, rfl, e, q⟩ | ⟨tp, ks, b, rfl, hT, e, q⟩
  · obtain ⟨u1, u2, rfl, r1, r2⟩ := vals2 r
    cases r1
    cases clV_eq r2
    exact PySem.W.kia_one Z I.kIn J e (fun z => nomatch z) fun tk => ⟨.bl b, H, I.kept (t' := tk) fun _ _ z => z, rfl, q⟩
  · obtain ⟨u1, u2, rfl, r1, r2⟩ := vals2 r
    cases r1
    cases r2
    obtain ⟨_, its, rv, o, h1, h2, n, h3⟩ : ObjOk X.prog X.w H s.heap tp (.tup (ks.map (clV T))) := I.hok tp _ hT
    have e3 := vals_cls rv
    subst e3
    obtain ⟨oc, od', dt, sl⟩ := o
    simp only at h2 h3
    subst h2 h3
    exact PySem.W.kia_tup Z I.kIn J h1 e (fun z => nomatch z) fun tk => ⟨.bl b, H, I.kept (t' := tk) fun _ _ z => z, rfl, q⟩
/-- what isinstance of a kept exception wants -/
theorem kx_at {c : Ec} {tab : List (Nat × Bool)} {σ : L2.St} {H : Hp} {Q : VK} (ok : OkX X S sc W) (z : TEc S W (.kxIs c tab) σ H Q) : TEc S W c σ H fun v H1 => ∃ (h1 : Hv) (m1 : Gh) (a : Addr) (cls : Nat) (d : Option Addr) (b : Bool), HR S.T m1 H1 h1 ∧ v = .ref a ∧ cls < S.T.nx ∧ (cls, b) ∈ tab ∧
    H1 a = some (ExH a (.ref (S.T.xc cls)) d) ∧ (∀ dd, d = some dd → ∃ fs, H1 dd = some (.xd fs)) ∧ ∀ m' H', Ext h1.length m1 H1 h1.length m' H' → HR S.T m' H' h1 → Q (.bl b) H' := by
  obtain ⟨env, h, m, st, p⟩ := z
  refine ⟨env, h, m, st, p.split fun d h1 m1 H1 v x hr r p1 => ?_⟩
  have p2 : Post S.T h1.length m1 H1 (RepV S.T) Q (fun c d H' => W c d σ H') (blD (kxI h1 d tab) h1) := p1
  cases e : kxI h1 d tab with
  | none => rw [e] at p2; exact p2.elim
  | some b =>
    rw [e] at p2
    cases d with
    | ref n =>
      obtain ⟨hn, rfl⟩ := r
      have e : (match h1[n]? with
        | some (.exn x) => tab.lookup x.cls
        | _ => none) = some b := e
      split at e
      · rename_i x ec
        obtain ⟨dd, ea, rx⟩ := hr.cell n _ ec
        exact ⟨h1, m1, _, x.cls, dd, b, hr, rfl, rx.1.2, mem_of_lookup e, ea, xd_of rx, fun m' H' xx hr' => p2 m' H' _ xx hr' rfl⟩
      · cases e
    | _ => cases e
theorem s_kxIs {c : Ec} {tab : List (Nat × Bool)} {y t : Expr} {p pos : Pos} (ok : OkX X S sc W) (hg : Gl X "isinstance") (hm : X.mg "isinstance" = none) (hy : PE X y (TEc S W c)) (ny : ∀ r, starEach (y :: r) X.env = (false, eval y X.env) :: starEach r X.env)
    (hc : exIsB S sc tab t = true) : PE X (.Call (.Name "isinstance" p) [y, t] [] pos) (TEc S W (.kxIs c tab)) := by
  cases t with
  | Name n p2 =>
    have hc : (match xclB S sc n with
      | some c => tab.all (fun p => p.2 == isX S p.1 c)
      | none => false) = true := hc
    cases hn : xclB S sc n with
    | none => rw [hn] at hc; cases hc
    | some k =>
      rw [hn] at hc
      obtain ⟨py, ky⟩ := xcl_of (p := p2) ok hn
      refine (pe_callB (id := "isinstance") (call_isK (ct := S.ct) (T := S.T)) hg hm (by decide +kernel) (pa_cons hy (pa_cons py pa_nil rfl) (ny _)) (hn := by decide +kernel) (hdb := by decide +kernel) (ny _) rfl).impH fun σ H Q z => ?_
      obtain ⟨env, h, m, st, q⟩ := kx_at ok z
      refine ⟨env, h, m, st, q.mono fun v H1 ⟨h1, m1, a, cls, d, b, hr, ev, lt, mem, ea, hd, fin⟩ => ?_⟩
      have eb : b = isX S cls k := eq_of_beq (List.all_eq_true.mp hc (cls, b) mem)
      subst ev
      exact ⟨a, cls, d, by rw [ok.hK]; exact ok.hK ▸ ok.xc cls lt, ea, hd, .inl ⟨k, b, rfl, by rw [eb]; exact kit_cl ok lt ky, fin m1 H1 .refl hr⟩⟩
  | Tuple es kk p2 =>
    have hc : (match xclsB S sc es with
      | some cs => tab.all (fun p => p.2 == cs.any (isX S p.1)) && decide (cs.length ≤ 100)
      | none => false) = true := hc
    cases hn : xclsB S sc es with
    | none => rw [hn] at hc; cases hc
    | some ks =>
      rw [hn] at hc
      have hc : (tab.all (fun p => p.2 == ks.any (isX S p.1)) && decide (ks.length ≤ 100)) = true := hc
      rw [Bool.and_eq_true, decide_eq_true_eq] at hc
      obtain ⟨ky, u, pu, ku⟩ := xcls_of ok hn
      refine (pe_callB (id := "isinstance") (call_isK (ct := S.ct) (T := S.T)) hg hm (by decide +kernel) (pa_cons hy (pa_cons (pe_tup pu) pa_nil rfl) (ny _)) (hn := by decide +kernel) (hdb := by decide +kernel) (ny _) rfl).impH fun σ H Q z => ?_
      obtain ⟨env, h, m, st, q⟩ := kx_at ok z
      refine ⟨env, h, m, st, q.mono fun v H1 ⟨h1, m1, a, cls, d, b, hr, ev, lt, mem, ea, hd, fin⟩ => ?_⟩
      have eb : b = ks.any (isX S cls) := eq_of_beq (List.all_eq_true.mp hc.1 (cls, b) mem)
      subst ev
      refine ku σ H1 _ ⟨by rw [List.length_map, sizeLine_eq]; have := hc.2; omega, fun tp htp => ?_⟩
      refine ⟨a, cls, d, by rw [ok.hK]; exact ok.hK ▸ ok.xc cls lt, by rw [upd_ne (ne_of_none ea htp)]; exact ea, fun dd ed => ?_, .inr ⟨tp, ks, b, rfl, upd_same, by rw [eb]; exact kit_cls ok lt ky, fin m1 _ (ext_new htp) (hr_new hr htp)⟩⟩
      obtain ⟨fs, z⟩ := hd dd ed
      exact ⟨fs, by rw [upd_ne (ne_of_none z htp)]; exact z⟩
  | _ => exact absurd hc Bool.false_ne_true
end
end Hr
set_option maxHeartbeats 8000000
/-! A code means what its expression does. -/
namespace Hr
open PySem PySem.Spec PyProof.Rows L2
section
variable {S : St0} {X : Cx} {sc : Scope} {W : WX}
theorem t_cond {c a b : Ec} {t x y : Expr} {pos : Pos} (hc : PT X t (TTc S W c)) (ha : PT X x (TTc S W a)) (hb : PT X y (TTc S W b)) : PT X (.IfExp t x y pos) (TTc S W (.cond c a b)) := by
  refine ⟨fun pins s σ H Q I ⟨env, h, m, st, p⟩ => ?_⟩
  have e : (ev S.C (.cond c a b) env h).bind testD = ((ev S.C c env h).bind testD).bind fun t h => if t then (ev S.C a env h).bind testD else (ev S.C b env h).bind testD := by
    show ((ev S.C c env h).bind (fun d h => (testD d h).bind fun t h => if t then ev S.C a env h else ev S.C b env h)).bind testD = _
    cases ev S.C c env h with
    | no => rfl
    | ex _ _ => rfl
    | ok d h1 =>
      show ((testD d h1).bind fun t h => if t then ev S.C a env h else ev S.C b env h).bind testD = (testD d h1).bind _
      cases testD d h1 with
      | no => rfl
      | ex _ _ => rfl
      | ok k h2 => cases k <;> rfl
  rw [e] at p
  rw [PySem.arm_isTrue_IfExp]
  refine wpAny_bind (thn (hc.run pins s σ H (fun k H1 => if k = true then TTc S W a σ H1 Q else TTc S W b σ H1 Q) I ⟨env, h, m, st, p.split fun k h1 m1 H1 b x hr r p1 => ?_⟩) fun d s1 ⟨H1, I1, q1⟩ => ?_)
  · subst r
    cases k with
    | true => exact ⟨env, h1, m1, st.next x hr, p1⟩
    | false => exact ⟨env, h1, m1, st.next x hr, p1⟩
  · cases d with
    | true => exact ha.run pins s1 σ H1 Q I1 q1
    | false => exact hb.run pins s1 σ H1 Q I1 q1
theorem okX_blk {W : WX} (ok : OkX X S sc W) (hh : S.hot = none) {s : Shared} {H : Hp} {scope : Scope} {C : Addr} {cl : List (Str × Addr)} {fp : List Addr} (hk : scope.kind = .function) : OkX (X.blk s H scope (compEnvC scope cl C X.env) fp) S (relS scope sc) WN where
  hK := ok.hK
  hN := ok.hN
  nd := ok.nd
  hsc := by rw [← ok.hsc]; rfl
  kind := hk
  calm := ok.calm
  gd := ok.gd
  room := ok.room
  un := ok.un
  pass := fun σ pins H s e s' I c => ok.never _ _ _ _ _ c
  never := ok.never
  blt := ok.blt
  glo := ok.glo
  fns := ok.fns
  cls := ok.cls
  noat := ok.noat
  xcs := ok.xcs
  xc := ok.xc
  xmg := ok.xmg
  hx := fun x e => by rw [xi_of ok hh] at e; cases e
  mks := ok.mks
theorem blk_loc {sc scope : Scope} {x : Str} (h : locB scope x = true) {X : Cx} (hsc : X.env.scope = sc) {s : Shared} {H : Hp} {C : Addr} {cl : List (Str × Addr)} {fp : List Addr} :
    L2.Loc (X.blk s H scope (compEnvC scope cl C X.env) fp).env.scope x ∧ ((X.blk s H scope (compEnvC scope cl C X.env) fp).fn x = true ∨ (X.blk s H scope (compEnvC scope cl C X.env) fp).env.scope.names.lookup x = some .local) := by
  rcases loc_of h with e | e
  · have q := lookup_relS_keep (sc := X.env.scope) (show NameKind.local ≠ .free by decide) e
    exact ⟨.inl q, .inr q⟩
  · have q := lookup_relS_keep (sc := X.env.scope) (show NameKind.cell ≠ .free by decide) e
    refine ⟨.inr q, .inl ?_⟩
    show (scope.names.lookup x == some NameKind.cell) = true
    rw [e]
    rfl
theorem fold_of {it : Ic} {tg iter : Expr} {env : Env} (h : chkI S sc it tg iter = true) : ∀ x, foldedSetIterable iter env x = pure x := by
  intro x
  cases iter with
  | Set => cases it with
    | seq c => cases c <;> exact absurd h Bool.false_ne_true
    | _ => exact absurd h Bool.false_ne_true
  | _ => rfl
def isBo : Expr → Bool
  | .BoolOp .. => true
  | _ => false
theorem bo_no {X : Cx} {e : Expr} {t : TT} (h : isBo e = false) : isBo e = true → PW X e t := fun z => absurd (h.symm.trans z) Bool.false_ne_true
theorem mt_base {o : Ec} {x : Expr} {n : Str} {env : Env} (h : notSuper x = true) : attributeBase x n env (eval x env) = eval x env := by
  unfold attributeBase
  split
  · exact absurd h Bool.false_ne_true
  · rfl
end
theorem s_dcomp2 {S : St0} {X : Cx} {sc : Scope} {W : WX} {mm : Bool} {ke ve : Ec} {t t1 : Tc} {it it1 : Ic} {own own1 : List Nat} {k v tg iter tg1 iter1 : Expr} {scope : Scope} {pos : Pos} (ok : OkX X S sc W) (hh : S.hot = none) (hi : PI X tg iter (TIc S W it)) (hb : blkC S.N sc scope (ownN S.N own) = true) (hin : t.inB own = true) (hin1 : t1.inB own1 = true) (hsub : own1.all (own.contains ·) = true)
    (hg : ∀ s H C cl fp, PG (BlkC X scope s H C cl fp) tg (GTc S.T t)) (hi1 : ∀ s H C cl fp, PI (BlkC X scope s H C cl fp) tg1 iter1 (TIc S WN it1)) (hg1 : ∀ s H C cl fp, PG (BlkC X scope s H C cl fp) tg1 (GTc S.T t1)) (hk : ∀ s H C cl fp, PE (BlkC X scope s H C cl fp) k (TEc S WN ke)) (hv : ∀ s H C cl fp, PE (BlkC X scope s H C cl fp) v (TEc S WN ve))
    (hs : ∀ x, foldedSetIterable iter X.env x = pure x) (hs1 : ∀ env x, foldedSetIterable iter1 env x = pure x) : PE X (.DictComp k v [⟨tg, iter, [], 0⟩, ⟨tg1, iter1, [], 0⟩] scope pos) (TEc S W (.dcomp2 mm ke ve t it own t1 it1 own1)) := by
  have b := blkOk_by hb
  rw [← ok.hN, ← ok.hsc] at b
  have e : (ownN X.N own).map (·.2) = own := own_ix _ _
  have p := pe_dc2 (pos := pos) (own := ownN X.N own) (vs1 := own1) (ok.calm hh) ok.nd hi b (fun i hi => by rw [e]; exact List.contains_iff_mem.mp (List.all_eq_true.mp hsub i hi)) hg hi1 hg1 hk hv hs hs1
  rw [e] at p
  exact p.impH fun σ H Q q => tDc2_of (xi_of ok hh) hin hin1 q
theorem s_lcomp2 {S : St0} {X : Cx} {sc : Scope} {W : WX} {mm : Bool} {a : Ec} {t t1 : Tc} {it it1 : Ic} {c c1 : Option Ec} {own own1 : List Nat} {k tg iter tg1 iter1 : Expr} {fa fb : List Expr} {scope : Scope} {pos : Pos} (ok : OkX X S sc W) (hh : S.hot = none) (hi : PI X tg iter (TIc S W it)) (hb : blkC S.N sc scope (ownN S.N own) = true) (hin : t.inB own = true) (hin1 : t1.inB own1 = true) (hsub : own1.all (own.contains ·) = true)
    (hg : ∀ s H C cl fp, PG (BlkC X scope s H C cl fp) tg (GTc S.T t)) (ht : ∀ s H C cl fp, PTs (BlkC X scope s H C cl fp) fa (TCc S WN c)) (hi1 : ∀ s H C cl fp, PI (BlkC X scope s H C cl fp) tg1 iter1 (TIc S WN it1)) (hg1 : ∀ s H C cl fp, PG (BlkC X scope s H C cl fp) tg1 (GTc S.T t1)) (ht1 : ∀ s H C cl fp, PTs (BlkC X scope s H C cl fp) fb (TCc S WN c1)) (hk : ∀ s H C cl fp, PE (BlkC X scope s H C cl fp) k (TEc S WN a))
    (hs : ∀ x, foldedSetIterable iter X.env x = pure x) (hs1 : ∀ env x, foldedSetIterable iter1 env x = pure x) : PE X (.ListComp k [⟨tg, iter, fa, 0⟩, ⟨tg1, iter1, fb, 0⟩] scope pos) (TEc S W (.lcomp2 mm a t it own c t1 it1 own1 c1)) := by
  have b := blkOk_by hb
  rw [← ok.hN, ← ok.hsc] at b
  have e : (ownN X.N own).map (·.2) = own := own_ix _ _
  have p := pe_lc2 (pos := pos) (own := ownN X.N own) (vs1 := own1) (ok.calm hh) ok.nd hi b (fun i hi => by rw [e]; exact List.contains_iff_mem.mp (List.all_eq_true.mp hsub i hi)) hg ht hi1 hg1 ht1 hk hs hs1
  rw [e] at p
  exact p.impH fun σ H Q q => tLc2_of (xi_of ok hh) hin hin1 q
mutual
theorem sE {S : St0} : ∀ (c : Ec) (sc : Scope) (X : Cx) (W : WX) (e : Expr), OkX X S sc W → chkE S sc c e = true → PE X e (TEc S W c) ∧ PT X e (TTc S W c) ∧ (isBo e = true → PW X e (TTc S W c))
  | .lit d, sc, X, W, e, ok, h => by
    cases e with
    | Constant c j pos => exact ⟨s_lit h, t_plain ok (s_lit h) fun _ => rfl, bo_no rfl⟩
    | _ => exact absurd h Bool.false_ne_true
  | .var i, sc, X, W, e, ok, h => by
    cases e with
    | Name x pos =>
      have h : (decide (S.N[i]? = some x) && visB sc x && okB x) = true := h
      simp only [Bool.and_eq_true, decide_eq_true_eq] at h
      have p := s_var (pos := pos) ok h.1.1 (vis_of h.1.2) h.2
      exact ⟨p, t_plain ok p fun _ => rfl, bo_no rfl⟩
    | _ => exact absurd h Bool.false_ne_true
  | .glo i, sc, X, W, e, ok, h => by
    cases e with
    | Name x pos =>
      have h : (decide (S.gn[i]? = some x) && glB sc x && okB x) = true := h
      simp only [Bool.and_eq_true, decide_eq_true_eq] at h
      have p := s_glo (pos := pos) ok h.1.1 (gl_of ok h.1.2) h.2
      exact ⟨p, t_plain ok p fun _ => rfl, bo_no rfl⟩
    | _ => exact absurd h Bool.false_ne_true
  | .neg a, sc, X, W, e, ok, h => by
    cases e with
    | UnaryOp op x pos =>
      cases op with
      | USub =>
        have p := s_neg (pos := pos) (sE a sc X W x ok h).1
        exact ⟨p, t_plain ok p fun _ => rfl, bo_no rfl⟩
      | _ => exact absurd h Bool.false_ne_true
    | _ => exact absurd h Bool.false_ne_true
  | .not_ a, sc, X, W, e, ok, h => by
    cases e with
    | UnaryOp op x pos =>
      cases op with
      | Not =>
        obtain ⟨p1, p2, _⟩ := sE a sc X W x ok h
        exact ⟨s_not ok p1, t_not p2, bo_no rfl⟩
      | _ => exact absurd h Bool.false_ne_true
    | _ => exact absurd h Bool.false_ne_true
  | .bin mm o a b, sc, X, W, e, ok, h => by
    cases e with
    | BinOp x q y pos =>
      have h : (decide (o = q) && chkE S sc a x && chkE S sc b y) = true := h
      simp only [Bool.and_eq_true, decide_eq_true_eq] at h
      obtain ⟨⟨e1, h1⟩, h2⟩ := h
      subst e1
      have p := s_bin (mm := mm) (o := o) (pos := pos) ok (sE a sc X W x ok h1).1 (sE b sc X W y ok h2).1
      exact ⟨p, t_plain ok p fun _ => rfl, bo_no rfl⟩
    | _ => exact absurd h Bool.false_ne_true
  | .cmp o a b, sc, X, W, e, ok, h => by
    cases e with
    | Compare x ops ys pos =>
      match ops, ys, h with
      | [q], [y], h =>
        have h : (decide (o = q) && chkE S sc a x && chkE S sc b y && !behindInMarks q y) = true := h
        simp only [Bool.and_eq_true, decide_eq_true_eq, Bool.not_eq_true'] at h
        obtain ⟨⟨⟨e1, h1⟩, h2⟩, h3⟩ := h
        subst e1
        exact ⟨s_cmp ok (sE a sc X W x ok h1).1 (sE b sc X W y ok h2).1 h3, t_cmp ok (sE a sc X W x ok h1).1 (sE b sc X W y ok h2).1 h3, bo_no rfl⟩
      | [], _, h => exact absurd h Bool.false_ne_true
      | [_], [], h => exact absurd h Bool.false_ne_true
      | [_], _ :: _ :: _, h => exact absurd h Bool.false_ne_true
      | _ :: _ :: _, _, h => exact absurd h Bool.false_ne_true
    | _ => exact absurd h Bool.false_ne_true
  | .chain o o2 a b c, sc, X, W, e, ok, h => by
    cases e with
    | Compare x ops ys pos =>
      match ops, ys, h with
      | [q, r], [y, z], h =>
        have h : (decide (o = q) && decide (o2 = r) && chkE S sc a x && chkE S sc b y && chkE S sc c z && !behindInMarks r z) = true := h
        simp only [Bool.and_eq_true, decide_eq_true_eq, Bool.not_eq_true'] at h
        obtain ⟨⟨⟨⟨⟨e1, e2⟩, h1⟩, h2⟩, h3⟩, h4⟩ := h
        subst e1 e2
        have p1 := (sE a sc X W x ok h1).1
        have p2 := (sE b sc X W y ok h2).1
        have p3 := (sE c sc X W z ok h3).1
        exact ⟨s_chain ok p1 p2 p3 h4, t_chain ok p1 p2 p3 h4, bo_no rfl⟩
      | [], _, h => exact absurd h Bool.false_ne_true
      | [_], _, h => exact absurd h Bool.false_ne_true
      | [_, _], [], h => exact absurd h Bool.false_ne_true
      | [_, _], [_], h => exact absurd h Bool.false_ne_true
      | [_, _], _ :: _ :: _ :: _, h => exact absurd h Bool.false_ne_true
      | _ :: _ :: _ :: _, _, h => exact absurd h Bool.false_ne_true
    | _ => exact absurd h Bool.false_ne_true
  | .and_ a b, sc, X, W, e, ok, h => by
    cases e with
    | BoolOp op vs pos =>
      cases op with
      | And =>
        match vs, h with
        | [], h => exact absurd h Bool.false_ne_true
        | [x], h =>
          have h : (chkE S sc a x && false) = true := h
          rw [Bool.and_false] at h
          exact absurd h Bool.false_ne_true
        | [x, y], h =>
          have h : (chkE S sc a x && chkE S sc b y) = true := h
          rw [Bool.and_eq_true] at h
          obtain ⟨p1, t1, _⟩ := sE a sc X W x ok h.1
          obtain ⟨p2, t2, _⟩ := sE b sc X W y ok h.2
          have w := t_and (rest := []) (pos := pos) t1 (pw_and1 t2)
          exact ⟨s_and ok p1 (pe_one p2), w.pt, fun _ => w⟩
        | x :: y :: z :: r, h =>
          have h : (chkE S sc a x && chkE S sc b (.BoolOp .And (y :: z :: r) pos)) = true := h
          rw [Bool.and_eq_true] at h
          obtain ⟨p1, t1, _⟩ := sE a sc X W x ok h.1
          obtain ⟨p2, t2, w2⟩ := sE b sc X W _ ok h.2
          have w := t_and (pos := pos) t1 (w2 rfl)
          exact ⟨s_and ok p1 p2, w.pt, fun _ => w⟩
      | _ => exact absurd h Bool.false_ne_true
    | _ => exact absurd h Bool.false_ne_true
  | .or_ a b, sc, X, W, e, ok, h => by
    cases e with
    | BoolOp op vs pos =>
      cases op with
      | Or =>
        match vs, h with
        | [], h => exact absurd h Bool.false_ne_true
        | [x], h =>
          have h : (chkE S sc a x && false) = true := h
          rw [Bool.and_false] at h
          exact absurd h Bool.false_ne_true
        | [x, y], h =>
          have h : (chkE S sc a x && chkE S sc b y) = true := h
          rw [Bool.and_eq_true] at h
          obtain ⟨p1, t1, _⟩ := sE a sc X W x ok h.1
          obtain ⟨p2, t2, _⟩ := sE b sc X W y ok h.2
          have w := t_or (rest := []) (pos := pos) t1 (pw_or1 t2)
          exact ⟨s_or ok p1 (pe_one p2), w.pt, fun _ => w⟩
        | x :: y :: z :: r, h =>
          have h : (chkE S sc a x && chkE S sc b (.BoolOp .Or (y :: z :: r) pos)) = true := h
          rw [Bool.and_eq_true] at h
          obtain ⟨p1, t1, _⟩ := sE a sc X W x ok h.1
          obtain ⟨p2, t2, w2⟩ := sE b sc X W _ ok h.2
          have w := t_or (pos := pos) t1 (w2 rfl)
          exact ⟨s_or ok p1 p2, w.pt, fun _ => w⟩
      | _ => exact absurd h Bool.false_ne_true
    | _ => exact absurd h Bool.false_ne_true
  | .cond c a b, sc, X, W, e, ok, h => by
    cases e with
    | IfExp t x y pos =>
      have h : (chkE S sc c t && chkE S sc a x && chkE S sc b y) = true := h
      simp only [Bool.and_eq_true] at h
      obtain ⟨_, t1, _⟩ := sE c sc X W t ok h.1.1
      obtain ⟨p2, t2, _⟩ := sE a sc X W x ok h.1.2
      obtain ⟨p3, t3, _⟩ := sE b sc X W y ok h.2
      exact ⟨s_cond t1 p2 p3, t_cond t1 t2 t3, bo_no rfl⟩
    | _ => exact absurd h Bool.false_ne_true
  | .tup cs, sc, X, W, e, ok, h => by
    cases e with
    | Tuple xs k pos =>
      have p := s_tup (k := k) (pos := pos) (sA cs sc X W xs ok h)
      exact ⟨p, t_plain ok p fun _ => rfl, bo_no rfl⟩
    | _ => exact absurd h Bool.false_ne_true
  | .lst mm cs, sc, X, W, e, ok, h => by
    cases e with
    | List xs pos =>
      have p := s_lst (b := mm) (pos := pos) (sA cs sc X W xs ok h)
      exact ⟨p, t_plain ok p fun _ => rfl, bo_no rfl⟩
    | _ => exact absurd h Bool.false_ne_true
  | .dnew mm, sc, X, W, e, ok, h => by
    cases e with
    | Dict ks vs pos =>
      match ks, vs, h with
      | [], [], h =>
        have p := s_dnew (S := S) (W := W) (b := mm) (pos := pos) (X := X)
        exact ⟨p, t_plain ok p fun _ => rfl, bo_no rfl⟩
      | _ :: _, _, h => exact absurd h Bool.false_ne_true
      | [], _ :: _, h => exact absurd h Bool.false_ne_true
    | _ => exact absurd h Bool.false_ne_true
  | .idx a b, sc, X, W, e, ok, h => by
    cases e with
    | Subscript x y pos =>
      have h : (chkE S sc a x && chkE S sc b y && notSlice y) = true := h
      simp only [Bool.and_eq_true] at h
      have p := s_idx (pos := pos) ok (sE a sc X W x ok h.1.1).1 (sE b sc X W y ok h.1.2).1 h.2
      exact ⟨p, t_plain ok p fun _ => rfl, bo_no rfl⟩
    | _ => exact absurd h Bool.false_ne_true
  | .cut mm a lo hi, sc, X, W, e, ok, h => by
    cases e with
    | Subscript x y pos =>
      cases y with
      | Slice l u st p2 =>
        cases st with
        | none =>
          have h : (chkE S sc a x && chkO S sc lo l && chkO S sc hi u) = true := h
          simp only [Bool.and_eq_true] at h
          have p := s_cut (b := mm) (p2 := p2) (pos := pos) ok (sE a sc X W x ok h.1.1).1 (sO lo sc X W l ok h.1.2) (sO hi sc X W u ok h.2)
          exact ⟨p, t_plain ok p fun _ => rfl, bo_no rfl⟩
        | some _ => exact absurd h Bool.false_ne_true
      | _ => exact absurd h Bool.false_ne_true
    | _ => exact absurd h Bool.false_ne_true
  | .call f raw cs, sc, X, W, e, ok, h => by
    cases e with
    | Call fn args kws pos =>
      cases kws with
      | nil =>
        cases fn with
        | Name x p0 =>
          have h : ((match S.F[f]? with
            | some fc => decide (fc.name = x) && decide (cs.length ≤ fc.np) && fc.cls.isNone
            | none => false) && glB sc x && okB x && chkEs S sc cs args && S.hot.isNone) = true := h
          simp only [Bool.and_eq_true] at h
          obtain ⟨⟨⟨⟨h1, h2⟩, h3⟩, h4⟩, hh⟩ := h
          split at h1
          · rename_i fc hf
            rw [Bool.and_eq_true, Bool.and_eq_true, decide_eq_true_eq, decide_eq_true_eq] at h1
            have p := s_call (raw := raw) (p := p0) (pos := pos) ok (hot_of hh) hf (Option.isNone_iff_eq_none.mp h1.2) h1.1.1 h1.1.2 (fun q => by subst q; cases cs with | nil => rfl | cons _ _ => exact absurd h4 Bool.false_ne_true) (gl_of ok h2) (okB_1 h3) (sA cs sc X W args ok h4)
              (fun e r q => by
                subst q
                cases cs with
                | nil => exact absurd h4 Bool.false_ne_true
                | cons c cs =>
                  have h4 : (chkE S sc c e && chkEs S sc cs r) = true := h4
                  rw [Bool.and_eq_true] at h4
                  exact ⟨star_cons h4.1, star_plain h4.2⟩)
            exact ⟨p, t_plain ok p fun _ => rfl, bo_no rfl⟩
          · cases h1
        | _ => exact absurd h Bool.false_ne_true
      | cons _ _ => cases fn <;> exact absurd h Bool.false_ne_true
    | _ => exact absurd h Bool.false_ne_true
  | .bi mm b cs, sc, X, W, e, ok, h => by
    cases e with
    | Call fn args kws pos =>
      cases kws with
      | nil =>
        cases fn with
        | Name x p0 =>
          have h : (fromB S sc x b.name && chkEs S sc cs args && !args.isEmpty && (S.hot.isNone || decide (b = .repr))) = true := h
          simp only [Bool.and_eq_true] at h
          obtain ⟨⟨⟨h1, h2⟩, h3⟩, hh⟩ := h
          have hh : S.hot = none ∨ b = .repr := (Bool.or_eq_true _ _ |>.mp hh).imp hot_of of_decide_eq_true
          obtain ⟨e1, hg, hm⟩ := fromB_of ok h1
          subst e1
          cases args with
          | nil => exact absurd h3 Bool.false_ne_true
          | cons e es =>
            cases cs with
            | nil => exact absurd h2 Bool.false_ne_true
            | cons c cs =>
              have h2' : (chkE S sc c e && chkEs S sc cs es) = true := h2
              rw [Bool.and_eq_true] at h2'
              have p := s_bi (mm := mm) (p := p0) (pos := pos) ok hh hg hm (sA (c :: cs) sc X W (e :: es) ok h2) (star_cons h2'.1) (star_plain h2'.2)
              exact ⟨p, t_plain ok p fun _ => rfl, bo_no rfl⟩
        | _ => exact absurd h Bool.false_ne_true
      | cons _ _ => cases fn <;> exact absurd h Bool.false_ne_true
    | _ => exact absurd h Bool.false_ne_true
  | .isi a cs, sc, X, W, e, ok, h => by
    cases e with
    | Call fn args kws pos =>
      cases kws with
      | nil =>
        cases fn with
        | Name x p0 =>
          match args, h with
          | [y, t], h =>
            have h : (fromB S sc x "isinstance" && chkE S sc a y && clsB S sc cs t) = true := h
            simp only [Bool.and_eq_true] at h
            obtain ⟨⟨h1, h2⟩, h3⟩ := h
            obtain ⟨e1, hg, hm⟩ := fromB_of ok h1
            subst e1
            have p := s_isi (p := p0) (pos := pos) ok hg hm (sE a sc X W y ok h2).1 (fun _ => star_cons h2) h3
            exact ⟨p, t_plain ok p fun _ => rfl, bo_no rfl⟩
          | [], h => exact absurd h Bool.false_ne_true
          | [_], h => exact absurd h Bool.false_ne_true
          | _ :: _ :: _ :: _, h => exact absurd h Bool.false_ne_true
        | _ => exact absurd h Bool.false_ne_true
      | cons _ _ => cases fn <;> first | exact absurd h Bool.false_ne_true | (rcases args with _ | ⟨_, _ | ⟨_, _ | ⟨_, _⟩⟩⟩ <;> exact absurd h Bool.false_ne_true)
    | _ => exact absurd h Bool.false_ne_true
  | .mt t o cs, sc, X, W, e, ok, h => by
    cases e with
    | Call fn args kws pos =>
      cases kws with
      | nil =>
        cases fn with
        | Attribute x nm ap =>
          have h : (decide (nm = t.name) && (ap.endLine == pos.line) && notSuper x && chkE S sc o x && chkEs S sc cs args && (t.args == !args.isEmpty) && decide (args.length < 28)) = true := h
          simp only [Bool.and_eq_true, decide_eq_true_eq] at h
          obtain ⟨⟨⟨⟨⟨⟨h1, h2⟩, h3⟩, h4⟩, h5⟩, h6⟩, h7⟩ := h
          subst h1
          have p := s_mt (t := t) ok (sE o sc X W x ok h4).1 (sA cs sc X W args ok h5) (mt_base (o := o) h3) h2 (eq_of_beq h6) h7 (fun q => by subst q; cases cs with | nil => rfl | cons _ _ => exact absurd h5 Bool.false_ne_true)
            (fun e r q => by
              subst q
              cases cs with
              | nil => exact absurd h5 Bool.false_ne_true
              | cons c cs =>
                have h5 : (chkE S sc c e && chkEs S sc cs r) = true := h5
                rw [Bool.and_eq_true] at h5
                exact ⟨star_cons h5.1, fun _ => star_plain h5.2⟩)
          exact ⟨p, t_plain ok p fun _ => rfl, bo_no rfl⟩
        | _ => exact absurd h Bool.false_ne_true
      | cons _ _ => cases fn <;> exact absurd h Bool.false_ne_true
    | _ => exact absurd h Bool.false_ne_true
  | .fld c a f, sc, X, W, e, ok, h => by
    cases e with
    | Attribute x nm pos =>
      have h : (decide (nm = f) && notSuper x && chkE S sc a x && decide (c < S.ct.nc) && (S.ct.na c).contains f) = true := h
      simp only [Bool.and_eq_true, decide_eq_true_eq] at h
      obtain ⟨⟨⟨⟨h1, h2⟩, h3⟩, h4⟩, h5⟩ := h
      subst h1
      have p := s_fld (pos := pos) ok (sE a sc X W x ok h3).1 (mt_base (o := a) h2) h4 h5
      exact ⟨p, t_plain ok p fun _ => rfl, bo_no rfl⟩
    | _ => exact absurd h Bool.false_ne_true
  | .meth c m i raw o cs, sc, X, W, e, ok, h => by
    cases e with
    | Call fn args kws pos =>
      cases kws with
      | nil =>
        cases fn with
        | Attribute x nm ap =>
          have h : (decide (nm = m) && (ap.endLine == pos.line) && notSuper x && chkE S sc o x && chkEs S sc cs args && decide (args.length < 28) && decide (c < S.ct.nc) && (match S.F[i]? with
            | some fc => decide (fc.name = m) && decide (fc.cls = some c) && decide (cs.length + 1 = fc.np)
            | none => false) && S.hot.isNone) = true := h
          simp only [Bool.and_eq_true] at h
          obtain ⟨⟨⟨⟨⟨⟨⟨⟨h1, h2⟩, h3⟩, h4⟩, h5⟩, h6⟩, h7⟩, h8⟩, hh⟩ := h
          split at h8
          · rename_i fc hf
            simp only [Bool.and_eq_true, decide_eq_true_eq] at h8 h1 h6 h7
            obtain ⟨⟨g1, g2⟩, g3⟩ := h8
            subst h1
            subst g1
            have p := s_meth (raw := raw) (ap := ap) (cp := pos) ok (hot_of hh) hf g2 g3 h7 (sE o sc X W x ok h4).1 (sA cs sc X W args ok h5) (mt_base (o := o) h3) h2 h6 (fun q => by subst q; cases cs with | nil => rfl | cons _ _ => exact absurd h5 Bool.false_ne_true) (star_plain h5)
              (fun e r q => by
                subst q
                cases cs with
                | nil => exact absurd h5 Bool.false_ne_true
                | cons c cs =>
                  have h5 : (chkE S sc c e && chkEs S sc cs r) = true := h5
                  rw [Bool.and_eq_true] at h5
                  exact ⟨star_cons h5.1, star_plain h5.2⟩)
            exact ⟨p, t_plain ok p fun _ => rfl, bo_no rfl⟩
          · cases h8
        | _ => exact absurd h Bool.false_ne_true
      | cons _ _ => cases fn <;> exact absurd h Bool.false_ne_true
    | _ => exact absurd h Bool.false_ne_true
  | .make c i cs, sc, X, W, e, ok, h => by
    cases e with
    | Call fn args kws pos =>
      cases kws with
      | nil =>
        cases fn with
        | Name x p0 =>
          have h : (decide (x = S.ct.cn c) && glB sc x && okB x && chkEs S sc cs args && S.ct.mkb c && (match S.F[i]? with
            | some fc => decide (fc.name = ("__init__" : Str)) && decide (fc.cls = some c) && decide (cs.length + 1 = fc.np)
            | none => false) && S.hot.isNone) = true := h
          simp only [Bool.and_eq_true] at h
          obtain ⟨⟨⟨⟨⟨⟨h1, h2⟩, h3⟩, h4⟩, h5⟩, h8⟩, hh⟩ := h
          split at h8
          · rename_i fc hf
            simp only [Bool.and_eq_true, decide_eq_true_eq] at h8 h1
            obtain ⟨⟨g1, g2⟩, g3⟩ := h8
            subst h1
            have p := s_make (p := p0) (pos := pos) ok (hot_of hh) hf g2 g1 g3 h5 (gl_of ok h2) (okB_1 h3) (sA cs sc X W args ok h4) (fun q => by subst q; cases cs with | nil => rfl | cons _ _ => exact absurd h4 Bool.false_ne_true)
              (fun e r q => by
                subst q
                cases cs with
                | nil => exact absurd h4 Bool.false_ne_true
                | cons c cs =>
                  have h4 : (chkE S sc c e && chkEs S sc cs r) = true := h4
                  rw [Bool.and_eq_true] at h4
                  exact ⟨star_cons h4.1, star_plain h4.2⟩)
            exact ⟨p, t_plain ok p fun _ => rfl, bo_no rfl⟩
          · cases h8
        | _ => exact absurd h Bool.false_ne_true
      | cons _ _ => cases fn <;> exact absurd h Bool.false_ne_true
    | _ => exact absurd h Bool.false_ne_true
  | .comp mm a t it c own, sc, X, W, e, ok, h => by
    cases e with
    | ListComp x gs scope pos =>
      match gs, h with
      | [⟨tg, iter, ifs, .ofNat 0⟩], h =>
        have h : (blkC S.N sc scope (ownN S.N own) && chkI S sc it tg iter && chkT S.N scope t tg && t.inB own && chkC S (relS scope sc) c ifs && chkE S (relS scope sc) a x && S.hot.isNone) = true := h
        simp only [Bool.and_eq_true] at h
        obtain ⟨⟨⟨⟨⟨⟨h1, h2⟩, h3⟩, h4⟩, h5⟩, h6⟩, hh⟩ := h
        have hh := hot_of hh
        have hk := (blkOk_by h1).kind
        have p := s_comp (mm := mm) (pos := pos) ok hh (sI it sc X W tg iter ok h2) h1 h4
          (fun s H C cl fp => pgT (S := S) (X := X.blk s H scope (compEnvC scope cl C X.env) fp) (ok.calm hh) ok.hK ok.hN ok.nd (xi_of ok hh) (fun x hx => blk_loc hx ok.hsc) t tg h3)
          (fun s H C cl fp => sC c (relS scope sc) _ WN ifs (okX_blk ok hh hk) h5)
          (fun s H C cl fp => (sE a (relS scope sc) _ WN x (okX_blk ok hh hk) h6).1) (fold_of h2)
        exact ⟨p, t_plain ok p fun _ => rfl, bo_no rfl⟩
      | [], h => exact absurd h Bool.false_ne_true
      | [⟨_, _, _, .ofNat (_ + 1)⟩], h => exact absurd h Bool.false_ne_true
      | [⟨_, _, _, .negSucc _⟩], h => exact absurd h Bool.false_ne_true
      | ⟨_, _, _, .ofNat 0⟩ :: _ :: _, h => exact absurd h Bool.false_ne_true
      | ⟨_, _, _, .ofNat (_ + 1)⟩ :: _ :: _, h => exact absurd h Bool.false_ne_true
      | ⟨_, _, _, .negSucc _⟩ :: _ :: _, h => exact absurd h Bool.false_ne_true
    | _ => exact absurd h Bool.false_ne_true
  | .exF f, sc, X, W, e, ok, h => by
    cases e with
    | Attribute o nm pos =>
      cases o with
      | Name x p0 =>
        have h : (decide (nm = f) && excB S sc x && S.ct.xo.contains f) = true := h
        simp only [Bool.and_eq_true, decide_eq_true_eq] at h
        obtain ⟨⟨h1, h2⟩, h3⟩ := h
        subst h1
        have p := s_exF (W := W) (p := p0) (pos := pos) ok h2 h3
        exact ⟨p, t_plain ok p fun _ => rfl, bo_no rfl⟩
      | _ => exact absurd h Bool.false_ne_true
    | _ => exact absurd h Bool.false_ne_true
  | .kxF a f, sc, X, W, e, ok, h => by
    cases e with
    | Attribute o nm pos =>
      have h : (decide (nm = f) && chkE S sc a o && notSuper o && S.ct.xo.contains f && S.hot.isNone) = true := h
      simp only [Bool.and_eq_true, decide_eq_true_eq] at h
      obtain ⟨⟨⟨⟨h1, h2⟩, h3⟩, h4⟩, h5⟩ := h
      subst h1
      have p := s_kxF (pos := pos) ok (sE a sc X W o ok h2).1 h3 h4
      exact ⟨p, t_plain ok p fun _ => rfl, bo_no rfl⟩
    | _ => exact absurd h Bool.false_ne_true
  | .kxIs a tab, sc, X, W, e, ok, h => by
    cases e with
    | Call fn args kws pos =>
      cases kws with
      | nil =>
        cases fn with
        | Name g p0 =>
          match args, h with
          | [y, t], h =>
            have h : (fromB S sc g "isinstance" && chkE S sc a y && exIsB S sc tab t && S.hot.isNone) = true := h
            simp only [Bool.and_eq_true] at h
            obtain ⟨⟨⟨h1, h2⟩, h3⟩, h4⟩ := h
            obtain ⟨e1, hg, hm⟩ := fromB_of ok h1
            subst e1
            have p := s_kxIs (p := p0) (pos := pos) ok hg hm (sE a sc X W y ok h2).1 (fun r => star_cons h2) h3
            exact ⟨p, t_plain ok p fun _ => rfl, bo_no rfl⟩
          | [], h => exact absurd h Bool.false_ne_true
          | [_], h => exact absurd h Bool.false_ne_true
          | _ :: _ :: _ :: _, h => exact absurd h Bool.false_ne_true
        | _ => exact absurd h Bool.false_ne_true
      | cons _ _ => cases fn <;> first | exact absurd h Bool.false_ne_true | (rcases args with _ | ⟨_, _ | ⟨_, _ | ⟨_, _⟩⟩⟩ <;> exact absurd h Bool.false_ne_true)
    | _ => exact absurd h Bool.false_ne_true
  | .exIs tab, sc, X, W, e, ok, h => by
    cases e with
    | Call fn args kws pos =>
      cases kws with
      | nil =>
        cases fn with
        | Name g p0 =>
          match args, h with
          | [y, t], h =>
            cases y with
            | Name x p1 =>
              have h : (fromB S sc g "isinstance" && excB S sc x && exIsB S sc tab t) = true := h
              simp only [Bool.and_eq_true] at h
              obtain ⟨⟨h1, h2⟩, h3⟩ := h
              obtain ⟨e1, hg, hm⟩ := fromB_of ok h1
              subst e1
              have p := s_exIs (W := W) (p := p0) (p1 := p1) (pos := pos) ok hg hm h2 h3
              exact ⟨p, t_plain ok p fun _ => rfl, bo_no rfl⟩
            | _ =>
              have h : (fromB S sc g "isinstance" && false && exIsB S sc tab t) = true := h
              rw [Bool.and_false, Bool.false_and] at h
              cases h
          | [], h => exact absurd h Bool.false_ne_true
          | [_], h => exact absurd h Bool.false_ne_true
          | _ :: _ :: _ :: _, h => exact absurd h Bool.false_ne_true
        | _ => exact absurd h Bool.false_ne_true
      | cons _ _ => cases fn <;> first | exact absurd h Bool.false_ne_true | (rcases args with _ | ⟨_, _ | ⟨_, _ | ⟨_, _⟩⟩⟩ <;> exact absurd h Bool.false_ne_true)
    | _ => exact absurd h Bool.false_ne_true
  | .opn mm o cs, sc, X, W, e, ok, h => by
    have h : ((match opB S.toCk sc o e with
      | some xs => chkEs S sc cs xs
      | none => false) && S.hot.isNone) = true := h
    rw [Bool.and_eq_true] at h
    obtain ⟨h1, hh⟩ := h
    cases z : opB S.toCk sc o e with
    | none => rw [z] at h1; cases h1
    | some xs =>
      rw [z] at h1
      obtain ⟨p1, p2, p3⟩ := s_opn (mm := mm) ok (hot_of hh) z (sL cs sc X W xs ok h1)
      refine ⟨p1, t_plain ok p1 p2, fun b => ?_⟩
      cases e with
      | BoolOp b vs q => exact absurd rfl (p3 _ _ _)
      | _ => cases b
  | .dmt t o a b, sc, X, W, e, ok, h => by
    cases e with
    | Call fn args kws pos =>
      cases kws with
      | nil =>
        cases fn with
        | Attribute x nm ap =>
          match args, h with
          | [y, z], h =>
            have h : (decide (nm = t.name) && mtB ap pos x && chkE S sc o x && chkE S sc a y && chkE S sc b z) = true := h
            simp only [Bool.and_eq_true, decide_eq_true_eq] at h
            obtain ⟨⟨⟨⟨h1, h2⟩, h3⟩, h4⟩, h5⟩ := h
            subst h1
            have h2 : ((ap.endLine == pos.line) && notSuper x) = true := h2
            rw [Bool.and_eq_true] at h2
            have m2 := m2_of (X := X) (nm := t.name) (mt_base (o := o) h2.2) h2.1 (fun r => star_cons (es := r) h4) (fun r => star_cons (es := r) h5)
            have po := (sE o sc X W x ok h3).1
            have pa := (sE a sc X W y ok h4).1
            have pb := (sE b sc X W z ok h5).1
            cases t with
            | setd => exact ⟨s_setd ok po pa pb m2, t_plain ok (s_setd ok po pa pb m2) fun _ => rfl, bo_no rfl⟩
            | get2 => exact ⟨s_get2 ok po pa pb m2, t_plain ok (s_get2 ok po pa pb m2) fun _ => rfl, bo_no rfl⟩
          | [], h => exact absurd h Bool.false_ne_true
          | [_], h => exact absurd h Bool.false_ne_true
          | _ :: _ :: _ :: _, h => exact absurd h Bool.false_ne_true
        | _ => exact absurd h Bool.false_ne_true
      | cons _ _ => cases fn <;> first | exact absurd h Bool.false_ne_true | (rcases args with _ | ⟨_, _ | ⟨_, _ | ⟨_, _⟩⟩⟩ <;> exact absurd h Bool.false_ne_true)
    | _ => exact absurd h Bool.false_ne_true
  | .callK i raw pm cs, sc, X, W, e, ok, h => by
    cases e with
    | Call fn args kws pos =>
      cases fn with
      | Name x p0 =>
        cases args with
        | nil =>
          have h : ((match S.F[i]? with
            | some fc => decide (fc.name = x) && decide (pm.length = fc.np) && fc.cls.isNone
            | none => false) && glB sc x && okB x && kws.all (·.arg.isSome) && S.ct.kw.contains (i, kws.filterMap (·.arg), pm) && chkEs S sc cs (kws.map (·.value)) && S.hot.isNone) = true := h
          simp only [Bool.and_eq_true] at h
          obtain ⟨⟨⟨⟨⟨⟨h1, h2⟩, h3⟩, h4⟩, h5⟩, h6⟩, hh⟩ := h
          split at h1
          · rename_i fc hf
            simp only [Bool.and_eq_true, decide_eq_true_eq] at h1
            obtain ⟨⟨g1, g2⟩, g3⟩ := h1
            subst g1
            have p := s_callK (raw := raw) (p := p0) (pos := pos) ok (hot_of hh) hf (Option.isNone_iff_eq_none.mp g3) g2 (gl_of ok h2) (okB_1 h3) h4 h5 (sL cs sc X W _ ok h6)
            exact ⟨p, t_plain ok p fun _ => rfl, bo_no rfl⟩
          · cases h1
        | cons _ _ => exact absurd h Bool.false_ne_true
      | _ => cases args <;> exact absurd h Bool.false_ne_true
    | _ => exact absurd h Bool.false_ne_true
  | .lcomp2 mm a t it own c t1 it1 own1 c1, sc, X, W, e, ok, h => by
    cases e with
    | ListComp k gs scope pos =>
      match gs, h with
      | [⟨tg, iter, fa, na⟩, ⟨tg1, iter1, fb, nb⟩], h =>
        have h : (decide (na = 0 ∧ nb = 0) && (blkC S.N sc scope (ownN S.N own) && chkI S sc it tg iter && chkT S.N scope t tg && t.inB own && chkC S (relS scope sc) c fa && chkI S (relS scope sc) it1 tg1 iter1 && chkT S.N scope t1 tg1 && t1.inB own1 && own1.all (own.contains ·) && chkC S (relS scope sc) c1 fb && chkE S (relS scope sc) a k && S.hot.isNone)) = true := h
        simp only [Bool.and_eq_true, decide_eq_true_eq] at h
        obtain ⟨⟨e1, e2⟩, ⟨⟨⟨⟨⟨⟨⟨⟨⟨⟨h1, h2⟩, h3⟩, h4⟩, h4c⟩, h5⟩, h6⟩, h7⟩, h8⟩, h9⟩, h10⟩, hh⟩ := h
        subst e1 e2
        have hh := hot_of hh
        have kk := (blkOk_by h1).kind
        have p := s_lcomp2 (mm := mm) (pos := pos) ok hh (sI it sc X W tg iter ok h2) h1 h4 h7 h8
          (fun s H C cl fp => pgT (S := S) (X := X.blk s H scope (compEnvC scope cl C X.env) fp) (ok.calm hh) ok.hK ok.hN ok.nd (xi_of ok hh) (fun x hx => blk_loc hx ok.hsc) t tg h3)
          (fun s H C cl fp => sC c (relS scope sc) _ WN fa (okX_blk ok hh kk) h4c)
          (fun s H C cl fp => sI it1 (relS scope sc) _ WN tg1 iter1 (okX_blk ok hh kk) h5)
          (fun s H C cl fp => pgT (S := S) (X := X.blk s H scope (compEnvC scope cl C X.env) fp) (ok.calm hh) ok.hK ok.hN ok.nd (xi_of ok hh) (fun x hx => blk_loc hx ok.hsc) t1 tg1 h6)
          (fun s H C cl fp => sC c1 (relS scope sc) _ WN fb (okX_blk ok hh kk) h9)
          (fun s H C cl fp => (sE a (relS scope sc) _ WN k (okX_blk ok hh kk) h10).1) (fold_of h2) (fun env x => fold_of h5 x)
        exact ⟨p, t_plain ok p fun _ => rfl, bo_no rfl⟩
      | [], h => exact absurd h Bool.false_ne_true
      | [_], h => exact absurd h Bool.false_ne_true
      | _ :: _ :: _ :: _, h => exact absurd h Bool.false_ne_true
    | _ => exact absurd h Bool.false_ne_true
  | .dcomp2 mm ke ve t it own t1 it1 own1, sc, X, W, e, ok, h => by
    cases e with
    | DictComp k v gs scope pos =>
      match gs, h with
      | [⟨tg, iter, fa, na⟩, ⟨tg1, iter1, fb, nb⟩], h =>
        have h : (decide (fa = [] ∧ na = 0 ∧ fb = [] ∧ nb = 0) && (blkC S.N sc scope (ownN S.N own) && chkI S sc it tg iter && chkT S.N scope t tg && t.inB own && chkI S (relS scope sc) it1 tg1 iter1 && chkT S.N scope t1 tg1 && t1.inB own1 && own1.all (own.contains ·) && chkE S (relS scope sc) ke k && chkE S (relS scope sc) ve v && S.hot.isNone)) = true := h
        simp only [Bool.and_eq_true, decide_eq_true_eq] at h
        obtain ⟨⟨e1, e2, e3, e4⟩, ⟨⟨⟨⟨⟨⟨⟨⟨⟨h1, h2⟩, h3⟩, h4⟩, h5⟩, h6⟩, h7⟩, h8⟩, h9⟩, h10⟩, hh⟩ := h
        subst e1 e2 e3 e4
        have hh := hot_of hh
        have kk := (blkOk_by h1).kind
        have p := s_dcomp2 (mm := mm) (pos := pos) ok hh (sI it sc X W tg iter ok h2) h1 h4 h7 h8
          (fun s H C cl fp => pgT (S := S) (X := X.blk s H scope (compEnvC scope cl C X.env) fp) (ok.calm hh) ok.hK ok.hN ok.nd (xi_of ok hh) (fun x hx => blk_loc hx ok.hsc) t tg h3)
          (fun s H C cl fp => sI it1 (relS scope sc) _ WN tg1 iter1 (okX_blk ok hh kk) h5)
          (fun s H C cl fp => pgT (S := S) (X := X.blk s H scope (compEnvC scope cl C X.env) fp) (ok.calm hh) ok.hK ok.hN ok.nd (xi_of ok hh) (fun x hx => blk_loc hx ok.hsc) t1 tg1 h6)
          (fun s H C cl fp => (sE ke (relS scope sc) _ WN k (okX_blk ok hh kk) h9).1) (fun s H C cl fp => (sE ve (relS scope sc) _ WN v (okX_blk ok hh kk) h10).1) (fold_of h2) (fun env x => fold_of h5 x)
        exact ⟨p, t_plain ok p fun _ => rfl, bo_no rfl⟩
      | [], h => exact absurd h Bool.false_ne_true
      | [_], h => exact absurd h Bool.false_ne_true
      | _ :: _ :: _ :: _, h => exact absurd h Bool.false_ne_true
    | _ => exact absurd h Bool.false_ne_true
  | .bad, sc, X, W, e, ok, h => ⟨⟨fun pins s σ H Q I ⟨env, h, m, st, p⟩ => p.elim⟩, ⟨fun pins s σ H Q I ⟨env, h, m, st, p⟩ => p.elim⟩, fun _ => ⟨fun whole pins s σ H Q I ⟨env, h, m, st, p⟩ => p.elim⟩⟩
theorem sL {S : St0} : ∀ (cs : List Ec) (sc : Scope) (X : Cx) (W : WX) (es : List Expr), OkX X S sc W → chkEs S sc cs es = true → PEs X S W cs es
  | [], sc, X, W, es, ok, h => by
    cases es with
    | nil => exact .nil
    | cons _ _ => exact absurd h Bool.false_ne_true
  | c :: cs, sc, X, W, es, ok, h => by
    cases es with
    | nil => exact absurd h Bool.false_ne_true
    | cons e es =>
      have h : (chkE S sc c e && chkEs S sc cs es) = true := h
      rw [Bool.and_eq_true] at h
      exact .cons (sE c sc X W e ok h.1).1 (fun r => star_cons (es := r) h.1) (sL cs sc X W es ok h.2)
theorem sA {S : St0} : ∀ (cs : List Ec) (sc : Scope) (X : Cx) (W : WX) (es : List Expr), OkX X S sc W → chkEs S sc cs es = true → PA X es (TAc S W cs)
  | [], sc, X, W, es, ok, h => by
    cases es with
    | nil => exact s_args_nil
    | cons _ _ => exact absurd h Bool.false_ne_true
  | c :: cs, sc, X, W, es, ok, h => by
    cases es with
    | nil => exact absurd h Bool.false_ne_true
    | cons e es =>
      have h : (chkE S sc c e && chkEs S sc cs es) = true := h
      rw [Bool.and_eq_true] at h
      exact s_args_cons (sE c sc X W e ok h.1).1 (sA cs sc X W es ok h.2) (star_cons h.1)
theorem sO {S : St0} : ∀ (c : Option Ec) (sc : Scope) (X : Cx) (W : WX) (e : Option Expr), OkX X S sc W → chkO S sc c e = true → PO X e (TOc S W c)
  | none, sc, X, W, e, ok, h => by
    cases e with
    | none => exact s_part_none
    | some _ => exact absurd h Bool.false_ne_true
  | some c, sc, X, W, e, ok, h => by
    cases e with
    | none => exact absurd h Bool.false_ne_true
    | some e => exact s_part_some (sE c sc X W e ok h).1
theorem sC {S : St0} : ∀ (c : Option Ec) (sc : Scope) (X : Cx) (W : WX) (es : List Expr), OkX X S sc W → chkC S sc c es = true → PTs X es (TCc S W c)
  | none, sc, X, W, es, ok, h => by
    cases es with
    | nil => exact s_if_none
    | cons _ _ => exact absurd h Bool.false_ne_true
  | some c, sc, X, W, es, ok, h => by
    match es, h with
    | [e], h => exact s_if_some (sE c sc X W e ok h).2.1
    | [], h => exact absurd h Bool.false_ne_true
    | _ :: _ :: _, h => exact absurd h Bool.false_ne_true
theorem sI {S : St0} : ∀ (it : Ic) (sc : Scope) (X : Cx) (W : WX) (tg e : Expr), OkX X S sc W → chkI S sc it tg e = true → PI X tg e (TIc S W it)
  | .seq a, sc, X, W, tg, e, ok, h => s_seq ok (sE a sc X W e ok h).1
  | .rng1 a, sc, X, W, tg, e, ok, h => by
    cases e with
    | Call fn args kws pos =>
      cases fn with
      | Name x p0 =>
        match args, kws, h with
        | [y], [], h =>
          have h : (fromB S sc x "range" && chkE S sc a y) = true := h
          rw [Bool.and_eq_true] at h
          obtain ⟨e1, hg, hm⟩ := fromB_of ok h.1
          subst e1
          exact s_rng1 hg hm (sE a sc X W y ok h.2).1 fun _ => star_cons h.2
        | [], _, h => exact absurd h Bool.false_ne_true
        | [_], _ :: _, h => exact absurd h Bool.false_ne_true
        | _ :: _ :: _, _, h => exact absurd h Bool.false_ne_true
      | _ => exact absurd h Bool.false_ne_true
    | _ => exact absurd h Bool.false_ne_true
  | .rng2 a b, sc, X, W, tg, e, ok, h => by
    cases e with
    | Call fn args kws pos =>
      cases fn with
      | Name x p0 =>
        match args, kws, h with
        | [y, z], [], h =>
          have h : (fromB S sc x "range" && chkE S sc a y && chkE S sc b z) = true := h
          rw [Bool.and_eq_true, Bool.and_eq_true] at h
          obtain ⟨e1, hg, hm⟩ := fromB_of ok h.1.1
          subst e1
          exact s_rng2 hg hm (sE a sc X W y ok h.1.2).1 (sE b sc X W z ok h.2).1 (fun _ => star_cons h.1.2) fun _ => star_cons h.2
        | [], _, h => exact absurd h Bool.false_ne_true
        | [_], _, h => exact absurd h Bool.false_ne_true
        | [_, _], _ :: _, h => exact absurd h Bool.false_ne_true
        | _ :: _ :: _ :: _, _, h => exact absurd h Bool.false_ne_true
      | _ => exact absurd h Bool.false_ne_true
    | _ => exact absurd h Bool.false_ne_true
  | .zip a b, sc, X, W, tg, e, ok, h => by
    cases e with
    | Call fn args kws pos =>
      cases fn with
      | Name x p0 =>
        match args, kws, h with
        | [y, z], [], h =>
          have h : (fromB S sc x "zip" && chkE S sc a y && chkE S sc b z && isTup tg) = true := h
          rw [Bool.and_eq_true, Bool.and_eq_true, Bool.and_eq_true] at h
          obtain ⟨e1, hg, hm⟩ := fromB_of ok h.1.1.1
          subst e1
          cases tg with
          | Tuple elts kk tpos => exact s_zip ok hg hm (sE a sc X W y ok h.1.1.2).1 (sE b sc X W z ok h.1.2).1 (fun _ => star_cons h.1.1.2) fun _ => star_cons h.1.2
          | _ => exact absurd h.2 Bool.false_ne_true
        | [], _, h => exact absurd h Bool.false_ne_true
        | [_], _, h => exact absurd h Bool.false_ne_true
        | [_, _], _ :: _, h => exact absurd h Bool.false_ne_true
        | _ :: _ :: _ :: _, _, h => exact absurd h Bool.false_ne_true
      | _ => exact absurd h Bool.false_ne_true
    | _ => exact absurd h Bool.false_ne_true
  | .enum a, sc, X, W, tg, e, ok, h => by
    cases e with
    | Call fn args kws pos =>
      cases fn with
      | Name x p0 =>
        match args, kws, h with
        | [y], [], h =>
          have h : (fromB S sc x "enumerate" && chkE S sc a y && isTup tg) = true := h
          rw [Bool.and_eq_true, Bool.and_eq_true] at h
          obtain ⟨e1, hg, hm⟩ := fromB_of ok h.1.1
          subst e1
          cases tg with
          | Tuple elts kk tpos => exact s_enum ok hg hm (sE a sc X W y ok h.1.2).1 fun _ => star_cons h.1.2
          | _ => exact absurd h.2 Bool.false_ne_true
        | [], _, h => exact absurd h Bool.false_ne_true
        | [_], _ :: _, h => exact absurd h Bool.false_ne_true
        | _ :: _ :: _, _, h => exact absurd h Bool.false_ne_true
      | _ => exact absurd h Bool.false_ne_true
    | _ => exact absurd h Bool.false_ne_true
  | .rev a, sc, X, W, tg, e, ok, h => by
    cases e with
    | Call fn args kws pos =>
      cases fn with
      | Name x p0 =>
        match args, kws, h with
        | [y], [], h =>
          have h : (fromB S sc x "reversed" && chkE S sc a y) = true := h
          rw [Bool.and_eq_true] at h
          obtain ⟨e1, hg, hm⟩ := fromB_of ok h.1
          subst e1
          exact s_rev ok hg hm (sE a sc X W y ok h.2).1 fun _ => star_cons h.2
        | [], _, h => exact absurd h Bool.false_ne_true
        | [_], _ :: _, h => exact absurd h Bool.false_ne_true
        | _ :: _ :: _, _, h => exact absurd h Bool.false_ne_true
      | _ => exact absurd h Bool.false_ne_true
    | _ => exact absurd h Bool.false_ne_true
end
end Hr
set_option maxHeartbeats 4000000
/-! raise C(e): C's own __init__ lays e at one field. -/
namespace Hr
open PySem PySem.Spec PyProof.Rows L2
/-- what such an __init__ keeps -/
def spI (C : Addr) (f : Str) : Sp := fun vs H Q E => ∃ (a : Addr) (v : V), vs = [.ref a, v] ∧ H a = some (exo a C none) ∧ ∀ dx, H dx = none → dx ≠ a → Q .non (upd (upd H dx (exd dx [(f, v)])) a (exo a C (some dx)))
structure X1Ok (X : Cx) (CX : CXT) (k : Nat) (C : Addr) (f : Str) : Prop where
  cls : OexC X.K C
  ini : ∃ (fI : Addr) (fd : FuncData) (ps : List Str), PySem.W.findIn X.K (.ref C) "__init__" = some (some (.ref fI)) ∧ PySem.W.typeIn X.K (.ref fI) = some (.type "function") ∧ FnG X.prog X.w X.K X.mg X.base CX k fI fd ps (spI C f) ∧ Binds X.K fd ps []
def tMk1 (C : Addr) (f : Str) (t : TE) : L2.St → Hp → XK → Prop := fun σ H Q => t σ H fun x H1 => ∃ v, [x] = [v] ∧ ∀ dx, H1 dx = none → Q (.ref C) (some dx) (upd H1 dx (.xd [(f, v)]))
theorem upd_mk {H : Hp} {a d : Addr} {o1 o2 o3 o4 : HO} (ne : d ≠ a) (ha : H a = none) : upd (del (upd (upd (upd H a o1) d o2) a o3) a) d o4 = upd H d o4 := by
  funext b
  by_cases hb : b = d
  · subst hb; rw [upd_same, upd_same]
  · rw [upd_ne hb, upd_ne hb]
    by_cases hba : b = a
    · subst hba; rw [del_same, ha]
    · rw [del_ne hba, upd_ne hba, upd_ne hb, upd_ne hba]
theorem pmk_x1 {X : Cx} {CX : CXT} {k : Nat} {C : Addr} {f x : Str} {e : Expr} {t : TE} {p pos : Pos} (O : X1Ok X CX k C f) (hr : Room (k + 1) X.A) (hgd : X.A.guards = some []) (hv : ∀ outer H s e s', ¬ CX outer H s (fun _ _ _ => False) e s') (hg : Gl X x) (hm : X.mg x = some (.ref C)) (ha : PE X e t)
    (hdb : (x == ("__debug__" : Str)) = false) (he : starEach [e] X.env = (false, eval e X.env) :: starEach [] X.env) : L2N.PMk X (.Call (.Name x p) [e] [] pos) (tMk1 C f t) := by
  intro pins s σ H Q I h
  have T := O.cls
  obtain ⟨fI, fd, ps, iC, tI, F1, hb⟩ := O.ini
  obtain ⟨nm, q, N, bs, bm, sn, sub, ab, col, dd, k0, k1, k2, k3, k5, hC, hbm⟩ := T.cls
  refine wpAny_Call_Name_kw (ld_glob I hg hm ?_ hdb)
  have hA : PA X [e] (tCons t tNil) := pa_cons ha pa_nil he
  have h' : tCons t tNil σ H fun vs H1 => ∃ v, vs = [v] ∧ ∀ dx, H1 dx = none → Q (.ref C) (some dx) (upd H1 dx (.xd [(f, v)])) := h
  refine PySem.W.callWith_K (h₀ := X.base) I.ok.mod.kin T.kC (thn (hA.run pos pins s σ H _ I h') fun us s1 ⟨vs, H1, I1, r1, q1⟩ => ⟨I1.kIn, ?_⟩) he rfl
  obtain ⟨v, ev, q1⟩ := q1
  subst ev
  show wpAny _ _ (call (.ref C) us) _ _ _
  obtain ⟨hp, g, dr, tk, os⟩ := s1
  have hsz : hp.objs.size ≤ hp.objs.size + 1 := Nat.le_succ _
  have hn : H1 (hp.objs.size + 1) = none := I1.hok.fresh hsz
  have kk : ∀ b o, hp.get? b = some o → ((hp.push (PySem.W.kdv_tup us)).push (PySem.HandSPX.excO C hp.objs.size)).get? b = some o := fun b o e => Heap.get?_push_of_some _ (Heap.get?_push_of_some _ e)
  have hget : ((hp.push (PySem.W.kdv_tup us)).push (PySem.HandSPX.excO C hp.objs.size)).get? (hp.objs.size + 1) = some (PySem.HandSPX.excO C hp.objs.size) := by heap_get
  have I2 : Inv X pins σ (upd H1 (hp.objs.size + 1) (exo (hp.objs.size + 1) C none)) ⟨(hp.push (PySem.W.kdv_tup us)).push (PySem.HandSPX.excO C hp.objs.size), g, dr, tk, os⟩ :=
    I1.laid (t' := tk) (a := hp.objs.size + 1) (o := exo (hp.objs.size + 1) C none) (h' := (hp.push (PySem.W.kdv_tup us)).push (PySem.HandSPX.excO C hp.objs.size)) kk hsz (exo_ok hget)
  have r2 : Vals [V.ref (hp.objs.size + 1), v] (Value.ref (hp.objs.size + 1) :: us) := .cons rfl r1
  have hq : spI C f [V.ref (hp.objs.size + 1), v] (upd H1 (hp.objs.size + 1) (exo (hp.objs.size + 1) C none)) (fun v2 H2 => v2 = .non ∧ ∃ (d : Addr) (fs : List (Str × V)), H2 (hp.objs.size + 1) = some (exo (hp.objs.size + 1) C (some d)) ∧ H2 d = some (exd d fs) ∧ H1 d = none ∧ Q (.ref C) (some d) (upd (del H2 (hp.objs.size + 1)) d (.xd fs))) (fun _ _ _ => False) := by
    refine ⟨_, v, rfl, upd_same, fun dx hdx ne => ⟨rfl, dx, [(f, v)], upd_same, by rw [upd_ne ne, upd_same], by rw [upd_ne ne] at hdx; exact hdx, ?_⟩⟩
    rw [upd_mk ne hn]
    exact q1 dx (by rw [upd_ne ne] at hdx; exact hdx)
  have hl : (Value.ref (hp.objs.size + 1) :: us).length = ps.length := by
    have e := r2.length
    rw [F1.len _ _ _ _ hq] at e
    exact e.symm
  have hus : us.length ≤ sizeLine := by
    have e := r1.length
    rw [← e, sizeLine_eq]
    exact Nat.le_trans (Nat.le_refl 1) (by omega)
  have hbi := hb ⟨(hp.push (PySem.W.kdv_tup us)).push (PySem.HandSPX.excO C hp.objs.size), g, dr, tk, os⟩ (Value.ref (hp.objs.size + 1) :: us) I2.kIn (by rw [List.append_nil]; exact hl)
  rw [List.append_nil] at hbi
  refine wpAny_call (PySem.HandSPX.call_own F.excBase_ValueError (fun Y => PySem.HandSPX.refsVE_contains Y bm hbm) (I1.kIn _ _ hC) (PySem.W.looks_findIn I1.kIn iC) (fun self => PySem.W.bind_fn I1.kIn self tI) hus
    (codeAny_mono (F1.run _ X.stack _ _ ⟨Value.ref (hp.objs.size + 1) :: us, []⟩ (Value.ref (hp.objs.size + 1) :: us) _ _ (fun _ _ _ => False) (hr.make C us []) hgd (I2.env0.make C us []) hbi r2 hq) fun r s' hq' => ?_))
  match r, hq' with
  | .error er, hq' => exact (hv _ _ _ _ _ hq').elim
  | .ok (.ret u), hq' =>
    obtain ⟨v2, H2, os2, bare2, un2, hok2, rv, ev, d, fs, ea, ed, hd1, q2⟩ := hq'
    subst ev
    obtain ⟨h2, g2, d2, t2, os'⟩ := s'
    obtain ⟨t0, G, J, kG, ge, hoe, na⟩ := mk_end0 (d2 := d2) (t2 := t2) I1 hsz kk un2 hok2 os2 bare2 ea ed hd1
    exact ⟨rv, hp.objs.size + 1, _, _, ⟨G, g2, d2, t2, os'⟩, _, .ref C, some d, rfl, J, kG, ge, hoe, ⟨rfl, rfl, fun vs e => by cases e; rfl⟩, rfl, rfl, na, rfl, bare2, raises_own T.exC T.tyC, q2⟩
end Hr
set_option maxHeartbeats 4000000
/-! Statements. -/
namespace Hr
open PySem PySem.Spec PyProof.Rows L2
/-! ### the check -/
def isLC : Expr → Option (Scope × Pos)
  | .ListComp _ _ s p => some (s, p)
  | _ => none
def swapB (sc : Scope) (v : Expr) (y : Str) (py : Pos) : Bool := match v with
  | .ListComp _ _ s p => decide (sc.names.lookup y = some .local) && (py.line == p.line) && !(s.names.any fun (n, k) => n == y && (k == .local || k == .cell))
  | _ => false
def isComp : Expr → Bool
  | .ListComp .. => true
  | .SetComp .. => true
  | .DictComp .. => true
  | _ => false
def isDc : Expr → Bool
  | .DictComp .. => true
  | _ => false
/-- a value that is stored: no dict comprehension -/
def chkV (S : Ck) (sc : Scope) (e : Ec) (v : Expr) : Bool := chkE S sc e v && !isDc v
def loc1 (sc : Scope) (x : Str) : Bool := match sc.names.lookup x with
  | some .local => true
  | _ => false
/-- K = e: K, e -/
def keepH : Stmt → Option (Str × Str)
  | .Assign [.Name y _] (.Name z _) _ => some (y, z)
  | _ => none
def keepB (S : Ck) (sc : Scope) (n : Str) (k : Nat) : Option (Str × Str) → Bool
  | some (y, z) => decide (z = n) && okB n && decide (S.N[k]? = some y) && loc1 sc y
  | none => false
theorem keepH_of {s : Stmt} {y z : Str} (h : keepH s = some (y, z)) : ∃ py pz pa, s = .Assign [.Name y py] (.Name z pz) pa := by
  unfold keepH at h
  split at h
  · cases h
    exact ⟨_, _, _, rfl⟩
  · cases h
mutual
def chkS (S : Ck) (sc : Scope) : Sc → Stmt → Bool
  | .set i e, s => match s with
    | .Assign [.Name x px] v pos => decide (S.N[i]? = some x) && locB sc x && chkV S sc e v && decide (S.hot ≠ some i)
    | _ => false
  | .unp t e, s => match s with
    | .Assign [.Tuple es k p] v pos => chkT S.N sc t (.Tuple es k p) && chkE S sc e v && !isTup v && S.hot.isNone
    | _ => false
  | .par i j a b, s => match s with
    | .Assign [.Tuple [.Name x px, .Name y py] kt pt] (.Tuple [v, w] k2 pt2) pos => decide (S.N[i]? = some x) && decide (S.N[j]? = some y) && !decide (i = j) && loc1 sc x && loc1 sc y && (py.line == px.line) && !decide (y = x) && chkE S sc a v && chkE S sc b w && !([v, w].all (foldedForSure 8)) && !([v, w].all (constantsAlone 8)) && S.hot.isNone
    | _ => false
  | .setIx a i e, s => match s with
    | .Assign [.Subscript o k p] v pos => chkE S sc a o && chkE S sc i k && notSlice k && chkV S sc e v
    | _ => false
  | .aug i o e, s => match s with
    | .AugAssign (.Name x px) op v pos => decide (S.N[i]? = some x) && locB sc x && decide (o = op) && augOp o && chkE S sc e v && decide (S.hot ≠ some i)
    | _ => false
  | .augIx a i o e, s => match s with
    | .AugAssign (.Subscript x k p) op v pos => chkE S sc a x && chkE S sc i k && notSlice k && decide (o = op) && augOp o && chkE S sc e v
    | _ => false
  | .ex e, s => match s with
    | .Expr v pos => chkE S sc e v && !isComp v
    | _ => false
  | .ret e, s => match s with
    | .Return (some v) pos => chkE S sc e v
    | _ => false
  | .ret0, s => match s with
    | .Return none pos => true
    | _ => false
  | .pass, s => match s with
    | .Pass pos => true
    | _ => false
  | .brk, s => match s with
    | .Break pos => true
    | _ => false
  | .cont, s => match s with
    | .Continue pos => true
    | _ => false
  | .ite c a b, s => match s with
    | .If t x y pos => chkE S sc c t && chkSs S sc a x && chkSs S sc b y
    | _ => false
  | .whl c b, s => match s with
    | .While t x [] pos => chkE S sc c t && chkSs S sc b x && S.hot.isNone
    | _ => false
  | .for_ it t b, s => match s with
    | .For tg iter x [] pos => chkI S sc it tg iter && chkT S.N sc t tg && chkSs S sc b x && S.hot.isNone
    | _ => false
  | .setF c a f e, s => match s with
    | .Assign [.Attribute o nm p] v pos => decide (nm = f) && chkE S sc a o && chkE S sc e v && !isComp v && decide (c < S.ct.nc) && (S.ct.na c).contains f
    | _ => false
  | .raise_, _ => true
  | .raise0 _, _ => false
  | .raise1 c f e, s => match s with
    | .Raise (some (.Call (.Name x p) [y] [] pc)) none pos => S.hot.isNone && decide (S.ct.xn[c]? = some x) && decide (S.ct.x1 c = some f) && glB sc x && okB x && chkE S sc e y
    | _ => false
  | .tryx c i b u, s => match s with
    | .Try body [.ExceptHandler (some (.Name x p)) (some n) (s0 :: su) ph] [] [] pos => S.hot.isNone && decide (S.ct.xn[c]? = some x) && glB sc x && okB x && decide (S.N[i]? = some n) && loc1 sc n && chkSs S sc b body && chkSs { S with hot := some i } sc u (s0 :: su)
    | _ => false
  | .keepx c i k b, s => match s with
    | .Try body [.ExceptHandler (some (.Name x p)) (some n) (s0 :: su) ph] [] [] pos => S.hot.isNone && decide (S.ct.xn[c]? = some x) && glB sc x && okB x && decide (S.N[i]? = some n) && loc1 sc n && chkSs S sc b body && keepB S sc n k (keepH s0) && su.isEmpty
    | _ => false
def chkSs (S : Ck) (sc : Scope) : List Sc → List Stmt → Bool
  | [], ss => ss.isEmpty
  | c :: cs, ss => match ss with
    | s :: ss => chkS S sc c s && chkSs S sc cs ss
    | [] => false
end
/-! ### what is wanted behind a statement -/
def PostS (T : Tb) (N : Nat) (m : Gh) (H : Hp) (D : Ends) (W : WX) : So → Prop
  | .no => False
  | .nx env h => ∀ m' H' σ', Ext N m H h.length m' H' → Sta T m' h H' σ' env → D.nx σ' H'
  | .bk env h => ∀ m' H' σ', Ext N m H h.length m' H' → Sta T m' h H' σ' env → D.bk σ' H'
  | .ct env h => ∀ m' H' σ', Ext N m H h.length m' H' → Sta T m' h H' σ' env → D.ct σ' H'
  | .rt d h => ∀ m' H' v, Ext N m H h.length m' H' → HR T m' H' h → RepV T h.length m' H' d v → D.rt v H'
  | .ex x env h => ∀ m' H' c d σ', Ext N m H h.length m' H' → Sta T m' h H' σ' env → RepX T h.length m' H' x c d → W c d σ' H'
section
variable {T : Tb} {N N' : Nat} {m m' : Gh} {H H' : Hp} {h : Hv} {De : Ends} {W : WX}
theorem PostS.ext : ∀ {r : So}, PostS T N m H De W r → Ext N m H N' m' H' → PostS T N' m' H' De W r
  | .no, p, _ => p
  | .nx env h, p, x => fun m2 H2 s2 e => p m2 H2 s2 (x.trans e)
  | .bk env h, p, x => fun m2 H2 s2 e => p m2 H2 s2 (x.trans e)
  | .ct env h, p, x => fun m2 H2 s2 e => p m2 H2 s2 (x.trans e)
  | .rt d h, p, x => fun m2 H2 s2 e => p m2 H2 s2 (x.trans e)
  | .ex y env h, p, x => fun m2 H2 c d s2 e => p m2 H2 c d s2 (x.trans e)
theorem PostS.split {α β : Type} {Ra : Nat → Gh → Hp → α → β → Prop} {Q1 : β → Hp → Prop} {r : Rs α} {f : α → Hv → So} {σ : L2.St} {env : En} (st : Sta T m h H σ env) (p : PostS T h.length m H De W (r.toS env f))
    (k : ∀ a h1 m1 H1 b, Ext h.length m H h1.length m1 H1 → HR T m1 H1 h1 → Ra h1.length m1 H1 a b → PostS T h1.length m1 H1 De W (f a h1) → Q1 b H1) : Post T h.length m H Ra Q1 (fun c d H' => W c d σ H') r := by
  cases r with
  | no => exact p
  | ok a h1 => exact fun m1 H1 b x hr ra => k a h1 m1 H1 b x hr ra (PostS.ext (r := f a h1) p x)
  | ex y h1 => exact fun m1 H1 c d x hr rx => p m1 H1 c d σ x (st.next x hr) rx
theorem PostS.now {σ : L2.St} {env : En} (p : PostS T h.length m H De W (.nx env h)) (st : Sta T m h H σ env) : De.nx σ H := p m H σ .refl st
end
def TSc (S : St0) (W : WX) (c : Sc) : TS := fun D σ H => ∃ env h m, Sta S.T m h H σ env ∧ PostS S.T h.length m H D W (exec S.C c env h)
def TSs (S : St0) (W : WX) (cs : List Sc) : TS := fun D σ H => ∃ env h m, Sta S.T m h H σ env ∧ PostS S.T h.length m H D W (execs S.C cs env h)
theorem _root_.L2.PS.impH {X : Cx} {e : Stmt} {t u : TS} (p : PS X e t) (h : ∀ D σ H, u D σ H → t D σ H) : PS X e u := ⟨fun pins s σ H D I q => p.run pins s σ H D I (h D σ H q)⟩
theorem _root_.L2.PSs.impH {X : Cx} {e : List Stmt} {t u : TS} (p : PSs X e t) (h : ∀ D σ H, u D σ H → t D σ H) : PSs X e u := ⟨fun pins s σ H D I q => p.run pins s σ H D I (h D σ H q)⟩
structure OkS (X : Cx) (S : St0) (sc : Scope) (W : WX) : Prop extends OkX X S sc W where
  fn : ∀ x, X.fn x = true
  hcx : S.CX = L2N.CX X.prog X.w
  hs : X.stack = X.env :: X.outer
  hf : X.env.frame = some X.env.locals
  own : S.hot = none → PassesOwn (model X.prog X.w) X.A X.env X.xe
  tk : S.hot = none → L2N.Takes X W
  xi1 : S.hot = none → ∀ c f, S.ct.x1 c = some f → X1Ok X S.CX (2 * S.k + 1) (S.T.xc c) f
section
variable {S : St0} {X : Cx} {sc : Scope} {W : WX}
theorem k_nil : PSs X [] (TSs S W []) := pss_nil.impH fun D σ H ⟨env, h, m, st, p⟩ => PostS.now p st
theorem k_cons {c : Sc} {cs : List Sc} {s : Stmt} {ss : List Stmt} (h1 : PS X s (TSc S W c)) (h2 : PSs X ss (TSs S W cs)) : PSs X (s :: ss) (TSs S W (c :: cs)) := by
  refine (pss_cons h1 h2).impH fun D σ H ⟨env, h, m, st, p⟩ => ⟨env, h, m, st, ?_⟩
  have p : PostS S.T h.length m H D W (match exec S.C c env h with
    | .nx env h => execs S.C cs env h
    | r => r) := p
  cases z : exec S.C c env h with
  | nx env1 h1 =>
    rw [z] at p
    exact fun m1 H1 σ1 x st1 => ⟨env1, h1, m1, st1, PostS.ext p x⟩
  | no => rw [z] at p; exact p
  | rt d h1 => rw [z] at p; exact p
  | bk _ h1 => rw [z] at p; exact p
  | ct _ h1 => rw [z] at p; exact p
  | ex _ _ h1 => rw [z] at p; exact p
theorem sw_false {v : Expr} {l : Nat} {env : Env} {tg : Option Expr} (h : isComp v = false) : swapsWith v tg l env = pure false := by
  cases v <;> first | rfl | exact absurd h.symm Bool.false_ne_true
theorem chkV_E {sc : Scope} {e : Ec} {v : Expr} (h : chkV S sc e v = true) : chkE S sc e v = true := by
  have h : (chkE S sc e v && !isDc v) = true := h
  rw [Bool.and_eq_true] at h
  exact h.1
theorem chk_comp {sc : Scope} {c : Ec} {v : Expr} (h0 : chkV S sc c v = true) : isComp v = false ∨ (∃ x t i f s p, v = .ListComp x [⟨t, i, f, 0⟩] s p ∧ ∃ mm a tc it cc own, c = .comp mm a tc it cc own) ∨
    ∃ x t i f t1 i1 f1 s p, v = .ListComp x [⟨t, i, f, 0⟩, ⟨t1, i1, f1, 0⟩] s p ∧ ∃ mm a tc it own cc tc1 it1 own1 cc1, c = .lcomp2 mm a tc it own cc tc1 it1 own1 cc1 := by
  have h := chkV_E h0
  cases v with
  | ListComp x gs s p =>
    cases c with
    | comp mm a tc it cc own =>
      match gs, h with
      | [⟨tg, iter, ifs, .ofNat 0⟩], h => exact .inr (.inl ⟨x, tg, iter, ifs, s, p, rfl, mm, a, tc, it, cc, own, rfl⟩)
      | [], h => exact absurd h Bool.false_ne_true
      | [⟨_, _, _, .ofNat (_ + 1)⟩], h => exact absurd h Bool.false_ne_true
      | [⟨_, _, _, .negSucc _⟩], h => exact absurd h Bool.false_ne_true
      | ⟨_, _, _, .ofNat 0⟩ :: _ :: _, h => exact absurd h Bool.false_ne_true
      | ⟨_, _, _, .ofNat (_ + 1)⟩ :: _ :: _, h => exact absurd h Bool.false_ne_true
      | ⟨_, _, _, .negSucc _⟩ :: _ :: _, h => exact absurd h Bool.false_ne_true
    | lcomp2 mm a tc it own cc tc1 it1 own1 cc1 =>
      match gs, h with
      | [⟨t, i, f, na⟩, ⟨t1, i1, f1, nb⟩], h =>
        have h : (decide (na = 0 ∧ nb = 0) && _) = true := h
        rw [Bool.and_eq_true, decide_eq_true_eq] at h
        obtain ⟨⟨e1, e2⟩, _⟩ := h
        subst e1 e2
        exact .inr (.inr ⟨x, t, i, f, t1, i1, f1, s, p, rfl, mm, a, tc, it, own, cc, tc1, it1, own1, cc1, rfl⟩)
      | [], h => exact absurd h Bool.false_ne_true
      | [_], h => exact absurd h Bool.false_ne_true
      | _ :: _ :: _ :: _, h => exact absurd h Bool.false_ne_true
    | _ => exact absurd h Bool.false_ne_true
  | SetComp => cases c <;> exact absurd h Bool.false_ne_true
  | DictComp =>
    have h0 : (chkE S sc c _ && false) = true := h0
    rw [Bool.and_false] at h0
    cases h0
  | _ => exact .inl rfl
theorem set_of {i : Nat} {e : Ec} {D : Ends} {σ : L2.St} {H : Hp} (hn : ∀ x, S.T.xi = some x → i ≠ x.i) (q : TSc S W (.set i e) D σ H) : tAsg (TEc S W e) (gName i) D σ H := by
  obtain ⟨env, h, m, st, p⟩ := q
  exact ⟨env, h, m, st, PostS.split (f := fun d h => .nx (env.set i (some d)) h) st p fun d h1 m1 H1 v x hr r p1 => PostS.now p1 ((st.next x hr).set r hn)⟩
theorem k_set {i : Nat} {e : Ec} {x : Str} {px pos : Pos} {v : Expr} (ok : OkS X S sc W) (hi : S.N[i]? = some x) (hx : L2.Loc sc x) (hv : chkV S sc e v = true) (hn : S.hot ≠ some i) : PS X (.Assign [.Name x px] v pos) (TSc S W (.set i e)) := by
  have hi' : X.N[i]? = some x := by rw [ok.hN]; exact hi
  have hx' : L2.Loc X.env.scope x := by rw [ok.hsc]; exact hx
  have pv := (sE e sc X W v ok.toOkX (chkV_E hv)).1
  have hn : ∀ x, S.T.xi = some x → i ≠ x.i := fun x hx z => hn (by rw [(ok.hx x hx).1, z])
  have plain : swapsWith v (some (.Name x px)) pos.line X.env = pure false → PS X (.Assign [.Name x px] v pos) (TSc S W (.set i e)) := fun hs =>
    (ps_set ok.nd hi' hx' pv hs (.inl (ok.fn x))).impH fun D σ H q => set_of hn q
  rcases chk_comp hv with c | ⟨y, t, it, f, s, p, e1, mm, a, tc, itc, cc, own, e2⟩ | ⟨y, t, it, f, t1, it1, f1, s, p, e1, mm, a, tc, itc, own, cc, tc1, itc1, own1, cc1, e2⟩
  · exact plain (sw_false c)
  · subst e1 e2
    have kb : X.env.blockKind = .function := by
      unfold Env.blockKind
      rw [show X.env.scope.kind = .function from by rw [ok.hsc]; exact ok.kind]
      rfl
    have sw : swapsWith (.ListComp y [⟨t, it, f, 0⟩] s p) (some (.Name x px)) pos.line X.env = pure (X.env.blockKind == .function && X.env.kindOf x == some .local && px.line == p.line && !(s.names.any fun (n, k) => n == x && (k == .local || k == .cell))) := rfl
    cases b : (X.env.blockKind == .function && X.env.kindOf x == some .local && px.line == p.line && !(s.names.any fun (n, k) => n == x && (k == .local || k == .cell))) with
    | false => exact plain (by rw [sw, b])
    | true =>
      have hb := b
      simp only [Bool.and_eq_true] at hb
      have hl : X.env.scope.names.lookup x = some .local := eq_of_beq hb.1.1.2
      have h : (blkC S.N sc s (ownN S.N own) && chkI S sc itc t it && chkT S.N s tc t && tc.inB own && chkC S (relS s sc) cc f && chkE S (relS s sc) a y && S.hot.isNone) = true := chkV_E hv
      simp only [Bool.and_eq_true] at h
      obtain ⟨⟨⟨⟨⟨⟨h1, h2⟩, h3⟩, h4⟩, h5⟩, h6⟩, hh⟩ := h
      have hh := hot_of hh
      have hk := (blkOk_by h1).kind
      have bo := blkOk_by h1
      rw [← ok.hN, ← ok.hsc] at bo
      refine (ps_setLc (own := ownN S.N own) (py := px) (pos := p) (ok.calm hh) ok.nd hi' hl (by rw [sw, b]) (sI itc sc X W t it ok.toOkX h2) (by rw [ok.hN] at bo ⊢; exact bo)
        (fun s0 H C cl fp => pgT (S := S) (X := X.blk s0 H s (compEnvC s cl C X.env) fp) (ok.calm hh) ok.hK ok.hN ok.nd (xi_of ok.toOkX hh) (fun x hx => blk_loc hx ok.hsc) tc t h3)
        (fun s0 H C cl fp => sC cc (relS s sc) _ WN f (okX_blk ok.toOkX hh hk) h5)
        (fun s0 H C cl fp => (sE a (relS s sc) _ WN y (okX_blk ok.toOkX hh hk) h6).1) (fold_of h2)).impH fun D σ H q => ?_
      rw [own_ix]
      exact tLc_of (xi_of ok.toOkX hh) h4 (set_of hn q)
  · subst e1 e2
    have sw : swapsWith (.ListComp y [⟨t, it, f, 0⟩, ⟨t1, it1, f1, 0⟩] s p) (some (.Name x px)) pos.line X.env = pure (X.env.blockKind == .function && X.env.kindOf x == some .local && px.line == p.line && !(s.names.any fun (n, k) => n == x && (k == .local || k == .cell))) := rfl
    cases b : (X.env.blockKind == .function && X.env.kindOf x == some .local && px.line == p.line && !(s.names.any fun (n, k) => n == x && (k == .local || k == .cell))) with
    | false => exact plain (by rw [sw, b])
    | true =>
      have hb := b
      simp only [Bool.and_eq_true] at hb
      have hl : X.env.scope.names.lookup x = some .local := eq_of_beq hb.1.1.2
      have h : (decide ((0 : Int) = 0 ∧ (0 : Int) = 0) && (blkC S.N sc s (ownN S.N own) && chkI S sc itc t it && chkT S.N s tc t && tc.inB own && chkC S (relS s sc) cc f && chkI S (relS s sc) itc1 t1 it1 && chkT S.N s tc1 t1 && tc1.inB own1 && own1.all (own.contains ·) && chkC S (relS s sc) cc1 f1 && chkE S (relS s sc) a y && S.hot.isNone)) = true := chkV_E hv
      simp only [Bool.and_eq_true] at h
      obtain ⟨_, ⟨⟨⟨⟨⟨⟨⟨⟨⟨⟨h1, h2⟩, h3⟩, h4⟩, h4c⟩, h5⟩, h6⟩, h7⟩, h8⟩, h9⟩, h10⟩, hh⟩ := h
      have hh := hot_of hh
      have hk := (blkOk_by h1).kind
      have bo := blkOk_by h1
      rw [← ok.hN, ← ok.hsc] at bo
      have eo : (ownN X.N own).map (·.2) = own := own_ix _ _
      have pp := ps_setLc2 (own := ownN X.N own) (vs1 := own1) (py := px) (pos := p) (ok.calm hh) ok.nd hi' hl (by rw [sw, b]) (sI itc sc X W t it ok.toOkX h2) bo (fun i hi => by rw [eo]; exact List.contains_iff_mem.mp (List.all_eq_true.mp h8 i hi))
        (fun s0 H C cl fp => pgT (S := S) (X := X.blk s0 H s (compEnvC s cl C X.env) fp) (ok.calm hh) ok.hK ok.hN ok.nd (xi_of ok.toOkX hh) (fun x hx => blk_loc hx ok.hsc) tc t h3)
        (fun s0 H C cl fp => sC cc (relS s sc) _ WN f (okX_blk ok.toOkX hh hk) h4c)
        (fun s0 H C cl fp => sI itc1 (relS s sc) _ WN t1 it1 (okX_blk ok.toOkX hh hk) h5)
        (fun s0 H C cl fp => pgT (S := S) (X := X.blk s0 H s (compEnvC s cl C X.env) fp) (ok.calm hh) ok.hK ok.hN ok.nd (xi_of ok.toOkX hh) (fun x hx => blk_loc hx ok.hsc) tc1 t1 h6)
        (fun s0 H C cl fp => sC cc1 (relS s sc) _ WN f1 (okX_blk ok.toOkX hh hk) h9)
        (fun s0 H C cl fp => (sE a (relS s sc) _ WN y (okX_blk ok.toOkX hh hk) h10).1) (fold_of h2) (fun env x => fold_of h5 x)
      rw [eo] at pp
      exact pp.impH fun D σ H q => tLc2_of (xi_of ok.toOkX hh) h4 h7 (set_of hn q)
theorem k_unp {t : Tc} {e : Ec} {es : List Expr} {k : Nat} {p pos : Pos} {v : Expr} (ok : OkS X S sc W) (ht : chkT S.N sc t (.Tuple es k p) = true) (hv : chkE S sc e v = true) (hn : isTup v = false) (hh : S.hot = none) : PS X (.Assign [.Tuple es k p] v pos) (TSc S W (.unp t e)) := by
  have pv := (sE e sc X W v ok.toOkX hv).1
  have pg := pgT (S := S) (X := X) (ok.calm hh) ok.hK ok.hN ok.nd (xi_of ok.toOkX hh) (fun x hx => ⟨by rw [ok.hsc]; exact loc_of hx, .inl (ok.fn x)⟩) t _ ht
  have hs : swapsWithSole [.Tuple es k p] v pos.line X.env = pure false := by
    show swapsWith v (some (.Tuple es k p)) pos.line X.env = pure false
    cases v <;> first | rfl | cases hn
  have hw : swappedStores [.Tuple es k p] v X.env = pure none := by
    cases v <;> first | rfl | cases hn
  refine (ps_asg pv pg hs hw).impH fun D σ H ⟨env, h, m, st, p⟩ => ⟨env, h, m, st, PostS.split (f := fun d h => match setT t d env with
    | some env => .nx env h
    | none => .no) st p fun d h1 m1 H1 v x hr r p1 => ?_⟩
  cases z : setT t d env with
  | none => rw [z] at p1; exact p1.elim
  | some env1 =>
    rw [z] at p1
    exact ⟨env, h1, m1, d, env1, st.next x hr, r, z, fun σ' st' _ => PostS.now p1 st'⟩
theorem swapped_two {x y : Str} {px py pt pt2 : Pos} {kt k2 : Nat} {v w : Expr} {env : Env} (hf : env.blockKind = .function) (hx : env.kindOf x = some .local) (hy : env.kindOf y = some .local) (hl : (py.line == px.line) = true) (hne : y ≠ x)
    (hv : (match v with | .Starred .. => true | _ => false) = false) (hw : (match w with | .Starred .. => true | _ => false) = false) (h1 : ([v, w].all (foldedForSure 8)) = false) (h2 : ([v, w].all (constantsAlone 8)) = false) :
    swappedStores [.Tuple [.Name x px, .Name y py] kt pt] (.Tuple [v, w] k2 pt2) env = pure (some [x, y]) := by
  have e0 : ([v, w].any fun | .Starred .. => true | _ => false) = false := by
    rw [List.any_cons, List.any_cons, List.any_nil, hv, hw]
    rfl
  have e1 : List.filterMap (fun e => match e with
      | Expr.Name id pos => if env.kindOf id = some NameKind.local ∧ pos.line = (Expr.Name x px).pos.line then some id else none
      | _ => none) [Expr.Name x px, Expr.Name y py] = [x, y] := by
    have l : py.line = (Expr.Name x px).pos.line := eq_of_beq hl
    have l0 : px.line = (Expr.Name x px).pos.line := rfl
    rw [List.filterMap_cons, List.filterMap_cons, List.filterMap_nil]
    simp only [hx, hy, l, l0]
    simp
  have e2 : ([x, y] : List Str).eraseDups.length = 2 := by
    have : (y == x) = false := by rw [beq_eq_false_iff_ne]; exact hne
    rw [List.eraseDups_cons]
    simp [this]
    rw [List.eraseDups_cons]
    simp
  unfold swappedStores
  simp only [hf, e0, h1, h2]
  simp
  refine (if_neg ?_).trans ((if_neg ?_).trans ?_)
  · intro z
    rcases z with z | z
    · exact absurd (hv.symm.trans z) Bool.false_ne_true
    · exact absurd (hw.symm.trans z) Bool.false_ne_true
  · intro z
    have z : ¬ (List.filterMap (fun e => match e with
      | Expr.Name id pos => if env.kindOf id = some NameKind.local ∧ pos.line = (Expr.Name x px).pos.line then some id else none
      | _ => none) [Expr.Name x px, Expr.Name y py]).length = 2 ∨ ¬ (List.filterMap (fun e => match e with
      | Expr.Name id pos => if env.kindOf id = some NameKind.local ∧ pos.line = (Expr.Name x px).pos.line then some id else none
      | _ => none) [Expr.Name x px, Expr.Name y py]).eraseDups.length = (List.filterMap (fun e => match e with
      | Expr.Name id pos => if env.kindOf id = some NameKind.local ∧ pos.line = (Expr.Name x px).pos.line then some id else none
      | _ => none) [Expr.Name x px, Expr.Name y py]).length := z
    rw [e1, e2] at z
    exact z.elim (fun z => z rfl) fun z => z rfl
  · show pure (some (List.filterMap (fun e => match e with
      | Expr.Name id pos => if env.kindOf id = some NameKind.local ∧ pos.line = (Expr.Name x px).pos.line then some id else none
      | _ => none) [Expr.Name x px, Expr.Name y py])) = _
    rw [e1]
theorem star_not {sc : Scope} {c : Ec} {v : Expr} : chkE S sc c v = true → (match v with | .Starred .. => true | _ => false) = false := by
  intro h
  cases v with
  | Starred => cases c <;> exact absurd h Bool.false_ne_true
  | _ => rfl
theorem k_par {i j : Nat} {a b : Ec} {x y : Str} {px py pt pt2 pos : Pos} {kt k2 : Nat} {v w : Expr} (ok : OkS X S sc W) (hi : S.N[i]? = some x) (hj : S.N[j]? = some y) (hij : i ≠ j) (lx : loc1 sc x = true) (ly : loc1 sc y = true) (hl : (py.line == px.line) = true) (hne : y ≠ x)
    (hv : chkE S sc a v = true) (hw : chkE S sc b w = true) (h1 : ([v, w].all (foldedForSure 8)) = false) (h2 : ([v, w].all (constantsAlone 8)) = false) (hcm : S.hot = none) :
    PS X (.Assign [.Tuple [.Name x px, .Name y py] kt pt] (.Tuple [v, w] k2 pt2) pos) (TSc S W (.par i j a b)) := by
  have l1 : ∀ {z : Str}, loc1 sc z = true → X.env.scope.names.lookup z = some .local := fun {z} h => by
    rw [ok.hsc]
    unfold loc1 at h
    split at h
    · assumption
    · cases h
  have kb : X.env.blockKind = .function := by
    unfold Env.blockKind
    rw [show X.env.scope.kind = .function from by rw [ok.hsc]; exact ok.kind]
    rfl
  have hh := swapped_two (pt := pt) (pt2 := pt2) (kt := kt) (k2 := k2) kb (l1 lx) (l1 ly) hl hne (star_not hv) (star_not hw) h1 h2
  refine (ps_par (ok.calm hcm) ok.nd (by rw [ok.hN]; exact hi) (by rw [ok.hN]; exact hj) hij (l1 lx) (l1 ly) (pa_cons (sE a sc X W v ok.toOkX hv).1 (pa_cons (sE b sc X W w ok.toOkX hw).1 pa_nil (star_cons hw)) (star_cons hv)) hh).impH fun D σ H ⟨env, h, m, st, p⟩ => ⟨env, h, m, st, PostS.split (f := fun x h => (ev S.C b env h).toS env fun y h => .nx ((env.set i (some x)).set j (some y)) h) st p fun d h1 m1 H1 v x hr r p1 => ?_⟩
  have st1 := st.next x hr
  refine ⟨env, h1, m1, st1, PostS.split (f := fun y h => .nx ((env.set i (some d)).set j (some y)) h) st1 p1 fun e h2 m2 H2 u x2 hr2 r2 p2 => ?_⟩
  exact ⟨v, u, rfl, PostS.now p2 (((st1.next x2 hr2).set (RepV.ext x2 _ _ r) fun x hx => by rw [xi_of ok.toOkX hcm] at hx; cases hx).set r2 fun x hx => by rw [xi_of ok.toOkX hcm] at hx; cases hx)⟩
theorem k_setIx {a i e : Ec} {o k v : Expr} {p pos : Pos} (ok : OkS X S sc W) (ho : chkE S sc a o = true) (hk : chkE S sc i k = true) (hs : notSlice k = true) (hv : chkV S sc e v = true) : PS X (.Assign [.Subscript o k p] v pos) (TSc S W (.setIx a i e)) := by
  have pg := pg_sub (pos := p) (sE a sc X W o ok.toOkX ho).1 (sE i sc X W k ok.toOkX hk).1 (setIx_ok (X := X) (T := S.T) (by have := units_of ok.toOkX; omega)) (by intro u; cases k <;> first | rfl | cases hs)
  have hs1 : swapsWithSole [.Subscript o k p] v pos.line X.env = pure false := by
    show swapsWith v (some (.Subscript o k p)) pos.line X.env = pure false
    rcases chk_comp hv with c | ⟨y, t, it, f, s, p, e1, _⟩ | ⟨y, t, it, f, t1, it1, f1, s, p, e1, _⟩
    · exact sw_false c
    · subst e1
      rfl
    · subst e1
      rfl
  have hw : swappedStores [.Subscript o k p] v X.env = pure none := by cases v <;> rfl
  refine (ps_asg (sE e sc X W v ok.toOkX (chkV_E hv)).1 pg hs1 hw).impH fun D σ H ⟨env, h, m, st, p⟩ => ⟨env, h, m, st, PostS.split (f := fun v h => (ev S.C a env h).toS env fun o h => (ev S.C i env h).toS env fun k h => match setIxD o k v h with
    | some h => .nx env h
    | none => .no) st p fun d h1 m1 H1 v x hr r p1 => ?_⟩
  have st1 := st.next x hr
  refine ⟨env, h1, m1, st1, PostS.split (f := fun o h => (ev S.C i env h).toS env fun k h => match setIxD o k d h with
    | some h => .nx env h
    | none => .no) st1 p1 fun od h2 m2 H2 ov x2 hr2 r2 p2 => ?_⟩
  have st2 := st1.next x2 hr2
  refine ⟨env, h2, m2, st2, PostS.split (f := fun k h => match setIxD od k d h with
    | some h => .nx env h
    | none => .no) st2 p2 fun kd h3 m3 H3 kv x3 hr3 r3 p3 => ?_⟩
  have st3 := st2.next x3 hr3
  cases z : setIxD od kd d h3 with
  | none => rw [z] at p3; exact p3.elim
  | some h4 =>
    rw [z] at p3
    exact ⟨h3, m3, od, kd, d, hr3, RepV.ext x3 _ _ r2, r3, RepV.ext x3 _ _ (RepV.ext x2 _ _ r), h4, z, fun H' ex hr' => p3 m3 H' σ ex (st3.next ex hr')⟩
theorem k_setF {c : Nat} {a e : Ec} {f : Str} {o v : Expr} {p pos : Pos} (ok : OkS X S sc W) (ho : chkE S sc a o = true) (hv : chkE S sc e v = true) (hn : isComp v = false) (hc : c < S.ct.nc) (hf : (S.ct.na c).contains f = true) : PS X (.Assign [.Attribute o f p] v pos) (TSc S W (.setF c a f e)) := by
  refine (ps_fld (sE a sc X W o ok.toOkX ho).1 (sE e sc X W v ok.toOkX hv).1 (sw_false hn)).impH fun D σ H ⟨env, h, m, st, p⟩ => ⟨env, h, m, st, PostS.split (f := fun v h => (ev S.C a env h).toS env fun o h => match setFD h c f v o with
    | some h => .nx env h
    | none => .no) st p fun d h1 m1 H1 v x hr r p1 => ?_⟩
  have st1 := st.next x hr
  refine ⟨env, h1, m1, st1, PostS.split (f := fun o h => match setFD h c f d o with
    | some h => .nx env h
    | none => .no) st1 p1 fun od h2 m2 H2 ov x2 hr2 r2 p2 => ?_⟩
  have st2 := st1.next x2 hr2
  cases od with
  | ref n =>
    obtain ⟨hl, rfl⟩ := r2
    have p2 : PostS S.T h2.length m2 H2 D W (match (match h2[n]? with
      | some (.ins c' fs) => if c' = c ∧ fs.length < 1000 then some (h2.set n (.ins c (putFD f d fs))) else none
      | _ => none) with
      | some h => .nx env h
      | none => .no) := p2
    cases e : h2[n]? with
    | none => rw [e] at p2; exact p2.elim
    | some cl =>
      rw [e] at p2
      cases cl with
      | ins c' fs =>
        have p2 : PostS S.T h2.length m2 H2 D W (match (if c' = c ∧ fs.length < 1000 then some (h2.set n (.ins c (putFD f d fs))) else none) with
          | some h => .nx env h
          | none => .no) := p2
        by_cases cc : c' = c ∧ fs.length < 1000
        · rw [if_pos cc] at p2
          obtain ⟨rfl, le⟩ := cc
          obtain ⟨dx, us, e1, e2, of, rl⟩ := hr2.cell n _ e
          have rv : RepV S.T h2.length m2 H2 d v := RepV.ext x2 _ _ r
          obtain ⟨us', e3, rl'⟩ := put_zip (f := f) rv rl
          refine ⟨_, _, dx, _, rfl, e1, ok.cls c' hc, ok.noat c' f hc hf, ?_, ?_⟩
          · rw [List.length_zip, List.length_map]
            omega
          · have xw : Ext h2.length m2 H2 h2.length m2 (upd H2 (m2 n) (.ins (S.T.cl c') dx (L2.putF f v ((fs.map (·.1)).zip us)))) := ext_write hr2 hl
            have hw := hr_writeC (o := .ins (S.T.cl c') dx (L2.putF f v ((fs.map (·.1)).zip us))) (c0 := .ins c' (putFD f d fs)) hr2 hl ⟨dx, us', by rw [upd_same, e3], by rw [upd_ne (of.1 n hl).symm]; exact e2, of, RepL.ext xw _ _ rl'⟩
            have xs : Ext h2.length m2 H2 (h2.set n (.ins c' (putFD f d fs))).length m2 (upd H2 (m2 n) (.ins (S.T.cl c') dx (L2.putF f v ((fs.map (·.1)).zip us)))) := by
              rw [List.length_set]
              exact xw
            exact p2 m2 _ σ xs (st2.next xs hw)
        · rw [if_neg cc] at p2
          exact p2.elim
      | _ => exact p2.elim
  | _ => exact p2.elim
theorem k_aug {i : Nat} {o : Operator} {e : Ec} {x : Str} {px pos : Pos} {v : Expr} (ok : OkS X S sc W) (hi : S.N[i]? = some x) (hx : L2.Loc sc x) (ho : augOp o = true) (hv : chkE S sc e v = true) (hn : S.hot ≠ some i) : PS X (.AugAssign (.Name x px) o v pos) (TSc S W (.aug i o e)) := by
  refine (ps_aug ok.nd (by rw [ok.hN]; exact hi) (by rw [ok.hsc]; exact hx) (sE e sc X W v ok.toOkX hv).1 (aug_ok ho) (.inl (ok.fn x))).impH fun D σ H ⟨env, h, m, st, p⟩ => ?_
  have p : PostS S.T h.length m H D W (match env[i]? with
    | some (some (.int x)) => (ev S.C e env h).toS env fun d h => match d with
      | .int y => match intOp o x y with
        | some z => .nx (env.set i (some (.int z))) h
        | none => .no
      | _ => .no
    | _ => .no) := p
  split at p
  · rename_i n en
    obtain ⟨u, eu, ru⟩ := st.en.2 i _ en
    cases ru
    refine ⟨_, eu, env, h, m, st, PostS.split st p fun d h1 m1 H1 v x hr r p1 => ?_⟩
    cases d with
    | int y =>
      cases r
      have p1 : PostS S.T h1.length m1 H1 D W (match intOp o n y with
        | some z => .nx (env.set i (some (.int z))) h1
        | none => .no) := p1
      cases z : intOp o n y with
      | none => rw [z] at p1; exact p1.elim
      | some k =>
        rw [z] at p1
        exact ⟨n, y, k, rfl, rfl, z, PostS.now p1 ((st.next x hr).set (d := .int k) (v := .int k) rfl fun x hx z => hn (by rw [(ok.hx x hx).1, z]))⟩
    | _ => exact p1.elim
  · exact p.elim
theorem k_ex {e : Ec} {v : Expr} {pos : Pos} (ok : OkS X S sc W) (hv : chkE S sc e v = true) (hn : isComp v = false) : PS X (.Expr v pos) (TSc S W (.ex e)) := by
  refine (ps_expr (sE e sc X W v ok.toOkX hv).1 (sw_false hn)).impH fun D σ H ⟨env, h, m, st, p⟩ => ⟨env, h, m, st, PostS.split (f := fun _ h => .nx env h) st p fun d h1 m1 H1 v x hr r p1 => PostS.now p1 (st.next x hr)⟩
theorem k_ret {e : Ec} {v : Expr} {pos : Pos} (ok : OkS X S sc W) (hv : chkE S sc e v = true) : PS X (.Return (some v) pos) (TSc S W (.ret e)) := by
  refine (ps_ret (sE e sc X W v ok.toOkX hv).1).impH fun D σ H ⟨env, h, m, st, p⟩ => ⟨env, h, m, st, PostS.split (f := fun d h => .rt d h) st p fun d h1 m1 H1 v x hr r p1 => p1 m1 H1 v .refl hr r⟩
theorem k_if {c : Ec} {a b : List Sc} {t : Expr} {x y : List Stmt} {pos : Pos} (ok : OkS X S sc W) (hc : chkE S sc c t = true) (ha : PSs X x (TSs S W a)) (hb : PSs X y (TSs S W b)) : PS X (.If t x y pos) (TSc S W (.ite c a b)) := by
  refine (ps_if (sE c sc X W t ok.toOkX hc).2.1 ha hb).impH fun D σ H ⟨env, h, m, st, p⟩ => ⟨env, h, m, st, PostS.split (f := fun t h => if t then execs S.C a env h else execs S.C b env h) st p fun d h1 m1 H1 v x hr r p1 => ?_⟩
  subst r
  cases d with
  | true => exact ⟨env, h1, m1, st.next x hr, p1⟩
  | false => exact ⟨env, h1, m1, st.next x hr, p1⟩
theorem k_raise1 {c : Nat} {f x : Str} {e : Ec} {y : Expr} {p pc pos : Pos} (ok : OkS X S sc W) (hh : S.hot = none) (hc : S.ct.xn[c]? = some x) (h1 : S.ct.x1 c = some f) (hg : glB sc x = true) (hb : okB x = true) (hy : chkE S sc e y = true) : PS X (.Raise (some (.Call (.Name x p) [y] [] pc)) none pos) (TSc S W (.raise1 c f e)) := by
  have O := ok.xi1 hh c f h1
  have pm := pmk_x1 (p := p) (pos := pc) O (ok.room hh) ok.gd ok.never (gl_of ok.toOkX hg) (ok.xmg c x hc) (sE e sc X W y ok.toOkX hy).1 (okB_1 hb) (star_cons hy)
  refine (L2N.ps_raise (ok.calm hh) (ok.tk hh) pm).impH fun D σ H ⟨env, h, m, st, p⟩ => ⟨env, h, m, st, PostS.split (f := fun d h => .ex ⟨c, [(f, d)]⟩ env h) st p fun d h1 m1 H1 v xt hr r p1 => ⟨v, rfl, fun dx hdx => ?_⟩⟩
  have st1 := st.next xt hr
  have ex := ext_new (o := .xd [(f, v)]) (m := m1) (N := h1.length) hdx
  exact p1 m1 _ _ _ σ ex (st1.next ex (hr_new hr hdx)) ⟨⟨rfl, by rw [← ok.xcs]; exact getElem?_lt hc⟩, dx, v, rfl, upd_same, off_new hr hdx, RepV.ext ex _ _ r⟩
end
end Hr
set_option maxHeartbeats 4000000
/-! Loops; a block's code means what the block does. -/
namespace Hr
open PySem PySem.Spec PyProof.Rows L2
section
variable {S : St0} {X : Cx} {sc : Scope} {W : WX}
theorem asI_some {d : D} {i : Int} (e : asI d = some i) : d = .int i := by
  cases d <;> cases e
  rfl
theorem k_augIx {a i e : Ec} {o : Operator} {x k v : Expr} {p pos : Pos} (ok : OkS X S sc W) (ha : chkE S sc a x = true) (hk : chkE S sc i k = true) (hs : notSlice k = true) (ho : augOp o = true) (hv : chkE S sc e v = true) : PS X (.AugAssign (.Subscript x k p) o v pos) (TSc S W (.augIx a i o e)) := by
  refine (ps_augS (sE a sc X W x ok.toOkX ha).1 (sE i sc X W k ok.toOkX hk).1 get_list (sE e sc X W v ok.toOkX hv).1 (aug_ok ho) (setIx_ok (T := S.T) (by have := units_of ok.toOkX; omega)) (by intros; cases k <;> first | rfl | cases hs)).impH fun D σ H ⟨env, h, m, st, p⟩ => ⟨env, h, m, st, PostS.split (f := fun x h => (ev S.C i env h).toS env fun k h => match getIxD x k h with
    | some u => (ev S.C e env h).toS env fun d h => match augD o u d with
      | some z => match setIxD x k (.int z) h with
        | some h => .nx env h
        | none => .no
      | none => .no
    | none => .no) st p fun od h1 m1 H1 ov x1 hr1 r1 p1 => ?_⟩
  have st1 := st.next x1 hr1
  refine ⟨env, h1, m1, st1, PostS.split (f := fun k h => match getIxD od k h with
    | some u => (ev S.C e env h).toS env fun d h => match augD o u d with
      | some z => match setIxD od k (.int z) h with
        | some h => .nx env h
        | none => .no
      | none => .no
    | none => .no) st1 p1 fun kd h2 m2 H2 kv x2 hr2 r2 p2 => ?_⟩
  have st2 := st1.next x2 hr2
  have r1' := RepV.ext x2 _ _ r1
  cases z : getIxD od kd h2 with
  | none => rw [z] at p2; exact p2.elim
  | some u =>
    rw [z] at p2
    have z0 : (match cellL h2 od, asI kd with
      | some (_, xs), some k => (L2.atI xs k).bind asI
      | _, _ => none) = some u := z
    cases zc : cellL h2 od with
    | none => rw [zc] at z0; cases z0
    | some nx =>
      obtain ⟨n, xs⟩ := nx
      cases zk : asI kd with
      | none => rw [zc, zk] at z0; cases z0
      | some kk =>
        rw [zc, zk] at z0
        have z0 : (L2.atI xs kk).bind asI = some u := z0
        obtain ⟨hn, ev, vs, eh, rl⟩ := cellL_rep hr2 r1' zc
        cases za : L2.atI xs kk with
        | none => rw [za] at z0; cases z0
        | some du =>
          rw [za] at z0
          have eu := asI_some (show asI du = some u from z0)
          subst eu
          have ek := asI_some zk
          subst ek
          cases r2
          subst ev
          obtain ⟨vu, ea, ru⟩ := atI_rep rl za
          cases ru
          refine ⟨m2 n, vs, kk, _, rfl, rfl, .of eh, ea, env, h2, m2, st2, PostS.split st2 p2 fun d h3 m3 H3 w x3 hr3 r3 p3 => ?_⟩
          have st3 := st2.next x3 hr3
          cases zd : augD o u d with
          | none => rw [zd] at p3; exact p3.elim
          | some q =>
            rw [zd] at p3
            have zd0 : (asI d).bind (fun y => intOp o u y) = some q := zd
            cases zy : asI d with
            | none => rw [zy] at zd0; cases zd0
            | some y =>
              rw [zy] at zd0
              have ey := asI_some zy
              subst ey
              cases r3
              refine ⟨u, y, q, rfl, rfl, zd0, ?_⟩
              have p3 : PostS S.T h3.length m3 H3 D W (match setIxD od (.int kk) (.int q) h3 with
                | some h => .nx env h
                | none => .no) := p3
              cases zs : setIxD od (.int kk) (.int q) h3 with
              | none => rw [zs] at p3; exact p3.elim
              | some h4 =>
                rw [zs] at p3
                exact ⟨h3, m3, od, .int kk, .int q, hr3, RepV.ext x3 _ _ r1', rfl, rfl, h4, zs, fun H' ex hr' => p3 m3 H' σ ex (st3.next ex hr')⟩
/-- behind a turn's block -/
theorem turn_of {T : Tb} {N : Nat} {m : Gh} {H : Hp} {D : Ends} {r : So} {k : En → Hv → So} {Nx : L2.St → Hp → Prop}
    (p : PostS T N m H D W (match r with
      | .nx env h => k env h
      | .ct env h => k env h
      | .bk env h => .nx env h
      | r => r))
    (hN : ∀ env h m' H' σ', Ext N m H h.length m' H' → Sta T m' h H' σ' env → PostS T h.length m' H' D W (k env h) → Nx σ' H') : PostS T N m H { D with nx := Nx, ct := Nx, bk := D.nx } W r := by
  cases r with
  | no => exact p
  | nx env h => exact fun m' H' σ' x st => hN env h m' H' σ' x st (PostS.ext (r := k env h) p x)
  | ct env h => exact fun m' H' σ' x st => hN env h m' H' σ' x st (PostS.ext (r := k env h) p x)
  | bk env h => exact p
  | rt d h => exact p
  | ex y env h => exact p
theorem k_while {c : Ec} {b : List Sc} {t : Expr} {x : List Stmt} {pos : Pos} (ok : OkS X S sc W) (hc : chkE S sc c t = true) (hb : PSs X x (TSs S W b)) (hh : S.hot = none) : PS X (.While t x [] pos) (TSc S W (.whl c b)) := by
  refine (ps_while (ok.own hh) (sE c sc X W t ok.toOkX hc).2.1 hb).impH fun D σ H ⟨env, h, m, st, p⟩ => ?_
  have p : PostS S.T h.length m H D W (whileM (fun env h => (ev S.C c env h).bind testD) (fun env h => execs S.C b env h) env h) := p
  unfold whileM at p
  by_cases q : ∃ n, iterW (fun env h => (ev S.C c env h).bind testD) (fun env h => execs S.C b env h) n env h ≠ .no
  · rw [dif_pos q] at p
    refine ⟨fun k σ H => ∃ env h m, Sta S.T m h H σ env ∧ PostS S.T h.length m H D W (iterW (fun env h => (ev S.C c env h).bind testD) (fun env h => execs S.C b env h) k env h), ⟨_, env, h, m, st, p⟩, ?_⟩
    rintro k σ H ⟨env, h, m, st, p⟩
    cases k with
    | zero => exact p.elim
    | succ k =>
      have p : PostS S.T h.length m H D W (match (ev S.C c env h).bind testD with
        | .ok true h => (match execs S.C b env h with
          | .nx env h => iterW (fun env h => (ev S.C c env h).bind testD) (fun env h => execs S.C b env h) k env h
          | .ct env h => iterW (fun env h => (ev S.C c env h).bind testD) (fun env h => execs S.C b env h) k env h
          | .bk env h => .nx env h
          | r => r)
        | .ok false h => .nx env h
        | .ex x h => .ex x env h
        | .no => .no) := p
      refine ⟨env, h, m, st, ?_⟩
      cases z : (ev S.C c env h).bind testD with
      | no => rw [z] at p; exact p
      | ex y h1 =>
        rw [z] at p
        exact fun m1 H1 c d x hr rx => p m1 H1 c d σ x (st.next x hr) rx
      | ok t h1 =>
        rw [z] at p
        intro m1 H1 b' x hr e
        subst e
        cases t with
        | false =>
          rw [if_neg Bool.false_ne_true]
          exact p m1 H1 σ x (st.next x hr)
        | true =>
          rw [if_pos rfl]
          exact ⟨_, fun σ' H' n => ⟨k, Nat.lt_succ_self _, n⟩, env, h1, m1, st.next x hr, turn_of (PostS.ext p x) fun env2 h2 m2 H2 σ2 _ st2 p2 => ⟨env2, h2, m2, st2, p2⟩⟩
  · rw [dif_neg q] at p
    exact p.elim
section
variable {g : Hv → Prop} {f : Hr.D → En → Hv → So} {d : Hr.D} {ds : List Hr.D} {env : En} {h : Hv}
theorem loop_nil_pos (c : g h) : loopF g f [] env h = .nx env h := by unfold loopF; exact if_pos c
theorem loop_nil_neg (c : ¬ g h) : loopF g f [] env h = .no := by unfold loopF; exact if_neg c
theorem loop_cons_pos (c : g h) : loopF g f (d :: ds) env h = (match f d env h with
  | .nx env h => loopF g f ds env h
  | .ct env h => loopF g f ds env h
  | .bk env h => .nx env h
  | r => r) := by rw [loopF]; exact if_pos c
theorem loop_cons_neg (c : ¬ g h) : loopF g f (d :: ds) env h = .no := by rw [loopF]; exact if_neg c
theorem loop_next {l : List Hr.D} (e : loopF g f l env h ≠ .no) : g h := Classical.byContradiction fun c => e (by
  cases l with
  | nil => exact loop_nil_neg c
  | cons d ds => exact loop_cons_neg c)
end
theorem post_ne {T : Tb} {N : Nat} {m : Gh} {H : Hp} {D : Ends} {r : So} (p : PostS T N m H D W r) : r ≠ .no := fun e => by
  rw [e] at p
  exact p
theorem k_for {it : Ic} {t : Tc} {b : List Sc} {tg iter : Expr} {x : List Stmt} {pos : Pos} (ok : OkS X S sc W) (hi : chkI S sc it tg iter = true) (ht : chkT S.N sc t tg = true) (hb : PSs X x (TSs S W b)) (hh : S.hot = none) : PS X (.For tg iter x [] pos) (TSc S W (.for_ it t b)) := by
  have pg := pgT (S := S) (X := X) (ok.calm hh) ok.hK ok.hN ok.nd (xi_of ok.toOkX hh) (fun x hx => ⟨by rw [ok.hsc]; exact loc_of hx, .inl (ok.fn x)⟩) t _ ht
  refine (ps_for (ok.own hh) (ok.calm hh) (sI it sc X W tg iter ok.toOkX hi) pg hb (fold_of hi)).impH fun De σ H ⟨env, h, m, st, p⟩ => ?_
  obtain ⟨F, eF⟩ : ∃ F : Hr.D → En → Hv → So, F = fun d env h => match setT t d env with
    | some env => execs S.C b env h
    | none => .no := ⟨_, rfl⟩
  have p : PostS S.T h.length m H De W ((evi S.C it env h).toS env fun I h => loopF I.guard (fun d env h => match setT t d env with
    | some env => execs S.C b env h
    | none => .no) I.items env h) := p
  rw [← eF] at p
  refine ⟨env, h, m, st, PostS.split st p fun I h1 m1 H1 J x hr wr p1 => ?_⟩
  obtain ⟨G, Y, w, kG, kY⟩ := wr.ex
  refine for_it w (fun i σ' H' => ∃ env' h' m', Sta S.T m' h' H' σ' env' ∧ Ext h1.length m1 H1 h'.length m' H' ∧ PostS S.T h'.length m' H' De W (loopF I.guard F (I.items.drop i) env' h')) ⟨env, h1, m1, st.next x hr, .refl, p1⟩ ?_ ?_ ?_
  · rintro i σ' H' hi ⟨env', h', m', st', x', p'⟩
    exact kG m' H' h' x'.to0 st'.hr (loop_next (post_ne p'))
  · rintro i v σ' H' H2 hi ⟨env', h', m', st', x', p'⟩ y
    have gd := loop_next (post_ne p')
    obtain ⟨d, ed, x2, hr2, rd⟩ := kY i v m' H' h' H2 hi x'.to0 st'.hr gd y
    have hd : I.items.drop i = I.items[i] :: I.items.drop (i + 1) := List.drop_eq_getElem_cons hi
    rw [List.getElem?_eq_getElem hi] at ed
    cases ed
    rw [hd, loop_cons_pos gd] at p'
    have st2 := st'.next x2 hr2
    have ne : F I.items[i] env' h' ≠ .no := fun e => by
      rw [e] at p'
      exact p'
    have eF' : F I.items[i] env' h' = match setT t I.items[i] env' with
      | some env => execs S.C b env h'
      | none => .no := by rw [eF]
    cases z : setT t I.items[i] env' with
    | none => rw [eF', z] at ne; exact absurd rfl ne
    | some env1 =>
      rw [eF', z] at p'
      refine ⟨env', h', m', I.items[i], env1, st2, rd, z, fun σ3 st3 _ => ⟨env1, h', m', st3, turn_of (PostS.ext p' x2) fun env4 h4 m4 H4 σ4 x4 st4 p4 => ⟨env4, h4, m4, st4, (x'.trans x2).trans x4, p4⟩⟩⟩
  · rintro σ' H' ⟨env', h', m', st', x', p'⟩
    rw [List.drop_length] at p'
    rw [loop_nil_pos (loop_next (post_ne p'))] at p'
    exact p'.now st'
end
theorem bool_of {a : Bool} (h : (!a) = true) : a = false := by cases a <;> first | rfl | cases h
/-! ### try -/
/-- within the suite -/
def _root_.Hr.St0.inX (S : St0) (i : Nat) (a : Addr) (x : Exn) (d : Option Addr) : St0 := { S with hot := some i, T := { S.T with xi := some ⟨i, a, x, d⟩ } }
section
variable {S : St0} {X : Cx} {sc : Scope} {W : WX}
theorem okS_tr (ok : OkS X S sc W) (hh : S.hot = none) {W' : WX} {pn : List (Addr × Obj)} {xe : Value → Shared → Prop} (tk : L2N.Takes (X.tr pn xe) W') (pa : PassesOwn (model X.prog X.w) X.A X.env xe) : OkS (X.tr pn xe) S sc W' where
  hK := ok.hK
  hN := ok.hN
  nd := ok.nd
  hsc := ok.hsc
  kind := ok.kind
  calm := ok.calm
  gd := ok.gd
  room := ok.room
  un := ok.un
  pass := fun σ => by rw [ok.hcx]; exact L2N.passAt tk σ
  never := ok.never
  blt := ok.blt
  glo := ok.glo
  fns := ok.fns
  cls := ok.cls
  noat := ok.noat
  xcs := ok.xcs
  xc := ok.xc
  xmg := ok.xmg
  hx := fun x e => by rw [xi_of ok.toOkX hh] at e; cases e
  mks := ok.mks
  fn := ok.fn
  hcx := ok.hcx
  hs := ok.hs
  hf := ok.hf
  own := fun _ => pa
  tk := fun _ => tk
  xi1 := fun h c f e => ⟨(ok.xi1 h c f e).cls, (ok.xi1 h c f e).ini⟩
theorem okS_suite (ok : OkS X S sc W) (hh : S.hot = none) {i0 : Nat} {a0 : Addr} {oe : Obj} {x0 : Exn} {d0 : Option Addr} {pn : List (Addr × Obj)} (hz : Zc (.ref (S.T.xc x0.cls)) d0 oe) (hv : ∃ vs, oe.data = .fields vs) : OkS (X.suite a0 ((a0, oe) :: pn)) (S.inX i0 a0 x0 d0) sc WN where
  hK := ok.hK
  hN := ok.hN
  nd := ok.nd
  hsc := ok.hsc
  kind := ok.kind
  calm := fun z => nomatch z
  gd := ok.gd
  room := fun z => nomatch z
  un := ok.un
  pass := fun σ pins H s e s' I c => ok.never _ _ _ _ _ c
  never := ok.never
  blt := ok.blt
  glo := fun i x e => let ⟨v, u, a, b, c⟩ := ok.glo i x e; ⟨v, u, a, b, fun N m H => RepV.tb (T := S.T) (T' := (S.inX i0 a0 x0 d0).T) rfl _ _ (c N m H)⟩
  fns := fun z => nomatch z
  cls := ok.cls
  noat := ok.noat
  xcs := ok.xcs
  xc := fun c hc => let C := ok.xc c hc; ⟨C.kp, C.ga, C.gg, C.sb, C.ty, C.hd, C.ha, C.hm, C.hn, C.ht, C.no, C.own, C.blt⟩
  xmg := ok.xmg
  hx := fun x' e => by
    cases e
    exact ⟨rfl, X, oe, pn, rfl, hz, hv⟩
  mks := ok.mks
  fn := ok.fn
  hcx := ok.hcx
  hs := ok.hs
  hf := ok.hf
  own := fun z => nomatch z
  tk := fun z => nomatch z
  xi1 := fun z => nomatch z
theorem postS_suite {T T' : Tb} {N : Nat} {m : Gh} {H : Hp} {De : Ends} {i : Nat} {W W' : WX} (hK : T.K = T'.K) (hc : T.cl = T'.cl) (hx : T.xc = T'.xc) (hn : T.nx = T'.nx) (h0 : T.xi = none) {r : So} (p : PostS T N m H De W (suiteEnd i r)) :
    PostS T' N m H { nx := fun σ' H' => De.nx (σ'.set i none) H', rt := De.rt, bk := fun σ' H' => De.bk (σ'.set i none) H', ct := fun σ' H' => De.ct (σ'.set i none) H' } W' r := by
  cases r with
  | no => exact p
  | nx env h => exact fun m' H' σ' x st => p m' H' _ x ⟨st.hr.tb hK hc hx hn, (EnvR.gone st.en).tb hK, .calm h0⟩
  | bk env h => exact fun m' H' σ' x st => p m' H' _ x ⟨st.hr.tb hK hc hx hn, (EnvR.gone st.en).tb hK, .calm h0⟩
  | ct env h => exact fun m' H' σ' x st => p m' H' _ x ⟨st.hr.tb hK hc hx hn, (EnvR.gone st.en).tb hK, .calm h0⟩
  | rt d h => exact fun m' H' v x hr rv => p m' H' v x (hr.tb hK hc hx hn) (RepV.tb hK _ _ rv)
  | ex x env h => exact p.elim
theorem k_try {c i : Nat} {x n : Str} {body su : List Stmt} {s0 : Stmt} {p ph pos : Pos} {b u : List Sc} (ok : OkS X S sc W) (hh : S.hot = none) (hc : S.ct.xn[c]? = some x) (hg : glB sc x = true) (hb : okB x = true) (hi : S.N[i]? = some n) (hl : loc1 sc n = true)
    (hbody : ∀ (W' : WX) (pn : List (Addr × Obj)) (xe : Value → Shared → Prop), L2N.Takes (X.tr pn xe) W' → PassesOwn (model X.prog X.w) X.A X.env xe → PSs (X.tr pn xe) body (TSs S W' b))
    (hsu : ∀ (a : Addr) (oe : Obj) (x : Exn) (d : Option Addr) (pn : List (Addr × Obj)), Zc (.ref (S.T.xc x.cls)) d oe → (∃ vs, oe.data = .fields vs) → PSs (X.suite a ((a, oe) :: pn)) (s0 :: su) (TSs (S.inX i a x d) WN u)) :
    PS X (.Try body [.ExceptHandler (some (.Name x p)) (some n) (s0 :: su) ph] [] [] pos) (TSc S W (.tryx c i b u)) := by
  have hcn : c < S.T.nx := by rw [← ok.xcs]; exact getElem?_lt hc
  have hnm : Names X x (.ref (S.T.xc c)) := ⟨gl_of ok.toOkX hg, okB_1 hb, .inl (ok.xmg c x hc)⟩
  have hln : X.env.kindOf n = some .local := by
    show X.env.scope.names.lookup n = _
    rw [ok.hsc]
    unfold loc1 at hl
    split at hl
    · assumption
    · cases hl
  refine (L2N.ps_try_as ok.hs ok.hf ok.nd (i := i) (by rw [ok.hN]; exact hi) hln hnm (ok.tk hh) (tb := fun W' => TSs S W' b) (ts := fun a cls d D σ H => ∃ x : Exn, cls = .ref (S.T.xc x.cls) ∧ TSs (S.inX i a x d) WN u D σ H) hbody
    (fun a oe cls d pn hz hv => ⟨fun pins s σ H D I ⟨x, e, q⟩ => by subst e; exact (hsu a oe x d pn hz.zc hv).run pins s σ H D I q⟩)).impH fun D σ H ⟨env, h, m, st, p⟩ => ⟨env, h, m, st, ?_⟩
  have p : PostS S.T h.length m H D W (match execs S.C b env h with
    | .ex x env' h' => if x.cls = c then suiteEnd i (execs { S.C with cur := some x } u (env'.set i none) h') else .ex x env' h'
    | r => r) := p
  cases z : execs S.C b env h with
  | no => rw [z] at p; exact p
  | nx env h => rw [z] at p; exact p
  | bk env h => rw [z] at p; exact p
  | ct env h => rw [z] at p; exact p
  | rt d h => rw [z] at p; exact p
  | ex x env' h' =>
    rw [z] at p
    intro m1 H1 cv d σ1 xt st1 rx
    have p : PostS S.T h.length m H D W (if x.cls = c then suiteEnd i (execs { S.C with cur := some x } u (env'.set i none) h') else .ex x env' h') := p
    have ec := rx.1.1
    have hlt := rx.1.2
    subst ec
    refine ⟨decide (x.cls = c), by rw [ok.hK, ← ok.hK]; exact ((ok.xc x.cls hlt).own c hcn).2, fun hb a na => ?_, fun hb => ?_⟩
    · rw [if_pos (of_decide_eq_true hb)] at p
      refine ⟨x, rfl, env'.set i none, h', m1, ⟨HR.tb (T := S.T) (T' := (S.inX i a x d).T) rfl rfl rfl rfl st1.hr, EnvR.tb (T := S.T) (T' := (S.inX i a x d).T) rfl (EnvR.gone st1.en), fun y hy => ?_⟩, postS_suite (T := S.T) (T' := (S.inX i a x d).T) rfl rfl rfl rfl (xi_of ok.toOkX hh) (PostS.ext p xt)⟩
      cases hy
      refine ⟨fun o ho => ?_, RepX.tb (T := S.T) (T' := (S.inX i a x d).T) rfl rfl rfl (RepV.tb (T := S.T) (T' := (S.inX i a x d).T) rfl) rx⟩
      by_cases hl : i < σ1.length
      · rw [List.getElem?_set_self hl] at ho
        cases ho
        rfl
      · rw [List.getElem?_eq_none (by simpa using hl)] at ho
        cases ho
    · rw [if_neg (of_decide_eq_false hb)] at p
      exact p m1 H1 _ d σ1 xt st1 rx
theorem k_keep {c i k : Nat} {x n y : Str} {body : List Stmt} {p ph pos py pz pa : Pos} {b : List Sc} (ok : OkS X S sc W) (hh : S.hot = none) (hc : S.ct.xn[c]? = some x) (hg : glB sc x = true) (hb : okB x = true) (hi : S.N[i]? = some n) (hl : loc1 sc n = true)
    (hn : okB n = true) (hk : S.N[k]? = some y) (hy : loc1 sc y = true)
    (hbody : ∀ (W' : WX) (pn : List (Addr × Obj)) (xe : Value → Shared → Prop), L2N.Takes (X.tr pn xe) W' → PassesOwn (model X.prog X.w) X.A X.env xe → PSs (X.tr pn xe) body (TSs S W' b)) :
    PS X (.Try body [.ExceptHandler (some (.Name x p)) (some n) [.Assign [.Name y py] (.Name n pz) pa] ph] [] [] pos) (TSc S W (.keepx c i k b)) := by
  have hcn : c < S.T.nx := by rw [← ok.xcs]; exact getElem?_lt hc
  have hnm : Names X x (.ref (S.T.xc c)) := ⟨gl_of ok.toOkX hg, okB_1 hb, .inl (ok.xmg c x hc)⟩
  have kind : ∀ {z : Str}, loc1 sc z = true → X.env.kindOf z = some .local := fun {z} h => by
    show X.env.scope.names.lookup z = _
    rw [ok.hsc]
    unfold loc1 at h
    split at h
    · assumption
    · cases h
  have hi' : X.N[i]? = some n := by rw [ok.hN]; exact hi
  have hk' : X.N[k]? = some y := by rw [ok.hN]; exact hk
  refine (ps_keep ok.hs ok.hf ok.nd (i := i) hi' (kind hl) hnm (ok.tk hh) (tb := fun W' => TSs S W' b) (ts := fun a cls d D σ H => (∀ o, σ[i]? = some o → o = some (.ref a)) ∧ D.nx (σ.set k (some (.ref a))) H) hbody
    (fun a oe cls d pn hz hv => pss_one (ps_set (X := X.suite a ((a, oe) :: pn)) (te := fun σ H Q => (∀ o, σ[i]? = some o → o = some (.ref a)) ∧ Q (.ref a) H) ok.nd hk' (.inl (kind hy)) ⟨fun pins s σ H Q I ⟨z, q⟩ => ?_⟩ rfl (.inr (kind hy))))).impH fun D σ H ⟨env, h, m, st, p⟩ => ⟨env, h, m, st, ?_⟩
  · refine (pe_var (X := X.suite a ((a, oe) :: pn)) hi' (.inl (kind hl)) (okB_1 hn) (okB_2 hn)).run pins s σ H Q I ⟨.ref a, ?_, q⟩
    have hl : i < σ.length := by rw [I.len]; exact getElem?_lt hi'
    have e := z _ (List.getElem?_eq_getElem hl)
    rw [List.getElem?_eq_getElem hl, e]
  have p : PostS S.T h.length m H D W (match execs S.C b env h with
    | .ex x env' h' => if x.cls = c then .nx (((env'.set i none).set k (some (.ref h'.length))).set i none) (h' ++ [.exn x]) else .ex x env' h'
    | r => r) := p
  cases z : execs S.C b env h with
  | no => rw [z] at p; exact p
  | nx env h => rw [z] at p; exact p
  | bk env h => rw [z] at p; exact p
  | ct env h => rw [z] at p; exact p
  | rt d h => rw [z] at p; exact p
  | ex x env' h' =>
    rw [z] at p
    intro m1 H1 cv d σ1 xt st1 rx
    have p : PostS S.T h.length m H D W (if x.cls = c then .nx (((env'.set i none).set k (some (.ref h'.length))).set i none) (h' ++ [.exn x]) else .ex x env' h') := p
    have ec := rx.1.1
    have hlt := rx.1.2
    subst ec
    refine ⟨decide (x.cls = c), by rw [ok.hK, ← ok.hK]; exact ((ok.xc x.cls hlt).own c hcn).2, fun hb => ?_, fun hb a na => ?_⟩
    · rw [if_neg (of_decide_eq_false hb)] at p
      exact p m1 H1 _ d σ1 xt st1 rx
    · rw [if_pos (of_decide_eq_true hb)] at p
      have p : ∀ m' H' σ', Ext h.length m H (h' ++ [Cell.exn x]).length m' H' → Sta S.T m' (h' ++ [Cell.exn x]) H' σ' (((env'.set i none).set k (some (.ref h'.length))).set i none) → D.nx σ' H' := p
      have hl : (h' ++ [Cell.exn x]).length = h'.length + 1 := by simp
      refine ⟨fun o ho => ?_, fun _ => ?_⟩
      · by_cases hl : i < σ1.length
        · rw [List.getElem?_set_self hl] at ho
          cases ho
          rfl
        · rw [List.getElem?_eq_none (by simpa using hl)] at ho
          cases ho
      · have xc : Ext h'.length m1 H1 (h'.length + 1) (m1.add h'.length a) (upd H1 a (ExH a (.ref (S.T.xc x.cls)) d)) := ext_cell na
        have hr2 := hr_cellC (c0 := .exn x) st1.hr na ⟨d, upd_same, rx.ext xc⟩
        refine p (m1.add h'.length a) _ _ (by rw [hl]; exact xt.trans xc) ⟨hr2, ?_, .calm (xi_of ok.toOkX hh)⟩
        rw [hl]
        have e1 : EnvR S.T (h'.length + 1) (m1.add h'.length a) (upd H1 a (ExH a (.ref (S.T.xc x.cls)) d)) (σ1.set i (some (.ref a))) (env'.set i none) := EnvR.gone (st1.en.ext xc)
        refine EnvR.gone (e1.set (d := .ref h'.length) (v := .ref a) ⟨Nat.lt_succ_self _, ?_⟩)
        rw [add_same]
theorem k_keepB {c i k : Nat} {x n : Str} {body su : List Stmt} {s0 : Stmt} {p ph pos : Pos} {b : List Sc} (ok : OkS X S sc W) (hh : S.hot = none) (hc : S.ct.xn[c]? = some x) (hg : glB sc x = true) (hb : okB x = true) (hi : S.N[i]? = some n) (hl : loc1 sc n = true)
    (hk : keepB S.toCk sc n k (keepH s0) = true) (hs : su.isEmpty = true)
    (hbody : ∀ (W' : WX) (pn : List (Addr × Obj)) (xe : Value → Shared → Prop), L2N.Takes (X.tr pn xe) W' → PassesOwn (model X.prog X.w) X.A X.env xe → PSs (X.tr pn xe) body (TSs S W' b)) :
    PS X (.Try body [.ExceptHandler (some (.Name x p)) (some n) (s0 :: su) ph] [] [] pos) (TSc S W (.keepx c i k b)) := by
  cases su with
  | cons _ _ => cases hs
  | nil =>
    cases e : keepH s0 with
    | none => rw [e] at hk; cases hk
    | some yz =>
      obtain ⟨y, z⟩ := yz
      rw [e] at hk
      have hk : (decide (z = n) && okB n && decide (S.N[k]? = some y) && loc1 sc y) = true := hk
      simp only [Bool.and_eq_true, decide_eq_true_eq] at hk
      obtain ⟨⟨⟨h8, h9⟩, h10⟩, h11⟩ := hk
      subst h8
      obtain ⟨py, pz, pa, rfl⟩ := keepH_of e
      exact k_keep ok hh hc hg hb hi hl h9 h10 h11 hbody
end
mutual
theorem kS : ∀ (c : Sc) (S : St0) (X : Cx) (sc : Scope) (W : WX) (ok : OkS X S sc W) (s : Stmt), chkS S sc c s = true → PS X s (TSc S W c)
  | .set i e, S, X, sc, W, ok, s, h => by
    cases s with
    | Assign tgs v pos =>
      match tgs, h with
      | [.Name x px], h =>
        have h : (decide (S.N[i]? = some x) && locB sc x && chkV S sc e v && decide (S.hot ≠ some i)) = true := h
        simp only [Bool.and_eq_true, decide_eq_true_eq] at h
        exact k_set ok h.1.1.1 (loc_of h.1.1.2) h.1.2 h.2
    | _ => exact absurd h Bool.false_ne_true
  | .unp t e, S, X, sc, W, ok, s, h => by
    cases s with
    | Assign tgs v pos =>
      match tgs, h with
      | [.Tuple es k p], h =>
        have h : (chkT S.N sc t (.Tuple es k p) && chkE S sc e v && !isTup v && S.hot.isNone) = true := h
        simp only [Bool.and_eq_true] at h
        exact k_unp ok h.1.1.1 h.1.1.2 (bool_of h.1.2) (hot_of h.2)
    | _ => exact absurd h Bool.false_ne_true
  | .par i j a b, S, X, sc, W, ok, s, h => by
    cases s with
    | Assign tgs u pos =>
      match tgs, u, h with
      | [.Tuple [.Name x px, .Name y py] kt pt], .Tuple [v, w] k2 pt2, h =>
        have h : (decide (S.N[i]? = some x) && decide (S.N[j]? = some y) && !decide (i = j) && loc1 sc x && loc1 sc y && (py.line == px.line) && !decide (y = x) && chkE S sc a v && chkE S sc b w && !([v, w].all (foldedForSure 8)) && !([v, w].all (constantsAlone 8)) && S.hot.isNone) = true := h
        simp only [Bool.and_eq_true, decide_eq_true_eq] at h
        obtain ⟨⟨⟨⟨⟨⟨⟨⟨⟨⟨⟨h1, h2⟩, h3⟩, h4⟩, h5⟩, h6⟩, h7⟩, h8⟩, h9⟩, h10⟩, h11⟩, hh⟩ := h
        exact k_par ok h1 h2 (of_decide_eq_false (bool_of h3)) h4 h5 h6 (of_decide_eq_false (bool_of h7)) h8 h9 (bool_of h10) (bool_of h11) (hot_of hh)
    | _ => exact absurd h Bool.false_ne_true
  | .setIx a i e, S, X, sc, W, ok, s, h => by
    cases s with
    | Assign tgs v pos =>
      match tgs, h with
      | [.Subscript o k p], h =>
        have h : (chkE S sc a o && chkE S sc i k && notSlice k && chkV S sc e v) = true := h
        simp only [Bool.and_eq_true] at h
        exact k_setIx ok h.1.1.1 h.1.1.2 h.1.2 h.2
    | _ => exact absurd h Bool.false_ne_true
  | .aug i o e, S, X, sc, W, ok, s, h => by
    cases s with
    | AugAssign tg op v pos =>
      cases tg with
      | Name x px =>
        have h : (decide (S.N[i]? = some x) && locB sc x && decide (o = op) && augOp o && chkE S sc e v && decide (S.hot ≠ some i)) = true := h
        simp only [Bool.and_eq_true, decide_eq_true_eq] at h
        obtain ⟨⟨⟨⟨⟨h1, h2⟩, h3⟩, h4⟩, h5⟩, hn⟩ := h
        subst h3
        exact k_aug ok h1 (loc_of h2) h4 h5 hn
      | _ => exact absurd h Bool.false_ne_true
    | _ => exact absurd h Bool.false_ne_true
  | .augIx a i o e, S, X, sc, W, ok, s, h => by
    cases s with
    | AugAssign tg op v pos =>
      cases tg with
      | Subscript x k p =>
        have h : (chkE S sc a x && chkE S sc i k && notSlice k && decide (o = op) && augOp o && chkE S sc e v) = true := h
        simp only [Bool.and_eq_true, decide_eq_true_eq] at h
        obtain ⟨⟨⟨⟨⟨h1, h2⟩, h3⟩, h4⟩, h5⟩, h6⟩ := h
        subst h4
        exact k_augIx ok h1 h2 h3 h5 h6
      | _ => exact absurd h Bool.false_ne_true
    | _ => exact absurd h Bool.false_ne_true
  | .ex e, S, X, sc, W, ok, s, h => by
    cases s with
    | Expr v pos =>
      have h : (chkE S sc e v && !isComp v) = true := h
      rw [Bool.and_eq_true] at h
      exact k_ex ok h.1 (bool_of h.2)
    | _ => exact absurd h Bool.false_ne_true
  | .ret e, S, X, sc, W, ok, s, h => by
    cases s with
    | Return v pos =>
      cases v with
      | some v => exact k_ret ok h
      | none => exact absurd h Bool.false_ne_true
    | _ => exact absurd h Bool.false_ne_true
  | .ret0, S, X, sc, W, ok, s, h => by
    cases s with
    | Return v pos =>
      cases v with
      | none => exact ps_retN.impH fun D σ H ⟨env, h, m, st, p⟩ => p m H _ .refl st.hr rfl
      | some v => exact absurd h Bool.false_ne_true
    | _ => exact absurd h Bool.false_ne_true
  | .pass, S, X, sc, W, ok, s, h => by
    cases s with
    | Pass pos => exact ps_pass.impH fun D σ H ⟨env, h, m, st, p⟩ => p.now st
    | _ => exact absurd h Bool.false_ne_true
  | .brk, S, X, sc, W, ok, s, h => by
    cases s with
    | Break pos => exact ps_break.impH fun D σ H ⟨env, h, m, st, p⟩ => p m H σ .refl st
    | _ => exact absurd h Bool.false_ne_true
  | .cont, S, X, sc, W, ok, s, h => by
    cases s with
    | Continue pos => exact ps_continue.impH fun D σ H ⟨env, h, m, st, p⟩ => p m H σ .refl st
    | _ => exact absurd h Bool.false_ne_true
  | .ite c a b, S, X, sc, W, ok, s, h => by
    cases s with
    | If t x y pos =>
      have h : (chkE S sc c t && chkSs S sc a x && chkSs S sc b y) = true := h
      simp only [Bool.and_eq_true] at h
      exact k_if ok h.1.1 (kSs a S X sc W ok x h.1.2) (kSs b S X sc W ok y h.2)
    | _ => exact absurd h Bool.false_ne_true
  | .whl c b, S, X, sc, W, ok, s, h => by
    cases s with
    | While t x orelse pos =>
      cases orelse with
      | nil =>
        have h : (chkE S sc c t && chkSs S sc b x && S.hot.isNone) = true := h
        rw [Bool.and_eq_true, Bool.and_eq_true] at h
        exact k_while ok h.1.1 (kSs b S X sc W ok x h.1.2) (hot_of h.2)
      | cons _ _ => exact absurd h Bool.false_ne_true
    | _ => exact absurd h Bool.false_ne_true
  | .for_ it t b, S, X, sc, W, ok, s, h => by
    cases s with
    | For tg iter x orelse pos =>
      cases orelse with
      | nil =>
        have h : (chkI S sc it tg iter && chkT S.N sc t tg && chkSs S sc b x && S.hot.isNone) = true := h
        simp only [Bool.and_eq_true] at h
        exact k_for ok h.1.1.1 h.1.1.2 (kSs b S X sc W ok x h.1.2) (hot_of h.2)
      | cons _ _ => exact absurd h Bool.false_ne_true
    | _ => exact absurd h Bool.false_ne_true
  | .setF c a f e, S, X, sc, W, ok, s, h => by
    cases s with
    | Assign tgs v pos =>
      match tgs, h with
      | [.Attribute o nm p], h =>
        have h : (decide (nm = f) && chkE S sc a o && chkE S sc e v && !isComp v && decide (c < S.ct.nc) && (S.ct.na c).contains f) = true := h
        simp only [Bool.and_eq_true, decide_eq_true_eq] at h
        obtain ⟨⟨⟨⟨⟨h1, h2⟩, h3⟩, h4⟩, h5⟩, h6⟩ := h
        subst h1
        exact k_setF ok h2 h3 (bool_of h4) h5 h6
    | _ => exact absurd h Bool.false_ne_true
  | .raise_, S, X, sc, W, ok, s, h => ps_never.impH fun D σ H ⟨env, h, m, st, p⟩ => p
  | .raise0 c, S, X, sc, W, ok, s, h => absurd h Bool.false_ne_true
  | .raise1 c f e, S, X, sc, W, ok, s, h => by
    cases s with
    | Raise o fr pos =>
      match o, fr, h with
      | some (.Call (.Name x p) [y] [] pc), none, h =>
        have h : (S.hot.isNone && decide (S.ct.xn[c]? = some x) && decide (S.ct.x1 c = some f) && glB sc x && okB x && chkE S sc e y) = true := h
        simp only [Bool.and_eq_true, decide_eq_true_eq] at h
        obtain ⟨⟨⟨⟨⟨h1, h2⟩, h3⟩, h4⟩, h5⟩, h6⟩ := h
        exact k_raise1 ok (hot_of h1) h2 h3 h4 h5 h6
    | _ => exact absurd h Bool.false_ne_true
  | .tryx c i b u, S, X, sc, W, ok, s, h => by
    cases s with
    | Try body hs oe fi pos =>
      match hs, oe, fi, h with
      | [.ExceptHandler (some (.Name x p)) (some n) (s0 :: su) ph], [], [], h =>
        have h : (S.hot.isNone && decide (S.ct.xn[c]? = some x) && glB sc x && okB x && decide (S.N[i]? = some n) && loc1 sc n && chkSs S sc b body && chkSs { S.toCk with hot := some i } sc u (s0 :: su)) = true := h
        simp only [Bool.and_eq_true, decide_eq_true_eq] at h
        obtain ⟨⟨⟨⟨⟨⟨⟨h1, h2⟩, h3⟩, h4⟩, h5⟩, h6⟩, h7⟩, h8⟩ := h
        exact k_try ok (hot_of h1) h2 h3 h4 h5 h6 (fun W' pn xe tk pa => kSs b S _ sc W' (okS_tr ok (hot_of h1) tk pa) body h7)
          (fun a oe x d pn hz hv => kSs u (S.inX i a x d) _ sc WN (okS_suite ok (hot_of h1) hz hv) (s0 :: su) h8)
    | _ => exact absurd h Bool.false_ne_true
  | .keepx c i k b, S, X, sc, W, ok, s, h => by
    cases s with
    | Try body hs oe fi pos =>
      match hs, oe, fi, h with
      | [.ExceptHandler (some (.Name x p)) (some n) (s0 :: su) ph], [], [], h =>
        have h : (S.hot.isNone && decide (S.ct.xn[c]? = some x) && glB sc x && okB x && decide (S.N[i]? = some n) && loc1 sc n && chkSs S sc b body && keepB S sc n k (keepH s0) && su.isEmpty) = true := h
        simp only [Bool.and_eq_true, decide_eq_true_eq] at h
        obtain ⟨⟨⟨⟨⟨⟨⟨⟨h1, h2⟩, h3⟩, h4⟩, h5⟩, h6⟩, h7⟩, h8⟩, h9⟩ := h
        exact k_keepB ok (hot_of h1) h2 h3 h4 h5 h6 h8 h9 (fun W' pn xe tk pa => kSs b S _ sc W' (okS_tr ok (hot_of h1) tk pa) body h7)
    | _ => exact absurd h Bool.false_ne_true
theorem kSs : ∀ (cs : List Sc) (S : St0) (X : Cx) (sc : Scope) (W : WX) (ok : OkS X S sc W) (ss : List Stmt), chkSs S sc cs ss = true → PSs X ss (TSs S W cs)
  | [], S, X, sc, W, ok, ss, h => by
    cases ss with
    | nil => exact k_nil
    | cons _ _ => exact absurd h Bool.false_ne_true
  | c :: cs, S, X, sc, W, ok, ss, h => by
    cases ss with
    | nil => exact absurd h Bool.false_ne_true
    | cons s ss =>
      have h : (chkS S sc c s && chkSs S sc cs ss) = true := h
      rw [Bool.and_eq_true] at h
      exact k_cons (kS c S X sc W ok s h.1) (kSs cs S X sc W ok ss h.2)
end
end Hr
set_option maxHeartbeats 4000000
/-! Defs: each keeps what its code says. -/
namespace Hr
open PySem PySem.Spec PyProof.Rows L2
section
variable {T : Tb} {n N : Nat} {m : Gh} {H : Hp} {h : Hv}
mutual
/-- a value whose lists may stand at cells from n on -/
def Rm (T : Tb) (n N : Nat) (m : Gh) (H : Hp) : D → V → Prop
  | .non, v => v = .non
  | .bl b, v => v = .bl b
  | .int i, v => v = .int i
  | .str s, v => v = .str s
  | .tup xs, v => ∃ a vs, v = .ref a ∧ ((Rd H a (.tup vs) ∧ Off n m a) ∨ KT T.K a vs) ∧ RmL T n N m H xs vs
  | .lst xs, v => ∃ a vs, v = .ref a ∧ (H a = some (.lst vs) ∧ Off n m a) ∧ RmL T n N m H xs vs
  | .ro xs, v => ∃ a vs, v = .ref a ∧ ((Rd H a (.lst vs) ∧ Off n m a) ∨ KL T.K a vs) ∧ RmL T n N m H xs vs
  | .dct ks vs, v => ∃ a us, v = .ref a ∧ DR H a ks us ∧ Off n m a ∧ RmL T n N m H vs us
  | .ref k, v => k < N ∧ v = .ref (m k)
def RmL (T : Tb) (n N : Nat) (m : Gh) (H : Hp) : List D → List V → Prop
  | [], vs => vs = []
  | d :: ds, vs => ∃ v r, vs = v :: r ∧ Rm T n N m H d v ∧ RmL T n N m H ds r
end
theorem Off.le {a : Addr} (o : Off N m a) (h : n ≤ N) : Off n m a := ⟨fun i hi => o.1 i (Nat.lt_of_lt_of_le hi h), o.2⟩
mutual
theorem rm_of (hn : n ≤ N) : ∀ (d : D) (v : V), RepV T N m H d v → Rm T n N m H d v
  | .non, _, r => r
  | .bl _, _, r => r
  | .int _, _, r => r
  | .str _, _, r => r
  | .tup xs, _, ⟨a, vs, e, q, l⟩ => ⟨a, vs, e, q.imp (fun q => ⟨q.1, q.2.le hn⟩) id, rmL_of hn xs vs l⟩
  | .lst xs, _, ⟨a, vs, e, q, l⟩ => ⟨a, vs, e, ⟨q.1, q.2.le hn⟩, rmL_of hn xs vs l⟩
  | .ro xs, _, ⟨a, vs, e, q, l⟩ => ⟨a, vs, e, q.imp (fun q => ⟨q.1, q.2.le hn⟩) id, rmL_of hn xs vs l⟩
  | .dct ks xs, _, ⟨a, us, e, q, f, l⟩ => ⟨a, us, e, q, f.le hn, rmL_of hn xs us l⟩
  | .ref _, _, r => r
theorem rmL_of (hn : n ≤ N) : ∀ (ds : List D) (vs : List V), RepL T N m H ds vs → RmL T n N m H ds vs
  | [], _, r => r
  | d :: ds, _, ⟨v, w, e, a, b⟩ => ⟨v, w, e, rm_of hn d v a, rmL_of hn ds w b⟩
end
mutual
theorem rm_frz (hr : HR T m H h) (hn : n ≤ h.length) : ∀ (d : D) (v : V), Rm T n h.length m H d v → Rm T n h.length m H (frz h n d) v
  | .non, _, r => r
  | .bl _, _, r => r
  | .int _, _, r => r
  | .str _, _, r => r
  | .tup xs, _, ⟨a, vs, e, q, l⟩ => ⟨a, vs, e, q, rmL_frz hr hn xs vs l⟩
  | .lst xs, _, ⟨a, vs, e, q, l⟩ => ⟨a, vs, e, q, rmL_frz hr hn xs vs l⟩
  | .ro xs, _, ⟨a, vs, e, q, l⟩ => ⟨a, vs, e, q, rmL_frz hr hn xs vs l⟩
  | .dct ks xs, _, ⟨a, us, e, q, f, l⟩ => ⟨a, us, e, q, f, rmL_frz hr hn xs us l⟩
  | .ref k, v, r => by
    show Rm T n h.length m H (if n ≤ k then match h[k]? with
      | some (.lst ds) => .lst ds
      | some (.dct ks vs) => .dct ks vs
      | _ => .ref k
    else .ref k) v
    by_cases c : n ≤ k
    · rw [if_pos c]
      split
      · rename_i ds e
        obtain ⟨vs, e1, l⟩ := hr.cell k _ e
        exact ⟨m k, vs, r.2, ⟨e1, fun i hi z => absurd (hr.inj i k (Nat.lt_of_lt_of_le hi hn) r.1 z) (by omega), hr.off k r.1⟩, rmL_of hn _ _ l⟩
      · rename_i ks xs e
        obtain ⟨us, e1, l⟩ := hr.cell k _ e
        exact ⟨m k, us, r.2, e1.rd, ⟨fun i hi z => absurd (hr.inj i k (Nat.lt_of_lt_of_le hi hn) r.1 z) (by omega), hr.off k r.1⟩, rmL_of hn _ _ l⟩
      · exact r
    · rw [if_neg c]
      exact r
theorem rmL_frz (hr : HR T m H h) (hn : n ≤ h.length) : ∀ (ds : List D) (vs : List V), RmL T n h.length m H ds vs → RmL T n h.length m H (frzs h n ds) vs
  | [], _, r => r
  | d :: ds, _, ⟨v, w, e, a, b⟩ => ⟨v, w, e, rm_frz hr hn d v a, rmL_frz hr hn ds w b⟩
end
mutual
theorem rm_below : ∀ (d : D) (v : V), Rm T n N m H d v → below n d = true → RepV T n m H d v
  | .non, _, r, _ => r
  | .bl _, _, r, _ => r
  | .int _, _, r, _ => r
  | .str _, _, r, _ => r
  | .tup xs, _, ⟨a, vs, e, q, l⟩, b => ⟨a, vs, e, q, rmL_below xs vs l b⟩
  | .lst xs, _, ⟨a, vs, e, q, l⟩, b => ⟨a, vs, e, q, rmL_below xs vs l b⟩
  | .ro xs, _, ⟨a, vs, e, q, l⟩, b => ⟨a, vs, e, q, rmL_below xs vs l b⟩
  | .dct ks xs, _, ⟨a, us, e, q, f, l⟩, b => by
    have b : (belows n ks && belows n xs) = true := b
    rw [Bool.and_eq_true] at b
    exact ⟨a, us, e, q, f, rmL_below xs us l b.2⟩
  | .ref k, _, r, b => ⟨of_decide_eq_true b, r.2⟩
theorem rmL_below : ∀ (ds : List D) (vs : List V), RmL T n N m H ds vs → belows n ds = true → RepL T n m H ds vs
  | [], _, r, _ => r
  | d :: ds, _, ⟨v, w, e, a, b⟩, c => by
    have c : (below n d && belows n ds) = true := c
    rw [Bool.and_eq_true] at c
    exact ⟨v, w, e, rm_below d v a c.1, rmL_below ds w b c.2⟩
end
theorem keys_below : ∀ (ks : List D) (kk : List L2.Key), keysD ks = some kk → belows N ks = true
  | [], _, _ => rfl
  | d :: ds, kk, e => by
    have e : (keyD d).bind (fun k => (keysD ds).map (k :: ·)) = some kk := e
    cases z : keysD ds with
    | none => rw [z] at e; cases y : keyD d <;> rw [y] at e <;> cases e
    | some ll =>
      show (below N d && belows N ds) = true
      rw [keys_below ds ll z]
      cases d with
      | int _ => rfl
      | str _ => rfl
      | _ => cases e
mutual
theorem rep_below : ∀ (d : D) (v : V), RepV T N m H d v → below N d = true
  | .non, _, _ => rfl
  | .bl _, _, _ => rfl
  | .int _, _, _ => rfl
  | .str _, _, _ => rfl
  | .tup xs, _, ⟨a, vs, e, q, l⟩ => repL_below xs vs l
  | .lst xs, _, ⟨a, vs, e, q, l⟩ => repL_below xs vs l
  | .ro xs, _, ⟨a, vs, e, q, l⟩ => repL_below xs vs l
  | .dct ks xs, _, ⟨a, us, e, ⟨kk, q, _⟩, f, l⟩ => by
    show (belows N ks && belows N xs) = true
    rw [keys_below ks kk q, repL_below xs us l]
    rfl
  | .ref k, _, r => decide_eq_true r.1
theorem repL_below : ∀ (ds : List D) (vs : List V), RepL T N m H ds vs → belows N ds = true
  | [], _, _ => rfl
  | d :: ds, _, ⟨v, w, e, a, b⟩ => by
    show (below N d && belows N ds) = true
    rw [rep_below d v a, repL_below ds w b]
    rfl
end
mutual
theorem below_mono (hn : n ≤ N) : ∀ d : D, below n d = true → below N d = true
  | .non, _ => rfl
  | .bl _, _ => rfl
  | .int _, _ => rfl
  | .str _, _ => rfl
  | .tup xs, h => belows_mono hn xs h
  | .lst xs, h => belows_mono hn xs h
  | .ro xs, h => belows_mono hn xs h
  | .dct ks vs, h => by
    have h : (belows n ks && belows n vs) = true := h
    rw [Bool.and_eq_true] at h
    show (belows N ks && belows N vs) = true
    rw [belows_mono hn ks h.1, belows_mono hn vs h.2]
    rfl
  | .ref k, h => decide_eq_true (Nat.lt_of_lt_of_le (of_decide_eq_true h) hn)
theorem belows_mono (hn : n ≤ N) : ∀ ds : List D, belows n ds = true → belows N ds = true
  | [], _ => rfl
  | d :: ds, h => by
    have h : (below n d && belows n ds) = true := h
    rw [Bool.and_eq_true] at h
    show (below N d && belows N ds) = true
    rw [below_mono hn d h.1, belows_mono hn ds h.2]
    rfl
end
theorem settle_pos {h' : Hv} {d : D} (c : below h.length (frz h' h.length (frz h' h.length d)) = true ∧ kept h h') : settle h d h' = .ok (frz h' h.length (frz h' h.length d)) (h'.take h.length) := by
  unfold settle
  exact if_pos c
theorem settle_neg {h' : Hv} {d : D} (c : ¬ (below h.length (frz h' h.length (frz h' h.length d)) = true ∧ kept h h')) : settle h d h' = .ok d h' := by
  unfold settle
  exact if_neg c
theorem settle_ok {d : D} {h' : Hv} {Q : VK} {Wx : XK} (hr0 : HR T m H h) (p : Post T h.length m H (RepV T) Q Wx (settle h d h')) : ∀ m' H' v, Ext h.length m H h'.length m' H' → HR T m' H' h' → RepV T h'.length m' H' d v → Q v H' := by
  intro m' H' v x hr r
  by_cases c : below h.length (frz h' h.length (frz h' h.length d)) = true ∧ kept h h'
  · rw [settle_pos c] at p
    have hl : (h'.take h.length).length = h.length := by rw [List.length_take]; exact Nat.min_eq_left x.le
    have p : ∀ m2 H2 v, Ext h.length m H (h'.take h.length).length m2 H2 → HR T m2 H2 (h'.take h.length) → RepV T (h'.take h.length).length m2 H2 (frz h' h.length (frz h' h.length d)) v → Q v H2 := p
    rw [hl] at p
    refine p m' H' v ⟨Nat.le_refl _, x.mu, fun a o e f => ⟨(x.keep a o e f).1, (x.keep a o e f).2.le x.le⟩, x.side, x.prot⟩ ⟨fun n cl e => ?_, fun i j hi hj => ?_, fun i hi => ?_, hr.here⟩ ?_
    · rw [hl]
      have hn : n < h.length := by rw [← hl]; exact getElem?_lt e
      rw [List.getElem?_take_of_lt hn] at e
      obtain ⟨c', e', k⟩ := c.2 n _ (List.getElem?_eq_getElem hn)
      rw [e] at e'
      cases e'
      have q := hr.cell n cl e
      cases cl with
      | lst ds =>
        obtain ⟨vs, e1, l⟩ := q
        refine ⟨vs, e1, rmL_below _ _ (rmL_of x.le _ _ l) ?_⟩
        rcases k with k | k
        · have q0 := hr0.cell n _ (List.getElem?_eq_getElem hn)
          rw [← k] at q0
          obtain ⟨vs0, _, l0⟩ := q0
          exact repL_below _ _ l0
        · exact belows_mono (Nat.zero_le _) _ k
      | dct ks ds =>
        obtain ⟨us, e1, l⟩ := q
        refine ⟨us, e1, rmL_below _ _ (rmL_of x.le _ _ l) ?_⟩
        rcases k with k | k
        · have q0 := hr0.cell n _ (List.getElem?_eq_getElem hn)
          rw [← k] at q0
          obtain ⟨us0, _, l0⟩ := q0
          exact repL_below _ _ l0
        · have k : (belows 0 ks && belows 0 ds) = true := k
          rw [Bool.and_eq_true] at k
          exact belows_mono (Nat.zero_le _) _ k.2
      | ins c fs =>
        obtain ⟨dx, us, e1, e2, f, l⟩ := q
        refine ⟨dx, us, e1, e2, f.le x.le, rmL_below _ _ (rmL_of x.le _ _ l) ?_⟩
        rcases k with k | k
        · have q0 := hr0.cell n _ (List.getElem?_eq_getElem hn)
          rw [← k] at q0
          obtain ⟨_, us0, _, _, _, l0⟩ := q0
          exact repL_below _ _ l0
        · exact belows_mono (Nat.zero_le _) _ k
      | exn x0 =>
        obtain ⟨d0, e1, rx⟩ := q
        refine ⟨d0, e1, ?_⟩
        obtain ⟨c0, args⟩ := x0
        match args, rx, k with
        | [], rx, _ => exact rx
        | [(f, y)], ⟨r1, a, u, r2, r3, o, ru⟩, k =>
          refine ⟨r1, a, u, r2, r3, o.le x.le, rm_below y u (rm_of x.le y u ru) ?_⟩
          rcases k with k | k
          · have q0 := hr0.cell n _ (List.getElem?_eq_getElem hn)
            rw [← k] at q0
            obtain ⟨_, _, _, _, _, _, _, _, ru0⟩ := q0
            exact rep_below y _ ru0
          · have k : (below 0 y && true) = true := k
            rw [Bool.and_true] at k
            exact below_mono (Nat.zero_le _) y k
        | _ :: _ :: _, ⟨_, z⟩, _ => exact z.elim
    · rw [hl] at hi hj
      exact hr.inj i j (Nat.lt_of_lt_of_le hi x.le) (Nat.lt_of_lt_of_le hj x.le)
    · rw [hl] at hi
      exact hr.off i (Nat.lt_of_lt_of_le hi x.le)
    · exact rm_below _ _ (rm_frz hr x.le _ _ (rm_frz hr x.le _ _ (rm_of x.le _ _ r))) c.1
  · rw [settle_neg c] at p
    exact p m' H' v x hr r
theorem ret_ok {raw : Bool} {Q : VK} {E : XK} {r : So} (hr0 : HR T m H h) (p : Post T h.length m H (RepV T) Q E (retOf raw h r)) : PostS T h.length m H { nx := fun _ H' => Q .non H', rt := Q } (fun c d _ H' => E c d H') r := by
  cases r with
  | no => exact p
  | bk _ _ => exact p.elim
  | ct _ _ => exact p.elim
  | ex x env h1 => exact fun m' H' c d σ' x st rx => p m' H' c d x st.hr rx
  | nx env h1 =>
    cases raw with
    | true => exact fun m' H' σ' x st => p m' H' .non x st.hr rfl
    | false => exact fun m' H' σ' x st => settle_ok hr0 p m' H' .non x st.hr rfl
  | rt d h1 =>
    cases raw with
    | true => exact fun m' H' v x hr rv => p m' H' v x hr rv
    | false => exact fun m' H' v x hr rv => settle_ok hr0 p m' H' v x hr rv
end
/-! ### the module's defs -/
section
variable {P : Program} {w : World} {K : PySem.W.Frag} {mg : Str → Option Value} {base : Heap}
abbrev mkS (P : Program) (w : World) (T : Tb) (F : List Fc) (G : Nat → D) (gn blt : List Str) (ct : Ct) (k : Nat) (N : List Str) : St0 := ⟨⟨F, gn, blt, N, ct, none⟩, T, L2N.CX P w, k, G⟩
/-- what the head tells -/
structure Mo (P : Program) (w : World) (K : PySem.W.Frag) (mg : Str → Option Value) (T : Tb) (F : List Fc) (G : Nat → D) (gn blt : List Str) (ct : Ct) : Prop where
  hK : K = T.K
  hblt : ∀ x, blt.contains x = true → mg x = none
  glo : ∀ (i : Nat) (x : Str), gn[i]? = some x → ∃ v u, mg x = some u ∧ RelV v u ∧ ∀ N m H, RepV T N m H (G i) v
  fns : ∀ (i : Nat) (fc : Fc), F[i]? = some fc → ∃ (f : Addr) (fd : FuncData) (ps : List Str) (qual : Str) (params : Arguments) (body : List Stmt) (scope : Scope) (dvs : List V), FunD K fc.name qual params body scope dvs [] f fd ∧ AtF K mg T fc f ∧ ps.length = fc.np ∧
    FnScope fc.names ps scope ∧ (∀ k, chkSs (mkS P w T F G gn blt ct k fc.names) scope fc.body body = true) ∧
    (∀ j, j ≤ fc.dfl.length → ∃ dvs dss, Vals dvs dss ∧ Binds K fd ps dss ∧ ∀ N m H, RepL T N m H (fc.dfl.drop j) dvs) ∧ ∀ ks pm, ct.kw.contains (i, ks, pm) = true → KwB K fd ps ks pm
  cls : ∀ c, c < ct.nc → Cls K (T.cl c)
  noat : ∀ c f, c < ct.nc → (ct.na c).contains f = true → NoAttr K (T.cl c) f
  xcs : ct.xn.length = T.nx
  xi : T.xi = none
  xc : ∀ c, c < T.nx → XcOk K ct T c
  xmg : ∀ c x, ct.xn[c]? = some x → mg x = some (.ref (T.xc c))
  xi1 : ∀ base c f, ct.x1 c = some f → OexC K (T.xc c) ∧ ∃ (fI : Addr) (fd : FuncData) (ps : List Str), PySem.W.findIn K (.ref (T.xc c)) "__init__" = some (some (.ref fI)) ∧ PySem.W.typeIn K (.ref fI) = some (.type "function") ∧ FnG P w K mg base (L2N.CX P w) 1 fI fd ps (spI (T.xc c) f) ∧ Binds K fd ps []
  mks : ∀ c, ct.mkb c = true → mg (ct.cn c) = some (.ref (T.cl c)) ∧ ∃ f, Mk K (T.cl c) f
variable {T : Tb} {F : List Fc} {G : Nat → D} {gn blt : List Str} {ct : Ct}
theorem cx_never : ∀ outer H s e s', ¬ L2N.CX P w outer H s (fun _ _ _ => False) e s' := fun outer H s e s' ⟨_, _, _, _, _, _, _, _, _, _, _, _, z⟩ => z
theorem env_start {m : Gh} {H : Hp} {h : Hv} {fc : Fc} {ds : List D} {vs : List V} (r : RepL T h.length m H ds vs) : EnvR T h.length m H (L2.start fc.names vs) (startE fc ds) := by
  have hl := r.length
  unfold L2.start startE
  refine ⟨by simp [hl], fun i d e => ?_⟩
  by_cases c : i < ds.length
  · rw [List.getElem?_append_left (by simpa using c), List.getElem?_map] at e
    obtain ⟨d', e1, e2⟩ := Option.map_eq_some_iff.mp e
    cases e2
    obtain ⟨v, ev, rv⟩ := r.get e1
    exact ⟨v, by rw [List.getElem?_append_left (by rw [List.length_map, ← hl]; exact c), List.getElem?_map, ev]; rfl, rv⟩
  · rw [List.getElem?_append_right (by simpa using c)] at e
    have := (List.getElem?_eq_some_iff.mp e).2
    simp at this
theorem fnG_all (M : Mo P w K mg T F G gn blt ct) : ∀ (k : Nat) (i : Nat) (fc : Fc), F[i]? = some fc → ∃ f fd ps, AtF K mg T fc f ∧ ps.length = fc.np ∧
    (∀ raw, FnG P w K mg base (L2N.CX P w) (2 * k + 1) f fd ps (spF (mkS P w T F G gn blt ct k []) i raw)) ∧ ((∀ j, j ≤ fc.dfl.length → ∃ dvs dss, Vals dvs dss ∧ Binds K fd ps dss ∧ ∀ N m H, RepL T N m H (fc.dfl.drop j) dvs) ∧ ∀ ks pm, ct.kw.contains (i, ks, pm) = true → KwB K fd ps ks pm) ∧
      ps = fc.names.take fc.np ∧ ∃ (qual : Str) (params : Arguments) (body : List Stmt) (scope : Scope) (dvs : List V), FunD K fc.name qual params body scope dvs [] f fd := by
  have pre : ∀ {fc : Fc} {ps : List Str} {scope : Scope}, FnScope fc.names ps scope → ps.length = fc.np → ps = fc.names.take fc.np := fun hs hl => by rw [← hl, hs.pre]
  intro k
  induction k with
  | zero =>
    intro i fc hf
    obtain ⟨f, fd, ps, qual, params, body, scope, dvs, FD, hm, hl, hs, hc, hd, hkw⟩ := M.fns i fc hf
    refine ⟨f, fd, ps, hm, hl, fun raw => ⟨fun vs H Q E ⟨_, _, _, _, _, _, _, _, p⟩ => p.elim, fun A outer s H args us vs Q E _ _ _ _ _ ⟨_, _, _, _, _, _, _, _, p⟩ => p.elim⟩, ⟨hd, hkw⟩, pre hs hl, qual, params, body, scope, dvs, FD⟩
  | succ k ih =>
    intro i fc hf
    obtain ⟨f, fd, ps, qual, params, body, scope, dvs, FD, hm, hl, hs, hc, hd, hkw⟩ := M.fns i fc hf
    refine ⟨f, fd, ps, hm, hl, fun raw => ?_, ⟨hd, hkw⟩, pre hs hl, qual, params, body, scope, dvs, FD⟩
    refine fnG_of FD hs (fun vs H Q E ⟨h, m, ds, fc', e, el, _, rl, _⟩ => ?_) (fun cdv A outer s H vs Q E room hg ⟨h, m, ds, fc', e, el, hr, rl, p⟩ => ?_)
    · have e : F[i]? = some fc' := e
      rw [hf] at e
      cases e
      rw [← rl.length, el, hl]
    · have e : F[i]? = some fc' := e
      rw [hf] at e
      cases e
      have p : Post T h.length m H (RepV T) Q E (match F[i]? with
        | some fc => if (fillA fc ds).length = fc.np ∧ ds.length ≤ fc.np then retOf raw h (execs ⟨callF G F k, G, none⟩ fc.body (startE fc (fillA fc ds)) h) else .no
        | none => .no) := p
      rw [hf] at p
      have p : Post T h.length m H (RepV T) Q E (if (fillA fc ds).length = fc.np ∧ ds.length ≤ fc.np then retOf raw h (execs ⟨callF G F k, G, none⟩ fc.body (startE fc (fillA fc ds)) h) else .no) := p
      have ef : fillA fc ds = ds := by
        unfold fillA
        rw [el, Nat.add_sub_cancel, List.drop_length, List.append_nil]
      rw [ef, if_pos ⟨el, Nat.le_of_eq el⟩] at p
      have hC : (mkS P w T F G gn blt ct k fc.names).C = ⟨callF G F k, G, none⟩ := by
        show (⟨callF G F k, G, T.xi.map XI.x⟩ : Cf) = _
        rw [M.xi]
        rfl
      refine ⟨TSs (mkS P w T F G gn blt ct k fc.names) (fun c d _ H' => E c d H') fc.body, ?_, startE fc ds, h, m, ⟨hr, env_start rl, .calm M.xi⟩, by rw [hC]; exact ret_ok hr p⟩
      refine kSs fc.body (mkS P w T F G gn blt ct k fc.names) _ scope _ {
        hK := M.hK
        hN := rfl
        nd := hs.nd
        hsc := rfl
        kind := hs.kind
        calm := fun _ => rfl
        gd := hg
        room := fun _ => room
        un := Nat.lt_of_le_of_lt (by show (A.deeper (envOfC qual scope s.heap.objs.size f cdv)).units + 200 ≤ (A.deeper (envOfC qual scope s.heap.objs.size f cdv)).units + 16 * (2 * k + 2) + 200; omega) room.un
        pass := fun σ => L2N.passAt (L2N.takes_of rfl rfl rfl rfl) σ
        never := cx_never
        blt := M.hblt
        glo := M.glo
        fns := fun _ i fc hf => let ⟨f, fd, ps, h1, h3, h4, h5, _⟩ := ih i fc hf; ⟨f, fd, ps, h1, h3, h4, h5⟩
        cls := M.cls
        noat := M.noat
        xcs := M.xcs
        xc := M.xc
        xmg := M.xmg
        hx := fun x e => by
          have e : T.xi = some x := e
          rw [M.xi] at e
          cases e
        mks := M.mks
        fn := fun _ => rfl
        hcx := rfl
        hs := rfl
        hf := rfl
        own := fun _ => passes_of rfl
        tk := fun _ => L2N.takes_of rfl rfl rfl rfl
        xi1 := fun _ c f e => by
          obtain ⟨O, fI, fd, ps, h1, h2, h3, h4⟩ := M.xi1 base c f e
          exact ⟨O, fI, fd, ps, h1, h2, h3.mono (by omega), h4⟩ } body (hc k)
theorem funD_same {x y q1 q2 : Str} {p1 p2 : Arguments} {b1 b2 : List Stmt} {s1 s2 : Scope} {d1 d2 : List V} {k1 k2 : List (Str × V)} {f : Addr} {fd1 fd2 : FuncData} (a : FunD K x q1 p1 b1 s1 d1 k1 f fd1) (b : FunD K y q2 p2 b2 s2 d2 k2 f fd2) : fd1 = fd2 := by
  obtain ⟨_, _, _, _, _, _, _, _, _, _, _, e1, _⟩ := a.ex
  obtain ⟨_, _, _, _, _, _, _, _, _, _, _, e2, _⟩ := b.ex
  rw [e1] at e2
  cases e2
  rfl
/-- the law's own call -/
theorem law_fn (M : Mo P w K mg T F G gn blt ct) {k i : Nat} {fc : Fc} {f : Addr} {fd : FuncData} {x q : Str} {p : Arguments} {b : List Stmt} {s : Scope} {d : List V} {ks : List (Str × V)} (hf : F[i]? = some fc) (hcl : fc.cls = none) (hm : mg fc.name = some (.ref f)) (a : FunD K x q p b s d ks f fd) : FnG P w K mg base (L2N.CX P w) (2 * k + 1) f fd (fc.names.take fc.np) (spF (mkS P w T F G gn blt ct k []) i false) := by
  obtain ⟨f', fd', ps', hat, _, hF, _, ep, qual, params, body, scope, dvs, FD'⟩ := fnG_all (base := base) M k i fc hf
  unfold AtF at hat
  rw [hcl] at hat
  have hm' := hat.1
  rw [hm] at hm'
  cases hm'
  cases funD_same a FD'
  subst ep
  exact hF false
/-- the law's own def on a script -/
theorem law_sp {i : Nat} {fc : Fc} {k : Nat} {H : Hp} {a : Addr} {ns : List Int} (hf : F[i]? = some fc) (h1 : fc.np = 1) (hS : SqL T.K H a (ns.map V.int)) (hp : callF G F k i false [.ro (ns.map D.int)] [] = .ok (.bl true) []) :
    spF (mkS P w T F G gn blt ct k []) i false [.ref a] H (fun v _ => v = .bl true) fun _ _ _ => False := by
  refine ⟨[], ⟨fun _ => 0, fun _ => False⟩, [.ro (ns.map D.int)], fc, hf, h1.symm, ⟨fun n c e => by simp at e, fun i j hi => absurd hi (Nat.not_lt_zero _), fun i hi => absurd hi (Nat.not_lt_zero _), fun a z => z.elim⟩, ?_, ?_⟩
  · refine ⟨.ref a, [], rfl, ⟨a, ns.map V.int, rfl, ?_, rep_ints ns⟩, rfl⟩
    rcases hS with q | ⟨o, its, n, h1, h2, h3, h4, h5, h6⟩
    · exact .inl ⟨q, fun n hn => absurd hn (Nat.not_lt_zero _), fun z => z⟩
    · exact .inr ⟨o, its, n, h1, h2, h3, h4, h5, h6⟩
  · show Post T _ _ H (RepV T) _ _ (callF G F k i false [.ro (ns.map D.int)] [])
    rw [hp]
    exact fun m' H' v _ _ r => r
end
end Hr
set_option maxHeartbeats 1000000
/-! The head: one more test of the written part; the module's constants. -/
namespace Hr
open PySem PySem.Spec PyProof.Rows L2
section
variable (n : Nat) (fa : List He.Fa) (fn : List He.DefD) (ex : PySem.W.Frag → Bool)
def obsE (g : Addr → Option Obj) : He.AlD × Bool := (He.obsDG n fa fn g, ex (He.frG g (He.asD g n)))
def hookE : PySem.W.Hook where
  α := He.AlD × Bool
  obs := fun s => obsE n fa fn ex s.heap.get?
  val := fun _ => (He.valD fn, true)
  says := fun _ h => ∃ K : PySem.W.Frag, K.In h ∧ He.SaysD fa fn K ∧ ex K = true
  of := fun _ _ e => ⟨_, He.frG_in, congrArg Prod.fst e, congrArg Prod.snd e⟩
  keeps := fun _ _ _ ⟨K, hK, c⟩ k => ⟨K, PySem.W.Frag.In.keeps hK k, c⟩
theorem obsE_eq {g : Addr → Option Obj} {s : Shared} (h : ∀ a, g a = s.heap.get? a) : obsE n fa fn ex g = (hookE n fa fn ex).obs s := by
  have e : g = s.heap.get? := funext h
  rw [e]
  rfl
end
section
variable {K : PySem.W.Frag} {h : Heap} {mg : Str → Option Value} {T : Tb}
theorem glo_tup {x : Str} {vs : List He.Dv} {ds : List D} (hT : K = T.K) (X : K.In h) (G : h.Ns mainGlobals mg) (c : (He.Fa.glo x).ok K = true) (t : He.tupB K x vs = true) (r : ∀ N m H, RepL T N m H ds (vs.map (He.Dv.v K))) :
    ∃ v u, mg x = some u ∧ RelV v u ∧ ∀ N m H, RepV T N m H (.tup ds) v := by
  refine ⟨.ref (He.ga K x), _, He.glo_ok X G c, rfl, fun N m H => ⟨_, _, rfl, .inr ?_, r N m H⟩⟩
  rw [← hT]
  rcases He.tupB_ok t (fun _ => none) with q | q
  · rcases q with q | ⟨_, q⟩ <;> cases q
  · obtain ⟨o, its, n, h1, h2, h3, h4, h5⟩ := q
    exact ⟨o, its, n, h1, h2, h3, h4, h5⟩
theorem glo_int {x : Str} {i : Int} (X : K.In h) (G : h.Ns mainGlobals mg) (c : (He.Fa.int x i).ok K = true) : ∃ v u, mg x = some u ∧ RelV v u ∧ ∀ N m H, RepV T N m H (.int i) v := by
  obtain ⟨t, e⟩ := He.int_ok X G c
  exact ⟨.int i, _, e, ⟨t, rfl⟩, fun _ _ _ => rfl⟩
theorem glo_str {x z : Str} (X : K.In h) (G : h.Ns mainGlobals mg) (c : (He.Fa.str x z).ok K = true) : ∃ v u, mg x = some u ∧ RelV v u ∧ ∀ N m H, RepV T N m H (.str z) v := by
  obtain ⟨t, e⟩ := He.str_ok X G c
  exact ⟨.str z, _, e, ⟨t, rfl⟩, fun _ _ _ => rfl⟩
/-- how a def without defaults is called by names alone -/
theorem kwB_def {x q : Str} {params : Arguments} {body : List Stmt} {scope : Scope} {kws : List (Str × V)} {f : Addr} {fd : FuncData} {ps ks : List Str} {pm : List Nat} (F : FunD K x q params body scope [] kws f fd)
    (b : ∀ (kV doc pq : Value) (an : Option Addr) (cd ct : Value) (ws us : List Value), ws.length = ks.length → permD ws pm = some us → bindArgs (PySem.W.fnOf x q params body scope .none kV doc pq an cd ct) ⟨[], ks.zip ws⟩ = pure (ps.zip us)) : KwB K fd ps ks pm := by
  intro s ws us _ e1 e2
  obtain ⟨_, _, dV, _, _, _, _, _, _, _, rfl, _, _, dv, _⟩ := F.ex
  cases dv with
  | inl z => cases z.2; exact .of_eq (b _ _ _ _ _ _ ws us e1 e2)
  | inr z => exact (z.1 rfl).elim
end
end Hr
set_option maxHeartbeats 4000000
/-! The head: classes of exceptions. -/
namespace Hr
open PySem PySem.Spec PyProof.Rows L2
section
variable {P : Program} {w : World} {K : PySem.W.Frag} {mg : Str → Option Value} {base : Heap} {C fI : Addr} {fd : FuncData}
/-- def __init__(self, p): ValueError.__init__(self, 'text'); self.f = p -/
def initBody (self p f : Str) (text : Str) (b : List Stmt) : Bool := match b with
  | [.Expr (.Call (.Attribute (.Name v p1) i p2) [.Name s p3, .Constant (.str t) j p4] [] p5) p6, .Assign [.Attribute (.Name s2 p7) g p8] (.Name q p9) p10] =>
    decide (v = ("ValueError" : Str)) && decide (i = ("__init__" : Str)) && decide (s = self) && decide (t = text) && decide (s2 = self) && decide (g = f) && decide (q = p) && (p2.endLine == p5.line)
  | _ => false
theorem fnG_init {qual : Str} {params : Arguments} {body : List Stmt} {scope : Scope} {self p f text : Str} (FD : FunD K "__init__" qual params body scope [] [] fI fd) (S : FnScope [self, p] [self, p] scope) (hb : initBody self p f text body = true)
    (hs : okB self = true ∧ okB p = true ∧ locB scope self = true ∧ locB scope p = true ∧ self ≠ p) (hg : scope.names.lookup ("ValueError" : Str) = some .globalImplicit) (hm : mg "ValueError" = none) (vV : PySem.W.findCls K (.type "ValueError") (.type "type") "__init__" = some (.val (.builtin "ValueError.__init__")))
    (T : OexC K C) (hno : PySem.W.findIn K (.ref C) f = some none) : FnG P w K mg base (L2N.CX P w) 1 fI fd [self, p] (spI C f) := by
  refine fnG_of FD S (fun vs H Q E ⟨a, v, e, _⟩ => by rw [e]; rfl) (fun cdv A outer s H vs Q E room hgd ⟨a, v, ev, ea, q⟩ => ?_)
  unfold initBody at hb
  split at hb
  · rename_i v0 p1 i p2 s0 p3 t j p4 p5 p6 s2 p7 g p8 q0 p9 p10
    simp only [Bool.and_eq_true, decide_eq_true_eq] at hb
    obtain ⟨⟨⟨⟨⟨⟨⟨e1, e2⟩, e3⟩, e4⟩, e5⟩, e6⟩, e7⟩, hl⟩ := hb
    subst e1 e2 e3 e4 e5 e6 e7
    obtain ⟨o1, o2, l1, l2, ne⟩ := hs
    have nS : PE (cxOf (L2N.CX P w) P w K mg base [s2, q0] qual scope fI cdv A outer s H E) (.Name s2 p3) (tVar 0) := pe_var rfl (vis_loc l1) (okB_1 o1) (okB_2 o1)
    have nS2 : PE (cxOf (L2N.CX P w) P w K mg base [s2, q0] qual scope fI cdv A outer s H E) (.Name s2 p7) (tVar 0) := pe_var rfl (vis_loc l1) (okB_1 o1) (okB_2 o1)
    have nP : PE (cxOf (L2N.CX P w) P w K mg base [s2, q0] qual scope fI cdv A outer s H E) (.Name q0 p9) (tVar 1) := pe_var rfl (vis_loc l2) (okB_1 o2) (okB_2 o2)
    have hv : PE (cxOf (L2N.CX P w) P w K mg base [s2, q0] qual scope fI cdv A outer s H E) (.Call (.Attribute (.Name "ValueError" p1) "__init__" p2) [.Name s2 p3, .Constant (.str t) j p4] [] p5) (tVeI K (tCons (tVar 0) (tCons (tC (.str t)) tNil))) :=
      pe_veinit hg hm vV (pa_cons nS (pa_cons pe_str pa_nil rfl) rfl) (ev_meth (mt_base' rfl) hl rfl) rfl rfl
    refine ⟨_, pss_cons (ps_expr hv rfl) (pss_cons (ps_ost nS2 nP rfl) pss_nil), ?_⟩
    subst ev
    refine ⟨.ref a, rfl, ?_⟩
    refine ⟨a, C, [.str t], rfl, by simp, T, ea, ?_⟩
    refine ⟨v, rfl, .ref a, rfl, a, C, rfl, T, hno, .inl ⟨ea, fun dx hdx ne => q dx hdx ne⟩⟩
  · cases hb
end
section
variable {K : PySem.W.Frag}
/-- own exception classes over ValueError whose instances have a dict: by the written part -/
def oexB (K : PySem.W.Frag) (C : Addr) : Bool := (match K.lookup C with
  | some ⟨.type "type", _, .cls cd, sl⟩ => (match cd.mro, sl.toList with
    | .ref C' :: bm, [_, _, _, _, some (.builtin n), _] => decide (C' = C) && decide (n = "ValueError.__new__") && !cd.hasDel && cd.hasDict && PySem.HandSPX.refsVE bm
    | _, _ => false)
  | _ => false) && decide (PySem.W.findIn K (.ref C) "__setattr__" = some (some (.builtin "object.__setattr__"))) && decide (PySem.W.subIn K (.ref C) (.type "BaseException") = some true) && decide (PySem.W.typeIn K (.ref C) = some (.type "type")) && PySem.W.keepIn K (.ref C)
theorem oexB_ok {C : Addr} (h : oexB K C = true) : OexC K C := by
  unfold oexB at h
  simp only [Bool.and_eq_true, decide_eq_true_eq] at h
  obtain ⟨⟨⟨⟨h1, h2⟩, h3⟩, h4⟩, h5⟩ := h
  refine ⟨?_, h2, h3, h4, h5⟩
  split at h1
  · rename_i dd cd sl ho
    split at h1
    · rename_i C' bm k0 k1 k2 k3 n k5 hm hs
      simp only [Bool.and_eq_true, decide_eq_true_eq, Bool.not_eq_true'] at h1
      obtain ⟨⟨⟨⟨rfl, rfl⟩, hdel⟩, hdd⟩, hr⟩ := h1
      obtain ⟨nm, bs, mro, ns, qn, hd, sn, sub, ab, col, del⟩ := cd
      dsimp only at hm hdel hdd
      subst hm hdel hdd
      have hsl : sl = #[k0, k1, k2, k3, some (.builtin "ValueError.__new__"), k5] := by
        obtain ⟨l⟩ := sl
        simp only at hs
        rw [hs]
      subst hsl
      exact ⟨nm, qn, ns, bs, bm, sn, sub, ab, col, dd, k0, k1, k2, k3, k5, ho, hr⟩
    · cases h1
  · cases h1
/-- what the head says of the c-th exception class -/
def xcB (K : PySem.W.Frag) (ct : Ct) (c : Nat) : Bool :=
  let C := He.ga K (ct.xn.getD c "")
  PySem.W.keepIn K (.ref C) && decide (PySem.W.findIn K (.ref C) "__getattribute__" = some (some (.builtin "BaseException.__getattribute__"))) && decide (PySem.W.findIn K (.ref C) "__getattr__" = some none) &&
  decide (PySem.W.subIn K (.ref C) (.type "BaseException") = some true) && decide (PySem.W.typeIn K (.ref C) = some (.type "type")) && PySem.W.hasDictIn K C && decide (PySem.W.findIn K (.ref C) "__class__" = some (some (.builtin "object.__class__"))) &&
  decide (PySem.W.mroIn K C (.type "object") = some true) && decide (PySem.W.specialIn K (.builtin "object.__class__") "__get__" = some (some (.builtin "getset_descriptor.__get__"))) && decide (PySem.W.takesIn K (.builtin "object.__class__") = some true) &&
  ct.xo.all (fun f => decide (PySem.W.findIn K (.ref C) f = some none)) &&
  (List.range ct.xn.length).all (fun j => decide (PySem.W.kitOne K (.ref C) (.ref (He.ga K (ct.xn.getD j ""))) = some (decide (c = j))) && decide (PySem.W.exmOne K (.ref C) (.ref (He.ga K (ct.xn.getD j ""))) = some (decide (c = j)))) &&
  ct.xt.all (fun n => decide (PySem.W.kitOne K (.ref C) (.type n) = some ((ct.xb c).contains n)))
/-- the tables by the head's names -/
def tbOf (K : PySem.W.Frag) (ct : Ct) : Tb := ⟨K, ct.xn.length, fun c => He.ga K (ct.xn.getD c ""), fun c => He.ga K (ct.cn c), none⟩
theorem xcB_ok {ct : Ct} {c : Nat} (h : xcB K ct c = true) : XcOk K ct (tbOf K ct) c := by
  unfold xcB at h
  simp only [Bool.and_eq_true, decide_eq_true_eq] at h
  obtain ⟨⟨⟨⟨⟨⟨⟨⟨⟨⟨⟨⟨h1, h2⟩, h3⟩, h4⟩, h5⟩, h6⟩, h7⟩, h8⟩, h9⟩, h10⟩, h11⟩, h12⟩, h13⟩ := h
  refine ⟨h1, h2, h3, h4, h5, h6, h7, h8, h9, h10, fun f hf => ?_, fun j hj => ?_, fun n hn => ?_⟩
  · exact of_decide_eq_true (List.all_eq_true.mp h11 f (List.contains_iff_mem.mp hf))
  · have := List.all_eq_true.mp h12 j (List.mem_range.mpr hj)
    rw [Bool.and_eq_true, decide_eq_true_eq, decide_eq_true_eq] at this
    exact this
  · exact of_decide_eq_true (List.all_eq_true.mp h13 n (List.contains_iff_mem.mp hn))
def xcsB (K : PySem.W.Frag) (ct : Ct) : Bool := (List.range ct.xn.length).all (xcB K ct)
theorem xcsB_ok {ct : Ct} (h : xcsB K ct = true) : ∀ c, c < (tbOf K ct).nx → XcOk K ct (tbOf K ct) c := fun c hc => xcB_ok (List.all_eq_true.mp h c (List.mem_range.mpr hc))
def iniB (K : PySem.W.Frag) (x f : Str) : Bool := oexB K (He.ga K x) && decide (PySem.W.findIn K (.ref (He.ga K x)) "__init__" = some (some (.ref (He.ma K (He.ga K x) "__init__")))) && decide (PySem.W.typeIn K (.ref (He.ma K (He.ga K x) "__init__")) = some (.type "function")) && decide (PySem.W.findIn K (.ref (He.ga K x)) f = some none)
theorem findCls_ve : PySem.W.findCls K (.type "ValueError") (.type "type") "__init__" = some (.val (.builtin "ValueError.__init__")) := by kernel_rfl
theorem iniB_ok {x f : Str} (h : iniB K x f = true) : OexC K (He.ga K x) ∧ PySem.W.findIn K (.ref (He.ga K x)) "__init__" = some (some (.ref (He.ma K (He.ga K x) "__init__"))) ∧ PySem.W.typeIn K (.ref (He.ma K (He.ga K x) "__init__")) = some (.type "function") ∧ PySem.W.findIn K (.ref (He.ga K x)) f = some none := by
  unfold iniB at h
  simp only [Bool.and_eq_true, decide_eq_true_eq] at h
  exact ⟨oexB_ok h.1.1.1, h.1.1.2, h.1.2, h.2⟩
theorem atF_fn {mg : Str → Option Value} {T : Tb} {fc : Fc} {f : Addr} (h : fc.cls = none) (a : mg fc.name = some (.ref f)) (b : PySem.W.keepIn K (.ref f) = true) : AtF K mg T fc f := by
  unfold AtF
  rw [h]
  exact ⟨a, b⟩
end
end Hr
set_option maxHeartbeats 1000000
/-! Tools for the plain laws: equations of the evaluator, settle, pools, comprehensions, loops. -/
namespace Hr
open PySem
section
variable {α β : Type} {f : α → Hv → Rs β} {a : α} {h : Hv}
@[simp] theorem bind_ok : (Rs.ok a h).bind f = f a h := id rfl
@[simp] theorem bind_no : (Rs.no : Rs α).bind f = .no := id rfl
@[simp] theorem quiet_ok : (Rs.ok a h).quiet = .ok a h := id rfl
@[simp] theorem toS_ok {env : En} {g : α → Hv → So} : (Rs.ok a h).toS env g = g a h := id rfl
@[simp] theorem testD_bl {b : Bool} : testD (.bl b) h = .ok b h := id rfl
@[simp] theorem okD_some {d : D} : okD (some d) h = .ok d h := id rfl
@[simp] theorem blD_some {b : Bool} : blD (some b) h = .ok (.bl b) h := id rfl
@[simp] theorem intD_some {i : Int} : intD (some i) h = .ok (.int i) h := id rfl
end
section
variable {C : Cf} {env : En} {h h1 : Hv}
@[simp] theorem execs_nil : execs C [] env h = .nx env h := id rfl
theorem execs_cons {s : Sc} {ss : List Sc} : execs C (s :: ss) env h = match exec C s env h with
  | .nx env h => execs C ss env h
  | r => r := rfl
theorem execs_nx {s : Sc} {ss : List Sc} {env1 : En} (e : exec C s env h = .nx env1 h1) : execs C (s :: ss) env h = execs C ss env1 h1 := by
  rw [execs_cons, e]
theorem execs_rt {s : Sc} {ss : List Sc} {d : D} (e : exec C s env h = .rt d h1) : execs C (s :: ss) env h = .rt d h1 := by
  rw [execs_cons, e]
@[simp] theorem evs_nil : evs C [] env h = .ok [] h := id rfl
end
section
variable {env : En} {i : Nat} {d : D} {t : Tc} {ts : List Tc} {ds : List D}
@[simp] theorem setT_nm : setT (.nm i) d env = some (env.set i (some d)) := id rfl
@[simp] theorem setT_tp : setT (.tp ts) (.tup ds) env = setTs ts ds env := id rfl
@[simp] theorem setTs_nil : setTs [] [] env = some env := id rfl
@[simp] theorem setTs_cons : setTs (t :: ts) (d :: ds) env = (setT t d env).bind (setTs ts ds) := id rfl
@[simp] theorem wipe_nil : wipeD env [] = env := id rfl
@[simp] theorem wipe_cons {vs : List Nat} : wipeD env (i :: vs) = (wipeD env vs).set i none := id rfl
@[simp] theorem asS_tup {h : Hv} : asS h (.tup ds) = some ds := id rfl
@[simp] theorem asS_lst {h : Hv} : asS h (.lst ds) = some ds := id rfl
@[simp] theorem asS_ro {h : Hv} : asS h (.ro ds) = some ds := id rfl
@[simp] theorem asL_lst {h : Hv} : asL h (.lst ds) = some ds := id rfl
@[simp] theorem mkL_f {h : Hv} : mkL false ds h = .ok (.lst ds) h := id rfl
@[simp] theorem mkL_t {h : Hv} : mkL true ds h = .ok (.ref h.length) (h ++ [.lst ds]) := id rfl
end
section
variable {m : Bool} {x y : D} {h : Hv} {i j : Int} {b : Bool} {ns : List Int}
@[simp] theorem biD_len : biD m .len [x] h = okD ((lenD h x).map fun n => .int n) h := id rfl
@[simp] theorem biD_abs : biD m .abs [.int i] h = .ok (.int (if i < 0 then -i else i)) h := id rfl
@[simp] theorem biD_max : biD m .max [.int i, .int j] h = .ok (.int (if j > i then j else i)) h := id rfl
@[simp] theorem biD_min : biD m .min [.int i, .int j] h = .ok (.int (if j < i then j else i)) h := id rfl
@[simp] theorem biD_int : biD m .int [.int i] h = .ok (.int i) h := id rfl
@[simp] theorem biD_intb : biD m .int [.bl b] h = .ok (.int (if b then 1 else 0)) h := id rfl
@[simp] theorem biD_list : biD m .list [x] h = mkLo m h (asS h x) := id rfl
@[simp] theorem biD_tuple : biD m .tuple [x] h = okD ((asS h x).map .tup) h := id rfl
@[simp] theorem biD_sum : biD m .sum [x] h = okD (((asL h x).bind intsD).map fun ns => .int ns.sum) h := id rfl
@[simp] theorem biD_any : biD m .any [x] h = okD (((asS h x).bind trsD).map fun bs => .bl (bs.any id)) h := id rfl
@[simp] theorem biD_all : biD m .all [x] h = okD (((asS h x).bind trsD).map fun bs => .bl (bs.all id)) h := id rfl
@[simp] theorem biD_repr : biD m .repr [x] h = okD (reprD h x) h := id rfl
@[simp] theorem biD_sorted : biD m .sorted [x] h = mkLo m h (((asL h x).bind intsD).bind fun ns => some ((sortI ns).map .int)) := id rfl
@[simp] theorem mkLo_some {ds : List D} : mkLo m h (some ds) = mkL m ds h := id rfl
@[simp] theorem asI_int : asI (.int i) = some i := id rfl
@[simp] theorem len_tup {ds : List D} : lenD h (.tup ds) = some ds.length := id rfl
@[simp] theorem len_lst {ds : List D} : lenD h (.lst ds) = some ds.length := id rfl
@[simp] theorem len_ro {ds : List D} : lenD h (.ro ds) = some ds.length := id rfl
@[simp] theorem testD_int : testD (.int i) h = .ok (i != 0) h := id rfl
@[simp] theorem cmpD_lt : cmpD .Lt (.int i) (.int j) h = .ok (.bl (decide (i < j))) h := id rfl
@[simp] theorem cmpD_le : cmpD .LtE (.int i) (.int j) h = .ok (.bl (decide (i ≤ j))) h := id rfl
@[simp] theorem cmpD_gt : cmpD .Gt (.int i) (.int j) h = .ok (.bl (decide (j < i))) h := id rfl
@[simp] theorem cmpD_ge : cmpD .GtE (.int i) (.int j) h = .ok (.bl (decide (j ≤ i))) h := id rfl
theorem cmpD_eq : cmpD .Eq x y h = blD (eqD h x y) h := rfl
theorem cmpD_ne : cmpD .NotEq x y h = blD ((eqD h x y).map (!·)) h := rfl
@[simp] theorem cmpD_eqI : cmpD .Eq (.int i) (.int j) h = .ok (.bl (i == j)) h := id rfl
@[simp] theorem cmpD_neI : cmpD .NotEq (.int i) (.int j) h = .ok (.bl (!(i == j))) h := id rfl
@[simp] theorem binD_int {o : Operator} : binD m o (.int i) (.int j) h = intD (intOp o i j) h := id rfl
@[simp] theorem op_add : intOp .Add i j = some (i + j) := id rfl
@[simp] theorem op_sub : intOp .Sub i j = some (i - j) := id rfl
theorem op_mul (c : mulOk i j) : intOp .Mult i j = some (i * j) := if_pos c
theorem op_fdiv (c : divOk j) : intOp .FloorDiv i j = some (i.fdiv j) := if_pos c
theorem op_fmod (c : j ≠ 0) : intOp .Mod i j = some (i.fmod j) := if_neg c
theorem size_of {n : Nat} (c : n ≤ 16777216) : n ≤ sizeLine := by rw [sizeLine_eq]; exact c
@[simp] theorem size_3 : 3 ≤ sizeLine := size_of (by decide)
@[simp] theorem size_2 : 2 ≤ sizeLine := size_of (by decide)
@[simp] theorem size_1 : 1 ≤ sizeLine := size_of (by decide)
@[simp] theorem size_4 : 4 ≤ sizeLine := size_of (by decide)
@[simp] theorem size_5 : 5 ≤ sizeLine := size_of (by decide)
@[simp] theorem size_6 : 6 ≤ sizeLine := size_of (by decide)
@[simp] theorem size_7 : 7 ≤ sizeLine := size_of (by decide)
@[simp] theorem size_8 : 8 ≤ sizeLine := size_of (by decide)
@[simp] theorem size_9 : 9 ≤ sizeLine := size_of (by decide)
@[simp] theorem size_10 : 10 ≤ sizeLine := size_of (by decide)
@[simp] theorem size_11 : 11 ≤ sizeLine := size_of (by decide)
@[simp] theorem size_12 : 12 ≤ sizeLine := size_of (by decide)
@[simp] theorem size_13 : 13 ≤ sizeLine := size_of (by decide)
@[simp] theorem size_14 : 14 ≤ sizeLine := size_of (by decide)
@[simp] theorem size_15 : 15 ≤ sizeLine := size_of (by decide)
@[simp] theorem size_16 : 16 ≤ sizeLine := size_of (by decide)
end
/-! ### settle of values without cells -/
mutual
theorem frz_pure {h : Hv} {n : Nat} : ∀ d : D, below 0 d = true → frz h n d = d
  | .non, _ => rfl
  | .bl _, _ => rfl
  | .int _, _ => rfl
  | .str _, _ => rfl
  | .tup xs, e => congrArg D.tup (frzs_pure xs e)
  | .lst xs, e => congrArg D.lst (frzs_pure xs e)
  | .ro xs, e => congrArg D.ro (frzs_pure xs e)
  | .dct ks vs, e => by
    have e : (belows 0 ks && belows 0 vs) = true := e
    rw [Bool.and_eq_true] at e
    exact congrArg (D.dct ks) (frzs_pure vs e.2)
  | .ref k, e => absurd (of_decide_eq_true (show decide (k < 0) = true from e)) (Nat.not_lt_zero _)
theorem frzs_pure {h : Hv} {n : Nat} : ∀ ds : List D, belows 0 ds = true → frzs h n ds = ds
  | [], _ => rfl
  | d :: ds, e => by
    have e : (below 0 d && belows 0 ds) = true := e
    rw [Bool.and_eq_true] at e
    show frz h n d :: frzs h n ds = d :: ds
    rw [frz_pure d e.1, frzs_pure ds e.2]
end
theorem settle_pure {h h' : Hv} {d : D} (p : below 0 d = true) (k : kept h h') : settle h d h' = .ok d (h'.take h.length) := by
  have e : frz h' h.length (frz h' h.length d) = d := by rw [frz_pure d p, frz_pure d p]
  have := settle_pos (h := h) (h' := h') (d := d) (by rw [e]; exact ⟨below_mono (Nat.zero_le _) d p, k⟩)
  rw [e] at this
  exact this
theorem kept_refl {h : Hv} : kept h h := fun n c e => ⟨c, e, .inl rfl⟩
theorem settle_here {h : Hv} {d : D} (p : below 0 d = true) : settle h d h = .ok d h := by
  rw [settle_pure p kept_refl, List.take_length]
/-! ### pools -/
/-- at n stands a list of two ints -/
def PoolAt (n : Nat) (h : Hv) : Prop := ∃ a b : Int, h[n]? = some (.lst [.int a, .int b])
/-- from h to h' only the pool at n changes; more cells may stand behind -/
structure Same (n : Nat) (h h' : Hv) : Prop where
  le : h.length ≤ h'.length
  at_ : ∀ i, i < h.length → i ≠ n → h'[i]? = h[i]?
  pool : PoolAt n h'
theorem Same.refl {n : Nat} {h : Hv} (p : PoolAt n h) : Same n h h := ⟨Nat.le_refl _, fun _ _ _ => rfl, p⟩
theorem Same.trans {n : Nat} {h h1 h2 : Hv} (a : Same n h h1) (b : Same n h1 h2) : Same n h h2 :=
  ⟨Nat.le_trans a.le b.le, fun i hi ne => (b.at_ i (Nat.lt_of_lt_of_le hi a.le) ne).trans (a.at_ i hi ne), b.pool⟩
theorem Same.set {n : Nat} {h : Hv} {a b : Int} (hn : n < h.length) : Same n h (h.set n (.lst [.int a, .int b])) :=
  ⟨Nat.le_of_eq (by rw [List.length_set]), fun i _ ne => List.getElem?_set_ne (Ne.symm ne), a, b, List.getElem?_set_self hn⟩
theorem pool_lt {n : Nat} {h : Hv} (p : PoolAt n h) : n < h.length := by
  obtain ⟨a, b, e⟩ := p
  exact getElem?_lt e
theorem Same.kept {n : Nat} {h h' : Hv} (s : Same n h h') : kept h h' := fun i c e => by
  by_cases hi : i = n
  · subst hi
    obtain ⟨a, b, e1⟩ := s.pool
    exact ⟨_, e1, .inr rfl⟩
  · exact ⟨c, by rw [s.at_ i (getElem?_lt e) hi]; exact e, .inl rfl⟩
theorem settle_same {n : Nat} {h h' : Hv} {d : D} (p : below 0 d = true) (s : Same n h h') (hn : n < h.length) : settle h d h' = .ok d (h'.take h.length) ∧ Same n h (h'.take h.length) := by
  refine ⟨settle_pure p s.kept, ?_, fun i hi ne => ?_, ?_⟩
  · rw [List.length_take]; exact Nat.le_min.mpr ⟨Nat.le_refl _, s.le⟩
  · rw [List.getElem?_take_of_lt hi]; exact s.at_ i hi ne
  · obtain ⟨a, b, e⟩ := s.pool
    exact ⟨a, b, by rw [List.getElem?_take_of_lt hn]; exact e⟩
/-! ### comprehensions -/
section
variable {g : Hv → Prop} {f : D → Hv → Rs (Option D)}
/-- each item gives f's value, the heap as it was -/
theorem compM_map {φ : D → Option D} {h : Hv} (hg : g h) : ∀ {l : List D}, (∀ d ∈ l, f d h = .ok (φ d) h) → compM g f l h = .ok (l.filterMap φ) h
  | [], _ => comp_nil_pos hg
  | d :: l, k => by
    rw [comp_cons_pos hg, k d List.mem_cons_self, bind_ok, compM_map hg fun x hx => k x (List.mem_cons_of_mem _ hx), bind_ok, List.filterMap_cons]
    cases φ d <;> rfl
/-- each item gives some value of P, the pool at n may change -/
theorem compM_pool {n : Nat} {P : D → Prop} : ∀ {l : List D} {h : Hv}, PoolAt n h → (∀ h', Same n h h' → g h') → (∀ d ∈ l, ∀ h', Same n h h' → ∃ x h2, f d h' = .ok (some x) h2 ∧ Same n h' h2 ∧ P x) →
    ∃ ds h', compM g f l h = .ok ds h' ∧ Same n h h' ∧ ds.length = l.length ∧ ∀ d ∈ ds, P d
  | [], h, p, hg, _ => ⟨[], h, comp_nil_pos (hg h (.refl p)), .refl p, rfl, fun d hd => absurd hd (by simp)⟩
  | d :: l, h, p, hg, k => by
    obtain ⟨x, h2, e, s, px⟩ := k d List.mem_cons_self h (.refl p)
    obtain ⟨ds, h3, e3, s3, l3, p3⟩ := compM_pool (l := l) (h := h2) s.pool (fun h' s' => hg h' (s.trans s')) fun y hy h' s' => k y (List.mem_cons_of_mem _ hy) h' (s.trans s')
    refine ⟨x :: ds, h3, ?_, s.trans s3, by rw [List.length_cons, List.length_cons, l3], fun y hy => ?_⟩
    · rw [comp_cons_pos (hg h (.refl p)), e, bind_ok, e3, bind_ok]
      rfl
    · rcases List.mem_cons.mp hy with e | e
      · rw [e]; exact px
      · exact p3 y e
end
theorem callF_step {G : Nat → D} {F : List Fc} {k i : Nat} {raw : Bool} {ds : List D} {h : Hv} {fc : Fc} (e : F[i]? = some fc) (h1 : ds.length = fc.np) : callF G F (k + 1) i raw ds h = retOf raw h (execs ⟨callF G F k, G, none⟩ fc.body (startE fc ds) h) := by
  have a : callF G F (k + 1) i raw ds h = (match F[i]? with
    | some fc => if (fillA fc ds).length = fc.np ∧ ds.length ≤ fc.np then retOf raw h (execs ⟨callF G F k, G, none⟩ fc.body (startE fc (fillA fc ds)) h) else .no
    | none => .no) := rfl
  have ef : fillA fc ds = ds := by
    unfold fillA
    rw [h1, Nat.add_sub_cancel, List.drop_length, List.append_nil]
  rw [a, e]
  show (if (fillA fc ds).length = fc.np ∧ ds.length ≤ fc.np then retOf raw h (execs ⟨callF G F k, G, none⟩ fc.body (startE fc (fillA fc ds)) h) else .no) = _
  rw [ef, if_pos ⟨h1, Nat.le_of_eq h1⟩]
@[simp] theorem ret_rt {h h1 : Hv} {d : D} : retOf false h (.rt d h1) = settle h d h1 := id rfl
@[simp] theorem ret_rtR {h h1 : Hv} {d : D} : retOf true h (.rt d h1) = .ok d h1 := id rfl
theorem cellL_at {n : Nat} {h : Hv} {xs : List D} (e : h[n]? = some (.lst xs)) : cellL h (.ref n) = some (n, xs) := by
  simp only [cellL, e]
theorem asL_at {n : Nat} {h : Hv} {xs : List D} (e : h[n]? = some (.lst xs)) : asL h (.ref n) = some xs := by
  simp only [asL, e]
theorem idx_seq {h : Hv} {x : D} {xs : List D} {i : Int} (e : asS h x = some xs) : idxD h x (.int i) = atD xs i := by
  have n : dctAt h x = none := by
    cases x with
    | dct _ _ => cases e
    | ref n =>
      show (match h[n]? with | some (.dct ks vs) => some (ks, vs) | _ => none) = none
      have e : (match h[n]? with | some (.lst ds) => some ds | _ => none) = some xs := e
      split at e
      · rename_i q; rw [q]
      · cases e
    | _ => rfl
  unfold idxD
  rw [n]
  have s : idxL h x (.int i) = (asS h x).bind fun ds => atD ds i := by
    cases x <;> first | rfl | cases e
  show idxL h x (.int i) = _
  rw [s, e]
  rfl
theorem setIx_seq {h : Hv} {n : Nat} {xs : List D} {i : Int} {v : D} (e : h[n]? = some (.lst xs)) : setIxD (.ref n) (.int i) v h = (L2.ixN xs.length i).map fun j => h.set n (.lst (xs.set j v)) := by
  have c : cellD h (.ref n) = none := by
    show (match h[n]? with | some (.dct ks vs) => some (n, ks, vs) | _ => none) = none
    rw [e]
  unfold setIxD
  rw [c]
  show setIxL (.ref n) (.int i) v h = _
  unfold setIxL
  rw [cellL_at e]
  rfl
theorem mulOk_l {i j : Int} (h : i.natAbs < 2 ^ 64) : mulOk i j := .inl h
theorem mulOk_r {i j : Int} (h : j.natAbs < 2 ^ 64) : mulOk i j := .inr (.inl h)
theorem divOk_small {j : Int} (h : j ≠ 0) (h2 : j.natAbs < 2 ^ 64) : divOk j := ⟨h, by
  have : j.natAbs.log2 < 64 := (Nat.log2_lt (by omega)).mpr h2
  omega⟩
/-! ### loops over lists -/
section
variable {g : Hv → Prop} {f : D → En → Hv → So} {α A : Type}
/-- the heap as it was; A: what the slots hold -/
theorem loop_fold {enc : α → D} {I : A → En → Prop} {step : A → α → A} {h : Hv} (hg : g h) : ∀ (l : List α) (a : A) (env : En), I a env →
    (∀ x ∈ l, ∀ a env, I a env → ∃ env', (f (enc x) env h = .nx env' h ∨ f (enc x) env h = .ct env' h) ∧ I (step a x) env') → ∃ env', loopF g f (l.map enc) env h = .nx env' h ∧ I (l.foldl step a) env'
  | [], a, env, i, _ => ⟨env, loop_nil_pos hg, i⟩
  | x :: l, a, env, i, k => by
    obtain ⟨env1, e1, i1⟩ := k x List.mem_cons_self a env i
    obtain ⟨env2, e2, i2⟩ := loop_fold hg l (step a x) env1 i1 fun y hy => k y (List.mem_cons_of_mem _ hy)
    refine ⟨env2, ?_, i2⟩
    show loopF g f (enc x :: l.map enc) env h = _
    rw [loop_cons_pos hg]
    rcases e1 with e1 | e1
    · rw [e1]; exact e2
    · rw [e1]; exact e2
/-- the pool may change; the loop goes on to its end or leaves with a value -/
theorem loop_pool {n : Nat} {enc : α → D} {I : En → Prop} : ∀ (l : List α) (env : En) (h : Hv), PoolAt n h → (∀ h', Same n h h' → g h') → I env →
    (∀ x ∈ l, ∀ env h', Same n h h' → I env → ∃ env' h2, (f (enc x) env h' = .nx env' h2 ∨ f (enc x) env h' = .ct env' h2) ∧ Same n h' h2 ∧ I env') → ∃ env' h', loopF g f (l.map enc) env h = .nx env' h' ∧ Same n h h' ∧ I env'
  | [], env, h, p, hg, i, _ => ⟨env, h, loop_nil_pos (hg h (.refl p)), .refl p, i⟩
  | x :: l, env, h, p, hg, i, k => by
    obtain ⟨env1, h1, e1, s1, i1⟩ := k x List.mem_cons_self env h (.refl p) i
    obtain ⟨env2, h2, e2, s2, i2⟩ := loop_pool l env1 h1 s1.pool (fun h' s => hg h' (s1.trans s)) i1 fun y hy env h' s => k y (List.mem_cons_of_mem _ hy) env h' (s1.trans s)
    refine ⟨env2, h2, ?_, s1.trans s2, i2⟩
    show loopF g f (enc x :: l.map enc) env h = _
    rw [loop_cons_pos (hg h (.refl p))]
    rcases e1 with e1 | e1
    · rw [e1]; exact e2
    · rw [e1]; exact e2
end
end Hr
set_option maxHeartbeats 1000000
/-! Plain data of values: ==, repr. -/
namespace Hr
open PySem
mutual
def pd : D → PyData
  | .non => .none
  | .bl b => .bool b
  | .int i => .int i
  | .str s => .str s
  | .tup xs => .tuple (pds xs)
  | .lst xs => .list (pds xs)
  | .ro xs => .list (pds xs)
  | .dct _ _ => .none
  | .ref _ => .none
def pds : List D → List PyData
  | [] => []
  | d :: ds => pd d :: pds ds
end
def strB (s : Str) : Bool := decide ((reprText s).length ≤ 60)
mutual
/-- plain: no cell, no dict; ints and texts not too long -/
def okV : D → Bool
  | .non => true
  | .bl _ => true
  | .int i => decide (i.natAbs < 2 ^ 148)
  | .str s => strB s
  | .tup xs => okVs xs
  | .lst xs => okVs xs
  | .ro xs => okVs xs
  | .dct _ _ => false
  | .ref _ => false
def okVs : List D → Bool
  | [] => true
  | d :: ds => okV d && okVs ds
end
mutual
/-- a bound of the text's length -/
def wt : D → Nat
  | .tup xs => wts xs + 3
  | .lst xs => wts xs + 3
  | .ro xs => wts xs + 3
  | _ => 150
def wts : List D → Nat
  | [] => 0
  | d :: ds => wt d + 2 + wts ds
end
mutual
def dp : D → Nat
  | .tup xs => dps xs + 1
  | .lst xs => dps xs + 1
  | .ro xs => dps xs + 1
  | _ => 0
def dps : List D → Nat
  | [] => 0
  | d :: ds => max (dp d) (dps ds)
end
section
variable {f : Nat → Option PyData}
mutual
theorem strip_ok : ∀ d : D, okV d = true → strip f d = some (pd d)
  | .non, _ => rfl
  | .bl _, _ => rfl
  | .int _, _ => rfl
  | .str _, _ => rfl
  | .tup xs, h => by
    show (strips f xs).map _ = _
    rw [strips_ok xs h]
    rfl
  | .lst xs, h => by
    show (strips f xs).map _ = _
    rw [strips_ok xs h]
    rfl
  | .ro xs, h => by
    show (strips f xs).map _ = _
    rw [strips_ok xs h]
    rfl
  | .dct _ _, h => absurd (show false = true from h) Bool.false_ne_true
  | .ref _, h => absurd (show false = true from h) Bool.false_ne_true
theorem strips_ok : ∀ ds : List D, okVs ds = true → strips f ds = some (pds ds)
  | [], _ => rfl
  | d :: ds, h => by
    have h : (okV d && okVs ds) = true := h
    rw [Bool.and_eq_true] at h
    show (strip f d).bind _ = _
    rw [strip_ok d h.1]
    show (strips f ds).map _ = _
    rw [strips_ok ds h.2]
    rfl
end
end
theorem toP_ok {h : Hv} {d : D} (k : okV d = true) : toP h d = some (pd d) := strip_ok d k
mutual
theorem okV_below : ∀ d : D, okV d = true → below 0 d = true
  | .non, _ => rfl
  | .bl _, _ => rfl
  | .int _, _ => rfl
  | .str _, _ => rfl
  | .tup xs, h => okVs_below xs h
  | .lst xs, h => okVs_below xs h
  | .ro xs, h => okVs_below xs h
  | .dct _ _, h => absurd (show false = true from h) Bool.false_ne_true
  | .ref _, h => absurd (show false = true from h) Bool.false_ne_true
theorem okVs_below : ∀ ds : List D, okVs ds = true → belows 0 ds = true
  | [], _ => rfl
  | d :: ds, h => by
    have h : (okV d && okVs ds) = true := h
    rw [Bool.and_eq_true] at h
    show (below 0 d && belows 0 ds) = true
    rw [okV_below d h.1, okVs_below ds h.2]
    rfl
end
mutual
theorem dp_ok : ∀ d : D, okV d = true → (pd d).depth = dp d
  | .non, _ => rfl
  | .bl _, _ => rfl
  | .int _, _ => rfl
  | .str _, _ => rfl
  | .tup xs, h => congrArg (· + 1) (dps_ok xs h)
  | .lst xs, h => congrArg (· + 1) (dps_ok xs h)
  | .ro xs, h => congrArg (· + 1) (dps_ok xs h)
  | .dct _ _, h => absurd (show false = true from h) Bool.false_ne_true
  | .ref _, h => absurd (show false = true from h) Bool.false_ne_true
theorem dps_ok : ∀ ds : List D, okVs ds = true → PyData.depthAll (pds ds) = dps ds
  | [], _ => rfl
  | d :: ds, h => by
    have h : (okV d && okVs ds) = true := h
    rw [Bool.and_eq_true] at h
    show max (pd d).depth (PyData.depthAll (pds ds)) = max (dp d) (dps ds)
    rw [dp_ok d h.1, dps_ok ds h.2]
end
theorem log2_lt_of {n k : Nat} (h : n < 2 ^ k) (hk : 0 < k) : n.log2 < k := by
  by_cases c : n = 0
  · subst c
    simpa using hk
  · exact (Nat.log2_lt c).mpr h
mutual
theorem show_ok : ∀ d : D, okV d = true → (pd d).showable = true ∧ (pd d).plain = true
  | .non, _ => ⟨rfl, rfl⟩
  | .bl _, _ => ⟨rfl, rfl⟩
  | .int i, h => ⟨decide_eq_true (Nat.lt_trans (log2_lt_of (of_decide_eq_true (show decide (i.natAbs < 2 ^ 148) = true from h)) (by decide)) (by decide)), rfl⟩
  | .str s, h => ⟨rfl, rfl⟩
  | .tup xs, h => shows_ok xs h
  | .lst xs, h => shows_ok xs h
  | .ro xs, h => shows_ok xs h
  | .dct _ _, h => absurd (show false = true from h) Bool.false_ne_true
  | .ref _, h => absurd (show false = true from h) Bool.false_ne_true
theorem shows_ok : ∀ ds : List D, okVs ds = true → PyData.showableAll (pds ds) = true ∧ PyData.plainAll (pds ds) = true
  | [], _ => ⟨rfl, rfl⟩
  | d :: ds, h => by
    have h : (okV d && okVs ds) = true := h
    rw [Bool.and_eq_true] at h
    obtain ⟨a, b⟩ := show_ok d h.1
    obtain ⟨c, e⟩ := shows_ok ds h.2
    constructor
    · show ((pd d).showable && PyData.showableAll (pds ds)) = true
      rw [a, c]
      rfl
    · show ((pd d).plain && PyData.plainAll (pds ds)) = true
      rw [b, e]
      rfl
end
theorem shaped_ok {d : D} (h : okV d = true) (hd : dp d ≤ 60) : shp (pd d) = true := by
  unfold shp
  rw [(show_ok d h).2, dp_ok d h]
  exact decide_eq_true hd
theorem eqL_ok {h : Hv} {x y : D} (hx : okV x = true) (hy : okV y = true) (dx : dp x ≤ 60) (dy : dp y ≤ 60) : eqL h x y = some (PyData.eqv (pd x) (pd y)) := by
  unfold eqL
  rw [toP_ok hx, toP_ok hy]
  show (if (shp (pd x) && shp (pd y)) = true then some (PyData.eqv (pd x) (pd y)) else none) = _
  rw [shaped_ok hx dx, shaped_ok hy dy]
  rfl
theorem eqD_of {h : Hv} {x y : D} {b : Bool} (e : eqL h x y = some b) : eqD h x y = some b := by
  unfold eqD
  rw [e]
theorem eqD_ok {h : Hv} {x y : D} (hx : okV x = true) (hy : okV y = true) (dx : dp x ≤ 60) (dy : dp y ≤ 60) : eqD h x y = some (PyData.eqv (pd x) (pd y)) := eqD_of (eqL_ok hx hy dx dy)
theorem eqD_dif {h : Hv} {x y : D} {xs ys : List D} (e : eqL h x y = none) (ex : asR h x = some xs) (ey : asR h y = some ys) (ne : xs.length ≠ ys.length) : eqD h x y = some false := by
  unfold eqD
  rw [e]
  refine if_pos ?_
  unfold difL
  rw [ex, ey]
  show (!decide (xs.length = ys.length)) = true
  rw [decide_eq_false ne]
  rfl
mutual
theorem shown_wt : ∀ d : D, okV d = true → (pd d).shown.length ≤ wt d
  | .non, _ => by show (("None" : String) : Str).length ≤ 150; decide +kernel
  | .bl b, _ => by cases b <;> (show ((_ : String) : Str).length ≤ 150; decide +kernel)
  | .int i, h => by
    have h : decide (i.natAbs < 2 ^ 148) = true := h
    have l := int_text_length_le (a := i) (k := 148) (by decide) (log2_lt_of (of_decide_eq_true h) (by decide))
    show (Str.ofString (toString i)).length ≤ 150
    rw [PyProof.Rows.ofString_len]
    omega
  | .str s, h => by
    have h : decide ((reprText s).length ≤ 60) = true := h
    have := of_decide_eq_true h
    show (reprText s).length ≤ 150
    omega
  | .tup xs, h => by
    have l := tupleText_len_le (PyData.shownAll (pds xs))
    have l2 := showns_wt xs h
    show (tupleText (PyData.shownAll (pds xs))).length ≤ wts xs + 3
    omega
  | .lst xs, h => by
    have l := listText_len_le (PyData.shownAll (pds xs))
    have l2 := showns_wt xs h
    show (listText (PyData.shownAll (pds xs))).length ≤ wts xs + 3
    omega
  | .ro xs, h => by
    have l := listText_len_le (PyData.shownAll (pds xs))
    have l2 := showns_wt xs h
    show (listText (PyData.shownAll (pds xs))).length ≤ wts xs + 3
    omega
  | .dct _ _, h => absurd (show false = true from h) Bool.false_ne_true
  | .ref _, h => absurd (show false = true from h) Bool.false_ne_true
theorem showns_wt : ∀ ds : List D, okVs ds = true → ((PyData.shownAll (pds ds)).map (·.length)).sum + 2 * (PyData.shownAll (pds ds)).length ≤ wts ds
  | [], _ => Nat.le_refl _
  | d :: ds, h => by
    have h : (okV d && okVs ds) = true := h
    rw [Bool.and_eq_true] at h
    have a := shown_wt d h.1
    have b := showns_wt ds h.2
    show (((pd d).shown :: PyData.shownAll (pds ds)).map (·.length)).sum + 2 * ((pd d).shown :: PyData.shownAll (pds ds)).length ≤ wt d + 2 + wts ds
    rw [List.map_cons, List.sum_cons, List.length_cons]
    omega
end
mutual
theorem plain_noDict : ∀ p : PyData, p.plain = true → p.hasDict = false
  | .none, _ => by simp only [PyData.hasDict]
  | .bool _, _ => by simp only [PyData.hasDict]
  | .int _, _ => by simp only [PyData.hasDict]
  | .str _, _ => by simp only [PyData.hasDict]
  | .list xs, c => by simp only [PyData.hasDict]; exact plains_noDict xs (by simpa only [PyData.plain] using c)
  | .tuple xs, c => by simp only [PyData.hasDict]; exact plains_noDict xs (by simpa only [PyData.plain] using c)
  | .dict _, c => by simp only [PyData.plain] at c; cases c
theorem plains_noDict : ∀ ps : List PyData, PyData.plainAll ps = true → PyData.hasDictAll ps = false
  | [], _ => by simp only [PyData.hasDictAll]
  | p :: ps, c => by
    simp only [PyData.plainAll, Bool.and_eq_true] at c
    simp only [PyData.hasDictAll, plain_noDict p c.1, plains_noDict ps c.2, Bool.or_self]
end
theorem reprD_ok {h : Hv} {d : D} (k : okV d = true) (hd : dp d ≤ 60) (hw : wt d ≤ 16777216) : reprD h d = some (.str (pd d).shown) := by
  have r : reprOk (pd d) := ⟨(show_ok d k).1, by rw [dp_ok d k]; exact hd, by rw [sizeLine_eq]; exact ⟨Nat.le_trans (shown_wt d k) hw, fun z => by rw [plain_noDict _ (show_ok d k).2] at z; cases z⟩⟩
  unfold reprD
  rw [toP_ok k]
  exact if_pos r
/-! ### == as a truth -/
theorem eqv_ints : ∀ {xs ys : List Int}, PyData.eqvAll (pds (xs.map .int)) (pds (ys.map .int)) = decide (xs = ys)
  | [], [] => rfl
  | [], _ :: _ => by rw [decide_eq_false (by simp)]; rfl
  | _ :: _, [] => by rw [decide_eq_false (by simp)]; rfl
  | x :: xs, y :: ys => by
    show ((x == y) && PyData.eqvAll (pds (xs.map .int)) (pds (ys.map .int))) = _
    rw [eqv_ints (xs := xs) (ys := ys)]
    by_cases c : x = y
    · subst c; simp
    · simp [c]
theorem eqv_nil {xs : List D} : PyData.eqv (pd (.lst xs)) (pd (.lst [])) = xs.isEmpty := by
  cases xs <;> rfl
theorem eq_strs {h : Hv} {x y : Str} : eqD h (.str x) (.str y) = some (x == y) := rfl
end Hr
set_option maxHeartbeats 1000000
/-! What is wanted behind a run of the evaluator: a calculus of posts. -/
namespace Hr
open PySem
/-- the evaluation ends well with Q, or raises with E -/
structure Rs.W {α : Type} (r : Rs α) (Q : α → Hv → Prop) (E : Exn → Hv → Prop) : Prop where
  run : match r with
    | .no => False
    | .ok a h => Q a h
    | .ex x h => E x h
structure Po where
  nx : En → Hv → Prop
  rt : D → Hv → Prop
  bk : En → Hv → Prop
  ct : En → Hv → Prop
  ex : Exn → En → Hv → Prop
structure So.W (r : So) (P : Po) : Prop where
  run : match r with
    | .no => False
    | .nx e h => P.nx e h
    | .rt d h => P.rt d h
    | .bk e h => P.bk e h
    | .ct e h => P.ct e h
    | .ex x e h => P.ex x e h
section
variable {α β : Type} {r : Rs α} {a : α} {h : Hv} {Q Q1 : α → Hv → Prop} {E E1 : Exn → Hv → Prop} {x : Exn}
@[simp] theorem W_ok : (Rs.ok a h).W Q E = Q a h := propext ⟨fun w => w.run, fun w => ⟨w⟩⟩
@[simp] theorem W_no : (Rs.no : Rs α).W Q E = False := propext ⟨fun w => w.run, fun w => ⟨w⟩⟩
@[simp] theorem W_ex : (Rs.ex x h : Rs α).W Q E = E x h := propext ⟨fun w => w.run, fun w => ⟨w⟩⟩
@[simp] theorem W_bind {f : α → Hv → Rs β} {Q : β → Hv → Prop} : (r.bind f).W Q E = r.W (fun a h => (f a h).W Q E) E := by
  cases r with
  | no => exact W_no.trans W_no.symm
  | ok a h => rw [W_ok]; rfl
  | ex x h => rw [W_ex]; exact W_ex
@[simp] theorem W_quiet : r.quiet.W Q E = r.W Q (fun _ _ => False) := by
  cases r with
  | no => exact W_no.trans W_no.symm
  | ok a h => exact W_ok.trans W_ok.symm
  | ex x h => rw [W_ex]; exact W_no
theorem Rs.W.mono (w : r.W Q E) (hq : ∀ a h, Q a h → Q1 a h) (he : ∀ x h, E x h → E1 x h) : r.W Q1 E1 := by
  cases r with
  | no => exact w.run.elim
  | ok a h => exact ⟨hq a h w.run⟩
  | ex x h => exact ⟨he x h w.run⟩
theorem Rs.W.of_eq (e : r = .ok a h) (q : Q a h) : r.W Q E := by rw [e, W_ok]; exact q
theorem Rs.W.eq {d : α} (w : r.W (fun a h' => a = d ∧ h' = h) (fun _ _ => False)) : r = .ok d h := by
  cases r with
  | no => exact w.run.elim
  | ok a h' => obtain ⟨rfl, rfl⟩ := w.run; rfl
  | ex x h => exact w.run.elim
theorem Rs.W.ex (w : r.W Q (fun _ _ => False)) : ∃ a h, r = .ok a h ∧ Q a h := by
  cases r with
  | no => exact w.run.elim
  | ok a h => exact ⟨a, h, rfl, w.run⟩
  | ex x h => exact w.run.elim
@[simp] theorem W_ite {c : Prop} [Decidable c] {r1 r2 : Rs α} : (if c then r1 else r2).W Q E = if c then r1.W Q E else r2.W Q E := by
  split <;> rfl
end
section
variable {P P1 : Po} {r : So} {e : En} {d : D} {h : Hv} {x : Exn}
@[simp] theorem SW_no : So.no.W P = False := propext ⟨fun w => w.run, fun w => ⟨w⟩⟩
@[simp] theorem SW_nx : (So.nx e h).W P = P.nx e h := propext ⟨fun w => w.run, fun w => ⟨w⟩⟩
@[simp] theorem SW_rt : (So.rt d h).W P = P.rt d h := propext ⟨fun w => w.run, fun w => ⟨w⟩⟩
@[simp] theorem SW_bk : (So.bk e h).W P = P.bk e h := propext ⟨fun w => w.run, fun w => ⟨w⟩⟩
@[simp] theorem SW_ct : (So.ct e h).W P = P.ct e h := propext ⟨fun w => w.run, fun w => ⟨w⟩⟩
@[simp] theorem SW_ex : (So.ex x e h).W P = P.ex x e h := propext ⟨fun w => w.run, fun w => ⟨w⟩⟩
@[simp] theorem SW_ite {c : Prop} [Decidable c] {r1 r2 : So} : (if c then r1 else r2).W P = if c then r1.W P else r2.W P := by
  split <;> rfl
theorem So.W.mono (w : r.W P) (h1 : ∀ e h, P.nx e h → P1.nx e h) (h2 : ∀ e h, P.rt e h → P1.rt e h) (h3 : ∀ e h, P.bk e h → P1.bk e h) (h4 : ∀ e h, P.ct e h → P1.ct e h) (h5 : ∀ x e h, P.ex x e h → P1.ex x e h) : r.W P1 := by
  cases r with
  | no => exact w.run.elim
  | nx e h => exact ⟨h1 e h w.run⟩
  | rt e h => exact ⟨h2 e h w.run⟩
  | bk e h => exact ⟨h3 e h w.run⟩
  | ct e h => exact ⟨h4 e h w.run⟩
  | ex x e h => exact ⟨h5 x e h w.run⟩
end
@[simp] theorem W_toS {α : Type} {r : Rs α} {env : En} {f : α → Hv → So} {P : Po} : (r.toS env f).W P = r.W (fun a h => (f a h).W P) (fun x h => P.ex x env h) := by
  cases r with
  | no => rw [W_no]; exact SW_no
  | ok a h => rw [W_ok]; rfl
  | ex x h => rw [W_ex]; exact SW_ex
section
variable {C : Cf} {env : En} {h : Hv} {P : Po}
@[simp] theorem SW_nil : (execs C [] env h).W P = P.nx env h := SW_nx
@[simp] theorem SW_cons {s : Sc} {ss : List Sc} : (execs C (s :: ss) env h).W P = (exec C s env h).W { P with nx := fun env h => (execs C ss env h).W P } := by
  show (match exec C s env h with
    | .nx env h => execs C ss env h
    | r => r).W P = _
  cases exec C s env h <;> simp
theorem SW_append {s t : List Sc} : (execs C (s ++ t) env h).W P = (execs C s env h).W { P with nx := fun env h => (execs C t env h).W P } := by
  induction s generalizing env h with
  | nil => rw [SW_nil]; rfl
  | cons a s ih =>
    rw [List.cons_append, SW_cons, SW_cons]
    congr 2
    funext e h
    exact ih
/-- what a def's block is to end with -/
def retP (raw : Bool) (h : Hv) (Q : D → Hv → Prop) (E : Exn → Hv → Prop) : Po where
  nx := fun _ h' => if raw then Q .non h' else (settle h .non h').W Q E
  rt := fun d h' => if raw then Q d h' else (settle h d h').W Q E
  bk := fun _ _ => False
  ct := fun _ _ => False
  ex := fun x _ h' => E x h'
theorem ret_W {raw : Bool} {Q : D → Hv → Prop} {E : Exn → Hv → Prop} {r : So} (w : r.W (retP raw h Q E)) : (retOf raw h r).W Q E := by
  cases r with
  | no => exact w.run.elim
  | nx e h' => cases raw <;> first | exact w.run | exact ⟨w.run⟩
  | rt e h' => cases raw <;> first | exact w.run | exact ⟨w.run⟩
  | bk e h' => exact w.run.elim
  | ct e h' => exact w.run.elim
  | ex x e h' => exact ⟨w.run⟩
@[simp] theorem retP_nx {Q : D → Hv → Prop} {E : Exn → Hv → Prop} {e : En} {h' : Hv} : (retP false h Q E).nx e h' = (settle h .non h').W Q E := id rfl
@[simp] theorem retP_rt {Q : D → Hv → Prop} {E : Exn → Hv → Prop} {d : D} {h' : Hv} : (retP false h Q E).rt d h' = (settle h d h').W Q E := id rfl
@[simp] theorem retP_nxR {Q : D → Hv → Prop} {E : Exn → Hv → Prop} {e : En} {h' : Hv} : (retP true h Q E).nx e h' = Q .non h' := id rfl
@[simp] theorem retP_rtR {Q : D → Hv → Prop} {E : Exn → Hv → Prop} {d : D} {h' : Hv} : (retP true h Q E).rt d h' = Q d h' := id rfl
@[simp] theorem retP_ex {raw : Bool} {Q : D → Hv → Prop} {E : Exn → Hv → Prop} {x : Exn} {e : En} {h' : Hv} : (retP raw h Q E).ex x e h' = E x h' := id rfl
theorem call_W {G : Nat → D} {F : List Fc} {k i : Nat} {raw : Bool} {ds : List D} {fc : Fc} {Q : D → Hv → Prop} {E : Exn → Hv → Prop} (e : F[i]? = some fc) (h1 : ds.length = fc.np) (w : (execs ⟨callF G F k, G, none⟩ fc.body (startE fc ds) h).W (retP raw h Q E)) : (callF G F (k + 1) i raw ds h).W Q E := by
  rw [callF_step e h1]
  exact ret_W w
end
/-! ### what a def hands back without cells -/
section
variable {n : Nat} {h h' : Hv} {d : D} {Q : D → Hv → Prop} {E : Exn → Hv → Prop}
theorem settle_W (p : below 0 d = true) (s : Same n h h') (hn : n < h.length) (q : ∀ h2, Same n h h2 → h2.length = h.length → Q d h2) : (settle h d h').W Q E := by
  obtain ⟨e, s2⟩ := settle_same p s hn
  rw [e, W_ok]
  exact q _ s2 (by rw [List.length_take]; exact Nat.min_eq_left s.le)
theorem settle_W0 (p : below 0 d = true) (q : Q d h) : (settle h d h).W Q E := by
  rw [settle_here p, W_ok]
  exact q
end
/-! ### loops -/
section
variable {g : Hv → Prop} {α : Type} {enc : α → D}
theorem loop_W {f : D → En → Hv → So} {P : Po} (I : List α → En → Hv → Prop) (hg : ∀ l env h, I l env h → g h)
    (step : ∀ x l env h, I (x :: l) env h → (f (enc x) env h).W { P with nx := fun env h => I l env h, ct := fun env h => I l env h, bk := P.nx })
    (fin : ∀ env h, I [] env h → P.nx env h) : ∀ (l : List α) (env : En) (h : Hv), I l env h → (loopF g f (l.map enc) env h).W P
  | [], env, h, i => by
    show (loopF g f [] env h).W P
    rw [loop_nil_pos (hg _ _ _ i), SW_nx]
    exact fin env h i
  | x :: l, env, h, i => by
    show (loopF g f (enc x :: l.map enc) env h).W P
    rw [loop_cons_pos (hg _ _ _ i)]
    have w := step x l env h i
    cases z : f (enc x) env h with
    | no => rw [z] at w; exact w.run.elim
    | nx e h1 => rw [z] at w; exact loop_W I hg step fin l e h1 w.run
    | rt e h1 => rw [z] at w; exact ⟨w.run⟩
    | bk e h1 => rw [z] at w; exact ⟨w.run⟩
    | ct e h1 => rw [z] at w; exact loop_W I hg step fin l e h1 w.run
    | ex y e h1 => rw [z] at w; exact ⟨w.run⟩
theorem comp_W {f : D → Hv → Rs (Option D)} {Q : List D → Hv → Prop} {E : Exn → Hv → Prop} (J : List α → List D → Hv → Prop) (hg : ∀ l r h, J l r h → g h)
    (step : ∀ x l r h, J (x :: l) r h → (f (enc x) h).W (fun o h => J l (r ++ o.toList) h) E) : ∀ (l : List α) (r : List D) (h : Hv), J l r h → (∀ r h, J [] r h → Q r h) → (compM g f (l.map enc) h).W (fun ds h => J [] (r ++ ds) h) E
  | [], r, h, j, fin => by
    show (compM g f [] h).W _ E
    rw [comp_nil_pos (hg _ _ _ j), W_ok, List.append_nil]
    exact j
  | x :: l, r, h, j, fin => by
    show (compM g f (enc x :: l.map enc) h).W _ E
    rw [comp_cons_pos (hg _ _ _ j), W_bind]
    refine (step x l r h j).mono (fun o h1 j1 => ?_) fun _ _ e => e
    rw [W_bind]
    refine (comp_W J hg step l (r ++ o.toList) h1 j1 fin).mono (fun ds h2 j2 => ?_) fun _ _ e => e
    rw [W_ok, ← List.append_assoc]
    exact j2
theorem comp_W1 {f : D → Hv → Rs (Option D)} {Q : List D → Hv → Prop} {E : Exn → Hv → Prop} (J : List α → List D → Hv → Prop) {l : List α} {h : Hv} (j : J l [] h) (hg : ∀ l r h, J l r h → g h)
    (step : ∀ x l r h, J (x :: l) r h → (f (enc x) h).W (fun o h => J l (r ++ o.toList) h) E) (fin : ∀ r h, J [] r h → Q r h) : (compM g f (l.map enc) h).W Q E :=
  (comp_W J hg step l [] h j fin).mono (fun ds h j => by rw [List.nil_append] at j; exact fin ds h j) fun _ _ e => e
end
/-! ### what a for walks -/
def seqF (d : D) (h : Hv) : Rs Itr := match asS h d with
  | some ds => .ok ⟨ds, stays h d⟩ h
  | none => match d with
    | .str s => .ok ⟨s.cps.toList.map fun c => .str ⟨#[c]⟩, fun _ => True⟩ h
    | .dct ks _ => .ok ⟨ks, fun _ => True⟩ h
    | _ => .no
def rngF (d : D) (h : Hv) : Rs Itr := match d with
  | .int j => if -(2 ^ 62) ≤ j ∧ j < 2 ^ 62 then .ok ⟨(List.range j.toNat).map fun n : Nat => .int (0 + (n : Int)), fun _ => True⟩ h else .no
  | _ => .no
def rng2F (x y : D) (h : Hv) : Rs Itr := match x, y with
  | .int i, .int j => if -(2 ^ 62) ≤ i ∧ i < 2 ^ 62 ∧ -(2 ^ 62) ≤ j ∧ j < 2 ^ 62 then .ok ⟨(List.range (j - i).toNat).map fun n : Nat => .int (i + (n : Int)), fun _ => True⟩ h else .no
  | _, _ => .no
def zipF (x y : D) (h : Hv) : Rs Itr := match asS h x, asS h y with
  | some xs, some ys => .ok ⟨List.zipWith (fun u v => .tup [u, v]) xs ys, fun h' => stays h x h' ∧ stays h y h'⟩ h
  | _, _ => .no
def enumF (x : D) (h : Hv) : Rs Itr := match asS h x with
  | some xs => .ok ⟨xs.mapIdx fun n u => .tup [.int (n : Nat), u], stays h x⟩ h
  | none => .no
def revF (x : D) (h : Hv) : Rs Itr := match asS h x with
  | some xs => .ok ⟨xs.reverse, stays h x⟩ h
  | none => .no
section
variable {C : Cf} {a b : Ec} {env : En} {h : Hv} {d x y : D} {ds xs ys : List D}
@[simp] theorem evi_seq : evi C (.seq a) env h = (ev C a env h).bind seqF := id rfl
@[simp] theorem evi_rng1 : evi C (.rng1 a) env h = (ev C a env h).bind rngF := id rfl
@[simp] theorem evi_rng2 : evi C (.rng2 a b) env h = (ev C a env h).bind fun x h => (ev C b env h).bind fun y h => rng2F x y h := id rfl
@[simp] theorem evi_zip : evi C (.zip a b) env h = (ev C a env h).bind fun x h => (ev C b env h).bind fun y h => zipF x y h := id rfl
@[simp] theorem evi_enum : evi C (.enum a) env h = (ev C a env h).bind enumF := id rfl
@[simp] theorem evi_rev : evi C (.rev a) env h = (ev C a env h).bind revF := id rfl
theorem seq_at (e : asS h d = some ds) : seqF d h = .ok ⟨ds, stays h d⟩ h := by unfold seqF; rw [e]
@[simp] theorem seq_str {s : Str} : seqF (.str s) h = .ok ⟨s.cps.toList.map fun c => .str ⟨#[c]⟩, fun _ => True⟩ h := id rfl
@[simp] theorem seq_dct {ks vs : List D} : seqF (.dct ks vs) h = .ok ⟨ks, fun _ => True⟩ h := id rfl
@[simp] theorem seq_tup : seqF (.tup ds) h = .ok ⟨ds, fun _ => True⟩ h := id rfl
@[simp] theorem seq_lst : seqF (.lst ds) h = .ok ⟨ds, fun _ => True⟩ h := id rfl
@[simp] theorem seq_ro : seqF (.ro ds) h = .ok ⟨ds, fun _ => True⟩ h := id rfl
theorem zip_at (e1 : asS h x = some xs) (e2 : asS h y = some ys) : zipF x y h = .ok ⟨List.zipWith (fun u v => .tup [u, v]) xs ys, fun h' => stays h x h' ∧ stays h y h'⟩ h := by unfold zipF; rw [e1, e2]
theorem rng_int {j : Int} (h0 : 0 ≤ j) (hn : j < 2 ^ 62) : rngF (.int j) h = .ok ⟨(List.range j.toNat).map fun x : Nat => .int (x : Int), fun _ => True⟩ h := by
  have e : rngF (.int j) h = (if -(2 ^ 62) ≤ j ∧ j < 2 ^ 62 then Rs.ok (⟨(List.range j.toNat).map fun x : Nat => .int (0 + (x : Int)), fun _ => True⟩ : Itr) h else .no) := rfl
  rw [e, if_pos ⟨by omega, hn⟩]
  simp only [Int.zero_add]
theorem rng_nat {n : Nat} (hn : n < 2 ^ 62) : rngF (.int (n : Int)) h = .ok ⟨(List.range n).map fun x : Nat => .int (x : Int), fun _ => True⟩ h := by
  rw [rng_int (by omega) (by omega), Int.toNat_natCast]
end
/-! ### while -/
section
variable {c : En → Hv → Rs Bool} {f : En → Hv → So}
theorem iter_succ {n : Nat} {env : En} {h : Hv} : iterW c f (n + 1) env h = (match c env h with
    | .ok true h => match f env h with
      | .nx env h => iterW c f n env h
      | .ct env h => iterW c f n env h
      | .bk env h => .nx env h
      | r => r
    | .ok false h => .nx env h
    | .ex x h => .ex x env h
    | .no => .no) := rfl
theorem iter_more : ∀ {n : Nat} {env : En} {h : Hv} (m : Nat), iterW c f n env h ≠ .no → iterW c f (n + m) env h = iterW c f n env h
  | 0, _, _, _, e => absurd rfl e
  | n + 1, env, h, m, e => by
    rw [show n + 1 + m = (n + m) + 1 from by omega]
    rw [iter_succ] at e ⊢
    rw [iter_succ]
    cases z : c env h with
    | no => rfl
    | ex x h1 => rfl
    | ok t h1 =>
      rw [z] at e
      cases t with
      | false => rfl
      | true =>
        cases y : f env h1 with
        | nx e2 h2 => simp only [y] at e ⊢; exact iter_more m e
        | ct e2 h2 => simp only [y] at e ⊢; exact iter_more m e
        | _ => simp only [y]
theorem while_eq {n : Nat} {env : En} {h : Hv} (e : iterW c f n env h ≠ .no) : whileM c f env h = iterW c f n env h := by
  unfold whileM
  have q : ∃ n, iterW c f n env h ≠ .no := ⟨n, e⟩
  rw [dif_pos q]
  have e2 := Classical.choose_spec q
  rcases Nat.le_total n (Classical.choose q) with l | l
  · have := iter_more (Classical.choose q - n) e
    rw [show n + (Classical.choose q - n) = Classical.choose q from by omega] at this
    exact this
  · have := iter_more (n - Classical.choose q) e2
    rw [show Classical.choose q + (n - Classical.choose q) = n from by omega] at this
    exact this.symm
theorem SW_ne {r : So} {P : Po} (w : r.W P) : r ≠ .no := fun e => by rw [e] at w; exact w.run
theorem while_W {P : Po} (I : Nat → En → Hv → Prop)
    (step : ∀ n env h, I n env h → (c env h).W (fun t h => if t then (f env h).W { P with nx := fun env h => ∃ m, m < n ∧ I m env h, ct := fun env h => ∃ m, m < n ∧ I m env h, bk := P.nx } else P.nx env h) (fun x h => P.ex x env h)) :
    ∀ (n : Nat) (env : En) (h : Hv), I n env h → (whileM c f env h).W P := by
  have main : ∀ (k n : Nat) (env : En) (h : Hv), n < k → I n env h → (iterW c f k env h).W P := fun k => by
    induction k with
    | zero => intro n _ _ hn; omega
    | succ k ih =>
      intro n env h hn i
      rw [iter_succ]
      have w := step n env h i
      cases z : c env h with
      | no => rw [z] at w; exact w.run.elim
      | ex x h1 => rw [z] at w; exact ⟨w.run⟩
      | ok t h1 =>
        rw [z] at w
        cases t with
        | false => exact ⟨w.run⟩
        | true =>
          have w : (f env h1).W _ := w.run
          cases y : f env h1 with
          | nx e2 h2 =>
            rw [y] at w
            obtain ⟨m, hm, i2⟩ := w.run
            simp only [y]
            exact ih m e2 h2 (by omega) i2
          | ct e2 h2 =>
            rw [y] at w
            obtain ⟨m, hm, i2⟩ := w.run
            simp only [y]
            exact ih m e2 h2 (by omega) i2
          | no => rw [y] at w; exact w.run.elim
          | rt e2 h2 => rw [y] at w; simp only [y]; exact ⟨w.run⟩
          | bk e2 h2 => rw [y] at w; simp only [y]; exact ⟨w.run⟩
          | ex x e2 h2 => rw [y] at w; simp only [y]; exact ⟨w.run⟩
  intro n env h i
  have w := main (n + 1) n env h (Nat.lt_succ_self _) i
  rw [while_eq (SW_ne w)]
  exact w
end
end Hr
set_option maxHeartbeats 1000000
/-! The calculus of posts: try. -/
namespace Hr
open PySem
section
variable {C : Cf} {env : En} {h : Hv} {P : Po}
theorem SW_suiteEnd {i : Nat} {r : So} : (suiteEnd i r).W P = r.W { nx := fun e h => P.nx (e.set i none) h, rt := P.rt, bk := fun e h => P.bk (e.set i none) h, ct := fun e h => P.ct (e.set i none) h, ex := fun _ _ _ => False } := by
  cases r <;> simp [suiteEnd]
@[simp] theorem SW_tryx {c i : Nat} {b s : List Sc} : (exec C (.tryx c i b s) env h).W P = (execs C b env h).W { P with ex := fun x env' h' => if x.cls = c then (execs { C with cur := some x } s (env'.set i none) h').W { nx := fun e h => P.nx (e.set i none) h, rt := P.rt, bk := fun e h => P.bk (e.set i none) h, ct := fun e h => P.ct (e.set i none) h, ex := fun _ _ _ => False } else P.ex x env' h' } := by
  show (match execs C b env h with
    | .ex x env' h' => if x.cls = c then suiteEnd i (execs { C with cur := some x } s (env'.set i none) h') else .ex x env' h'
    | r => r).W P = _
  cases execs C b env h <;> simp [SW_suiteEnd]
@[simp] theorem SW_keepx {c i k : Nat} {b : List Sc} : (exec C (.keepx c i k b) env h).W P = (execs C b env h).W { P with ex := fun x env' h' => if x.cls = c then P.nx (((env'.set i none).set k (some (.ref h'.length))).set i none) (h' ++ [.exn x]) else P.ex x env' h' } := by
  show (match execs C b env h with
    | .ex x env' h' => if x.cls = c then So.nx (((env'.set i none).set k (some (.ref h'.length))).set i none) (h' ++ [Cell.exn x]) else .ex x env' h'
    | r => r).W P = _
  cases execs C b env h with
  | ex x env' h' =>
    simp only
    split
    · rename_i c; simp [c]
    · rename_i c; simp [c]
  | _ => simp
theorem loopT_cons {f : D → En → Hv → So} {d : D} {ds : List D} : (loopF (fun _ => True) f (d :: ds) env h).W P = (f d env h).W { P with nx := fun e h => (loopF (fun _ => True) f ds e h).W P, ct := fun e h => (loopF (fun _ => True) f ds e h).W P, bk := P.nx } := by
  rw [loop_cons_pos trivial]
  cases f d env h <;> simp
theorem loopT_nil {f : D → En → Hv → So} : (loopF (fun _ => True) f [] env h).W P = P.nx env h := by
  rw [loop_nil_pos trivial]
  exact SW_nx
end
end Hr
set_option maxHeartbeats 0
namespace Lw
open PySem PySem.Spec PyProof.Rows L2 Hr
abbrev i_is_whole : Nat := 0
abbrev i_is_wish : Nat := 1
abbrev i_is_name : Nat := 2
abbrev i_is_part : Nat := 3
abbrev i_is_row : Nat := 4
abbrev i_parts_of : Nat := 5
abbrev i_fits_known : Nat := 6
abbrev i_look_at_rows : Nat := 7
abbrev i__law_draw : Nat := 8
abbrev i__law_pool : Nat := 9
abbrev i__law_arity : Nat := 10
abbrev i__law_letters : Nat := 11
abbrev i__law_part_in : Nat := 12
abbrev i__law_wish : Nat := 13
abbrev i__law_wishes : Nat := 14
abbrev i__law_one_row : Nat := 15
abbrev i__law_rows : Nat := 16
abbrev i__law_whole : Nat := 17
abbrev i__law_name_so : Nat := 18
abbrev i__law_part_so : Nat := 19
abbrev i__law_wish_so : Nat := 20
abbrev i__law_row_so : Nat := 21
abbrev i__law_first_bad : Nat := 22
abbrev i__law_odd_part : Nat := 23
abbrev i__law_odd_wish : Nat := 24
abbrev i__law_bent_row : Nat := 25
abbrev i__law_told : Nat := 26
abbrev i_law : Nat := 27
/-- is_whole(thing) -/
def c_is_whole : Fc := ⟨"is_whole", 1, ["thing"],
  [.ret (.and_ (.isi (.var 0) [.ty "int"]) (.not_ (.isi (.var 0) [.ty "bool"])))], [], none⟩
/-- is_wish(many, thing, factors, plain, word, one) -/
def c_is_wish : Fc := ⟨"is_wish", 2, ["many", "thing", "factors", "plain", "word", "one"],
  [.ite (.or_ (.not_ (.isi (.var 1) [.ty "tuple"])) (.or_ (.cmp .NotEq (.bi false .len [.var 1]) (.lit (.int 3))) (.or_ (.not_ (.isi (.idx (.var 1) (.lit (.int 0))) [.ty "tuple"])) (.cmp .NotEq (.bi false .len [.idx (.var 1) (.lit (.int 0))]) (.var 0)))))
    [.ret (.lit (.bl false))]
    [],
  .unp (.tp [.nm 2, .nm 3, .nm 4]) (.var 1),
  .ite (.or_ (.not_ (.bi false .all [.comp false (.call i_is_whole false [.var 5]) (.nm 5) (.seq (.var 2)) none [5]])) (.not_ (.call i_is_whole false [.var 3])))
    [.ret (.lit (.bl false))]
    [],
  .ret (.and_ (.isi (.var 4) [.ty "str"]) (.cmp .In (.var 4) (.glo 0)))], [], none⟩
/-- is_name(thing, sign) -/
def c_is_name : Fc := ⟨"is_name", 1, ["thing", "sign"],
  [.ret (.and_ (.isi (.var 0) [.ty "str"]) (.and_ (.chain .LtE .LtE (.lit (.int 1)) (.bi false .len [.var 0]) (.glo 2)) (.bi false .all [.comp false (.cmp .In (.var 1) (.glo 1)) (.nm 1) (.seq (.var 0)) none [1]])))], [], none⟩
/-- is_part(thing, many, letters, one) -/
def c_is_part : Fc := ⟨"is_part", 2, ["thing", "many", "letters", "one"],
  [.ite (.or_ (.not_ (.isi (.var 0) [.ty "tuple"])) (.or_ (.cmp .NotEq (.bi false .len [.var 0]) (.lit (.int 2))) (.or_ (.not_ (.call i_is_name false [.idx (.var 0) (.lit (.int 0))])) (.not_ (.isi (.idx (.var 0) (.lit (.int 1))) [.ty "tuple"])))))
    [.ret (.lit (.bl false))]
    [],
  .set 2 (.idx (.var 0) (.lit (.int 1))),
  .ite (.or_ (.cmp .Gt (.bi false .len [.var 2]) (.glo 4)) (.not_ (.bi false .all [.comp false (.and_ (.call i_is_whole false [.var 3]) (.chain .LtE .Lt (.lit (.int 0)) (.var 3) (.var 1))) (.nm 3) (.seq (.var 2)) none [3]])))
    [.ret (.lit (.bl false))]
    [],
  .ret (.cmp .Eq (.opn false .lenset [.var 2]) (.bi false .len [.var 2]))], [], none⟩
/-- is_row(thing, head, body, wishes, many, parts, wish, part) -/
def c_is_row : Fc := ⟨"is_row", 1, ["thing", "head", "body", "wishes", "many", "parts", "wish", "part"],
  [.ite (.or_ (.not_ (.isi (.var 0) [.ty "tuple"])) (.cmp .NotEq (.bi false .len [.var 0]) (.lit (.int 4))))
    [.ret (.lit (.bl false))]
    [],
  .unp (.tp [.nm 1, .nm 2, .nm 3, .nm 4]) (.var 0),
  .ite (.or_ (.not_ (.call i_is_whole false [.var 4])) (.or_ (.not_ (.chain .LtE .LtE (.lit (.int 0)) (.var 4) (.glo 3))) (.or_ (.not_ (.isi (.var 2) [.ty "tuple"])) (.cmp .Gt (.bi false .len [.var 2]) (.glo 5)))))
    [.ret (.lit (.bl false))]
    [],
  .set 5 (.cond (.cmp .Is (.var 1) (.lit .non)) (.bi false .list [.var 2]) (.bin false .Add (.lst false [.var 1]) (.bi false .list [.var 2]))),
  .ite (.or_ (.not_ (.bi false .all [.comp false (.call i_is_part false [.var 7, .var 4]) (.nm 7) (.seq (.var 5)) none [7]])) (.or_ (.not_ (.isi (.var 3) [.ty "tuple"])) (.cmp .Gt (.bi false .len [.var 3]) (.glo 6))))
    [.ret (.lit (.bl false))]
    [],
  .ret (.bi false .all [.comp false (.call i_is_wish false [.var 4, .var 6]) (.nm 6) (.seq (.var 3)) none [6]])], [], none⟩
/-- parts_of(row, head, body, wishes, many) -/
def c_parts_of : Fc := ⟨"parts_of", 1, ["row", "head", "body", "wishes", "many"],
  [.unp (.tp [.nm 1, .nm 2, .nm 3, .nm 4]) (.var 0),
  .ret (.cond (.cmp .Is (.var 1) (.lit .non)) (.bi false .list [.var 2]) (.bin false .Add (.lst false [.var 1]) (.bi false .list [.var 2])))], [], none⟩
/-- fits_known(known, row, name, letters) -/
def c_fits_known : Fc := ⟨"fits_known", 2, ["known", "row", "name", "letters"],
  [.for_ (.seq (.call i_parts_of false [.var 1])) (.tp [.nm 2, .nm 3])
    [.ite (.cmp .NotEq (.dmt .setd (.var 0) (.var 2) (.bi false .len [.var 3])) (.bi false .len [.var 3]))
       [.ret (.lit (.bl false))]
       []],
  .ret (.lit (.bl true))], [], none⟩
/-- look_at_rows(thing, known, number, row) -/
def c_look_at_rows : Fc := ⟨"look_at_rows", 1, ["thing", "known", "number", "row"],
  [.ite (.or_ (.not_ (.isi (.var 0) [.ty "list"])) (.not_ (.chain .LtE .LtE (.lit (.int 1)) (.bi false .len [.var 0]) (.glo 7))))
    [.raise1 0 "number" (.lit .non)]
    [],
  .set 1 (.dnew true),
  .for_ (.enum (.var 0)) (.tp [.nm 2, .nm 3])
    [.ite (.or_ (.not_ (.call i_is_row false [.var 3])) (.not_ (.call i_fits_known false [.var 1, .var 3])))
       [.raise1 0 "number" (.var 2)]
       []]], [], none⟩
/-- _law_draw(_law_pool_here, _law_many, _law_found) -/
def c__law_draw : Fc := ⟨"_law_draw", 2, ["_law_pool_here", "_law_many", "_law_found"],
  [.ite (.cmp .Gt (.idx (.var 0) (.lit (.int 0))) (.lit (.int 0)))
    [.set 2 (.bin false .Mod (.idx (.var 0) (.lit (.int 0))) (.var 1)),
     .setIx (.var 0) (.lit (.int 0)) (.bin false .FloorDiv (.idx (.var 0) (.lit (.int 0))) (.var 1)),
     .ret (.var 2)]
    [],
  .setIx (.var 0) (.lit (.int 1)) (.bin false .Mod (.bin false .Add (.bin false .Mult (.idx (.var 0) (.lit (.int 1))) (.lit (.int 69621))) (.lit (.int 7))) (.lit (.int 2147483647))),
  .ret (.bin false .Mod (.bin false .FloorDiv (.bin false .Mod (.bin false .Mult (.idx (.var 0) (.lit (.int 1))) (.idx (.var 0) (.lit (.int 1)))) (.lit (.int 2147483629))) (.lit (.int 32))) (.var 1))], [], none⟩
/-- _law_pool(_law_script, _law_k, _law_cell, _law_tall, _law_mixed) -/
def c__law_pool : Fc := ⟨"_law_pool", 2, ["_law_script", "_law_k", "_law_cell", "_law_tall", "_law_mixed"],
  [.set 2 (.lit (.int 0)),
  .ite (.cmp .Lt (.var 1) (.bi false .len [.var 0]))
    [.set 2 (.idx (.var 0) (.var 1))]
    [],
  .set 3 (.bi false .max [.var 2, .bin false .Sub (.neg (.lit (.int 1))) (.var 2)]),
  .set 4 (.bin false .Mod (.bin false .Mult (.bin false .Add (.bin false .Add (.bin false .Add (.bin false .Mod (.var 3) (.lit (.int 2147483629))) (.bin false .Mult (.bin false .Mult (.lit (.int 7919)) (.var 1)) (.var 1))) (.bin false .Mult (.lit (.int 31)) (.var 1))) (.lit (.int 17))) (.lit (.int 48271))) (.lit (.int 2147483647))),
  .ret (.lst true [.bin false .Mult (.var 3) (.bi false .int [.cmp .GtE (.var 3) (.bin false .Pow (.lit (.int 10)) (.lit (.int 18)))]), .var 4])], [], none⟩
/-- _law_arity(_law_own_name) -/
def c__law_arity : Fc := ⟨"_law_arity", 1, ["_law_own_name"],
  [.ret (.idx (.opn false (.disp 4) [.lit (.str "a"), .lit (.int 1), .lit (.str "bb"), .lit (.int 2), .lit (.str "c"), .lit (.int 0), .lit (.str "longname"), .lit (.int 3)]) (.var 0))], [], none⟩
/-- _law_letters(_law_pool_here, _law_many, _law_tall, _law_left, _law_turn) -/
def c__law_letters : Fc := ⟨"_law_letters", 3, ["_law_pool_here", "_law_many", "_law_tall", "_law_left", "_law_turn"],
  [.set 3 (.opn true .lrng [.var 1]),
  .ret (.bi false .tuple [.comp false (.mt .popAt (.var 3) [.call i__law_draw false [.var 0, .bi false .len [.var 3]]]) (.nm 4) (.rng1 (.var 2)) none [4]])], [], none⟩
/-- _law_part_in(_law_pool_here, _law_many, _law_some, _law_own_name) -/
def c__law_part_in : Fc := ⟨"_law_part_in", 2, ["_law_pool_here", "_law_many", "_law_some", "_law_own_name"],
  [.set 2 (.comp false (.var 3) (.nm 3) (.seq (.lst false [.lit (.str "a"), .lit (.str "a"), .lit (.str "bb"), .lit (.str "bb"), .lit (.str "c"), .lit (.str "longname")])) (some (.cmp .LtE (.call i__law_arity false [.var 3]) (.var 1))) [3]),
  .set 3 (.idx (.var 2) (.call i__law_draw false [.var 0, .bi false .len [.var 2]])),
  .ret (.tup [.var 3, .call i__law_letters false [.var 0, .var 1, .call i__law_arity false [.var 3]]])], [], none⟩
/-- _law_wish(_law_pool_here, _law_many, _law_factors, _law_turn) -/
def c__law_wish : Fc := ⟨"_law_wish", 2, ["_law_pool_here", "_law_many", "_law_factors", "_law_turn"],
  [.set 2 (.bi false .tuple [.comp false (.idx (.lst false [.lit (.int 0), .lit (.int 1), .neg (.lit (.int 1)), .lit (.int 2), .neg (.lit (.int 2)), .lit (.int 0), .lit (.int 1), .neg (.lit (.int 1)), .lit (.int 3)]) (.call i__law_draw false [.var 0, .lit (.int 9)])) (.nm 3) (.rng1 (.var 1)) none [3]]),
  .ret (.tup [.var 2, .idx (.lst false [.lit (.int 0), .lit (.int 1), .neg (.lit (.int 1)), .lit (.int 2), .neg (.lit (.int 3)), .lit (.int 5), .neg (.lit (.int 7))]) (.call i__law_draw false [.var 0, .lit (.int 7)]), .idx (.lst false [.lit (.str "least"), .lit (.str "least"), .lit (.str "above")]) (.call i__law_draw false [.var 0, .lit (.int 3)])])], [], none⟩
/-- _law_wishes(_law_pool_here, _law_many, _law_most, _law_turn) -/
def c__law_wishes : Fc := ⟨"_law_wishes", 3, ["_law_pool_here", "_law_many", "_law_most", "_law_turn"],
  [.ret (.comp false (.call i__law_wish false [.var 0, .var 1]) (.nm 3) (.rng1 (.call i__law_draw false [.var 0, .bin false .Add (.var 2) (.lit (.int 1))])) none [3])], [], none⟩
/-- _law_one_row(_law_pool_here, _law_most, _law_many, _law_head, _law_body, _law_turn) -/
def c__law_one_row : Fc := ⟨"_law_one_row", 2, ["_law_pool_here", "_law_most", "_law_many", "_law_head", "_law_body", "_law_turn"],
  [.set 2 (.call i__law_draw false [.var 0, .lit (.int 4)]),
  .set 3 (.cond (.cmp .Eq (.call i__law_draw false [.var 0, .lit (.int 4)]) (.lit (.int 0))) (.lit .non) (.call i__law_part_in false [.var 0, .var 2])),
  .set 4 (.bi false .tuple [.comp false (.call i__law_part_in false [.var 0, .var 2]) (.nm 5) (.rng1 (.idx (.lst false [.lit (.int 0), .lit (.int 0), .lit (.int 1), .lit (.int 1), .lit (.int 2)]) (.call i__law_draw false [.var 0, .lit (.int 5)]))) none [5]]),
  .ret (.tup [.var 3, .var 4, .bi false .tuple [.call i__law_wishes false [.var 0, .var 2, .var 1]], .var 2])], [], none⟩
/-- _law_rows(_law_pool_here, _law_most, _law_found, _law_turn) -/
def c__law_rows : Fc := ⟨"_law_rows", 2, ["_law_pool_here", "_law_most", "_law_found", "_law_turn"],
  [.set 2 (.comp true (.call i__law_one_row false [.var 0, .lit (.int 3)]) (.nm 3) (.rng1 (.bin false .Add (.lit (.int 1)) (.call i__law_draw false [.var 0, .var 1]))) none [3]),
  .ite (.cmp .Eq (.call i__law_draw false [.var 0, .lit (.int 2)]) (.lit (.int 0)))
    [.ex (.mt .append (.var 2) [.tup [.lit .non, .tup [.tup [.lit (.str "a"), .tup [.lit (.int 0)]]], .tup [.call i__law_wish false [.var 0, .lit (.int 1)]], .lit (.int 1)]])]
    [],
  .ret (.var 2)], [], none⟩
/-- _law_whole(_law_what, _law_low, _law_high) -/
def c__law_whole : Fc := ⟨"_law_whole", 3, ["_law_what", "_law_low", "_law_high"],
  [.ret (.and_ (.isi (.var 0) [.ty "int"]) (.and_ (.not_ (.isi (.var 0) [.ty "bool"])) (.chain .LtE .LtE (.var 1) (.var 0) (.var 2))))], [], none⟩
/-- _law_name_so(_law_what, _law_sign) -/
def c__law_name_so : Fc := ⟨"_law_name_so", 1, ["_law_what", "_law_sign"],
  [.ite (.or_ (.not_ (.isi (.var 0) [.ty "str"])) (.not_ (.chain .LtE .LtE (.lit (.int 1)) (.bi false .len [.var 0]) (.lit (.int 8)))))
    [.ret (.lit (.bl false))]
    [],
  .ret (.cmp .Eq (.comp false (.var 1) (.nm 1) (.seq (.var 0)) (some (.not_ (.chain .LtE .LtE (.lit (.str "a")) (.var 1) (.lit (.str "z"))))) [1]) (.lst false []))], [], none⟩
/-- _law_part_so(_law_what, _law_many, _law_one, _law_at) -/
def c__law_part_so : Fc := ⟨"_law_part_so", 2, ["_law_what", "_law_many", "_law_one", "_law_at"],
  [.ite (.or_ (.not_ (.isi (.var 0) [.ty "tuple"])) (.or_ (.cmp .NotEq (.bi false .len [.var 0]) (.lit (.int 2))) (.or_ (.not_ (.call i__law_name_so false [.idx (.var 0) (.lit (.int 0))])) (.not_ (.isi (.idx (.var 0) (.lit (.int 1))) [.ty "tuple"])))))
    [.ret (.lit (.bl false))]
    [],
  .ite (.or_ (.cmp .Gt (.bi false .len [.idx (.var 0) (.lit (.int 1))]) (.lit (.int 4))) (.cmp .NotEq (.comp false (.var 2) (.nm 2) (.seq (.idx (.var 0) (.lit (.int 1)))) (some (.not_ (.call i__law_whole false [.var 2, .lit (.int 0), .bin false .Sub (.var 1) (.lit (.int 1))]))) [2]) (.lst false [])))
    [.ret (.lit (.bl false))]
    [],
  .ret (.cmp .Eq (.bi false .len [.comp false (.var 2) (.tp [.nm 3, .nm 2]) (.enum (.idx (.var 0) (.lit (.int 1)))) (some (.cmp .In (.var 2) (.cut false (.idx (.var 0) (.lit (.int 1))) none (some (.var 3))))) [3, 2]]) (.lit (.int 0)))], [], none⟩
/-- _law_wish_so(_law_what, _law_many, _law_one) -/
def c__law_wish_so : Fc := ⟨"_law_wish_so", 2, ["_law_what", "_law_many", "_law_one"],
  [.ite (.or_ (.not_ (.isi (.var 0) [.ty "tuple"])) (.or_ (.cmp .NotEq (.bi false .len [.var 0]) (.lit (.int 3))) (.or_ (.not_ (.isi (.idx (.var 0) (.lit (.int 0))) [.ty "tuple"])) (.cmp .NotEq (.bi false .len [.idx (.var 0) (.lit (.int 0))]) (.var 1)))))
    [.ret (.lit (.bl false))]
    [],
  .for_ (.seq (.bin false .Add (.idx (.var 0) (.lit (.int 0))) (.tup [.idx (.var 0) (.lit (.int 1))]))) (.nm 2)
    [.ite (.or_ (.not_ (.isi (.var 2) [.ty "int"])) (.isi (.var 2) [.ty "bool"]))
       [.ret (.lit (.bl false))]
       []],
  .ret (.cmp .In (.bi false .repr [.idx (.var 0) (.lit (.int 2))]) (.lst false [.lit (.str "'least'"), .lit (.str "'above'")]))], [], none⟩
/-- _law_row_so(_law_what, _law_head, _law_body, _law_wishes_here, _law_many, _law_parts, _law_part, _law_wish_here) -/
def c__law_row_so : Fc := ⟨"_law_row_so", 1, ["_law_what", "_law_head", "_law_body", "_law_wishes_here", "_law_many", "_law_parts", "_law_part", "_law_wish_here"],
  [.ite (.or_ (.not_ (.isi (.var 0) [.ty "tuple"])) (.or_ (.cmp .NotEq (.bi false .len [.var 0]) (.lit (.int 4))) (.not_ (.call i__law_whole false [.idx (.var 0) (.lit (.int 3)), .lit (.int 0), .lit (.int 10)]))))
    [.ret (.lit (.bl false))]
    [],
  .unp (.tp [.nm 1, .nm 2, .nm 3, .nm 4]) (.var 0),
  .ite (.or_ (.not_ (.isi (.var 2) [.ty "tuple"])) (.or_ (.cmp .Gt (.bi false .len [.var 2]) (.lit (.int 2))) (.or_ (.not_ (.isi (.var 3) [.ty "tuple"])) (.cmp .Gt (.bi false .len [.var 3]) (.lit (.int 6))))))
    [.ret (.lit (.bl false))]
    [],
  .set 5 (.bin false .Add (.bi false .list [.var 2]) (.bin false .Mult (.lst false [.var 1]) (.bi false .int [.cmp .IsNot (.var 1) (.lit .non)]))),
  .ite (.cmp .NotEq (.comp false (.var 6) (.nm 6) (.seq (.var 5)) (some (.not_ (.call i__law_part_so false [.var 6, .var 4]))) [6]) (.lst false []))
    [.ret (.lit (.bl false))]
    [],
  .ret (.cmp .Eq (.comp false (.var 7) (.nm 7) (.seq (.var 3)) (some (.not_ (.call i__law_wish_so false [.var 7, .var 4]))) [7]) (.lst false []))], [], none⟩
/-- _law_first_bad(_law_claims, _law_known, _law_at_row, _law_row, _law_name, _law_letters_here) -/
def c__law_first_bad : Fc := ⟨"_law_first_bad", 1, ["_law_claims", "_law_known", "_law_at_row", "_law_row", "_law_name", "_law_letters_here"],
  [.set 1 (.dnew true),
  .for_ (.enum (.var 0)) (.tp [.nm 2, .nm 3])
    [.ite (.not_ (.call i__law_row_so false [.var 3]))
       [.ret (.var 2)]
       [],
     .for_ (.seq (.bin false .Add (.bi false .list [.idx (.var 3) (.lit (.int 1))]) (.bin false .Mult (.lst false [.idx (.var 3) (.lit (.int 0))]) (.bi false .int [.cmp .IsNot (.idx (.var 3) (.lit (.int 0))) (.lit .non)])))) (.tp [.nm 4, .nm 5])
       [.ite (.cmp .NotEq (.dmt .setd (.var 1) (.var 4) (.bi false .len [.var 5])) (.bi false .len [.var 5]))
          [.ret (.var 2)]
          []]],
  .ret (.neg (.lit (.int 1)))], [], none⟩
/-- _law_odd_part(_law_pool_here, _law_many, _law_some) -/
def c__law_odd_part : Fc := ⟨"_law_odd_part", 2, ["_law_pool_here", "_law_many", "_law_some"],
  [.set 2 (.lst false [.tup [.lit (.str "a"), .tup []], .tup [.lit (.str "a"), .tup [.lit (.int 0), .lit (.int 1)]], .tup [.lit (.str "bb"), .tup [.lit (.int 0), .lit (.int 0)]], .tup [.lit (.str "A"), .tup [.lit (.int 0)]], .tup [.lit (.str ""), .tup [.lit (.int 0)]], .tup [.lit (.str "ninesigns"), .tup [.lit (.int 0)]], .tup [.lit (.str "a"), .lst false [.lit (.int 0)]], .lit .non]),
  .set 2 (.bin false .Add (.var 2) (.lst false [.tup [.lit (.str "a"), .tup [.var 1]], .tup [.lit (.str "a"), .tup [.neg (.lit (.int 1))]], .tup [.lit (.str "a"), .tup [.lit (.bl true)]], .lst false [.lit (.str "a"), .tup [.lit (.int 0)]], .tup [.lit (.str "a"), .tup [.lit (.int 0)], .lit (.int 0)], .tup [.lit (.int 5), .tup [.lit (.int 0)]], .tup [.lit (.str "new"), .tup []]])),
  .ret (.idx (.bin false .Add (.var 2) (.lst false [.tup [.lit (.str "a"), .tup [.lit (.int 0)]], .tup [.lit (.str "q"), .opn false .trng [.lit (.int 5)]], .tup [.lit (.str "a
"), .tup [.lit (.int 0)]]])) (.call i__law_draw false [.var 0, .lit (.int 18)]))], [], none⟩
/-- _law_odd_wish(_law_pool_here, _law_many, _law_good, _law_some) -/
def c__law_odd_wish : Fc := ⟨"_law_odd_wish", 2, ["_law_pool_here", "_law_many", "_law_good", "_law_some"],
  [.set 2 (.bin false .Mult (.tup [.lit (.int 0)]) (.var 1)),
  .set 3 (.lst true [.tup [.var 2, .lit (.int 0), .lit (.str "most")], .tup [.bin false .Add (.var 2) (.tup [.lit (.int 1)]), .lit (.int 0), .lit (.str "least")], .tup [.bi false .list [.var 2], .lit (.int 0), .lit (.str "least")], .tup [.var 2, .lit .non, .lit (.str "least")]]),
  .set 3 (.bin true .Add (.var 3) (.lst false [.tup [.var 2, .lit (.bl true), .lit (.str "above")], .tup [.var 2, .lit (.int 0)], .tup [.var 2, .lit (.int 0), .lit (.str "above")], .lit .non, .tup [.bin false .Add (.var 2) (.var 2), .lit (.int 0), .lit (.str "least")]])),
  .ex (.mt .append (.var 3) [.lst false [.var 2, .lit (.int 0), .lit (.str "least")]]),
  .ret (.idx (.var 3) (.call i__law_draw false [.var 0, .lit (.int 10)]))], [], none⟩
/-- _law_bent_row(_law_pool_here, _law_row, _law_head, _law_body, _law_wishes_here, _law_many, _law_way) -/
def c__law_bent_row : Fc := ⟨"_law_bent_row", 2, ["_law_pool_here", "_law_row", "_law_head", "_law_body", "_law_wishes_here", "_law_many", "_law_way"],
  [.unp (.tp [.nm 2, .nm 3, .nm 4, .nm 5]) (.var 1),
  .set 6 (.call i__law_draw false [.var 0, .lit (.int 9)]),
  .ite (.cmp .Lt (.var 6) (.lit (.int 2)))
    [.ret (.tup [.call i__law_odd_part false [.var 0, .var 5], .var 3, .var 4, .var 5])]
    [],
  .ite (.cmp .Lt (.var 6) (.lit (.int 4)))
    [.ret (.tup [.var 2, .cut false (.bin false .Add (.var 3) (.tup [.call i__law_odd_part false [.var 0, .var 5]])) (some (.neg (.lit (.int 2)))) none, .var 4, .var 5])]
    [],
  .ite (.cmp .Lt (.var 6) (.lit (.int 6)))
    [.ret (.tup [.var 2, .var 3, .bin false .Add (.var 4) (.tup [.call i__law_odd_wish false [.var 0, .var 5]]), .var 5])]
    [],
  .ite (.cmp .Eq (.var 6) (.lit (.int 6)))
    [.ret (.tup [.var 2, .var 3, .var 4, .idx (.lst false [.bin false .Add (.var 5) (.lit (.int 1)), .bin false .Sub (.var 5) (.lit (.int 1)), .lit (.int 11), .neg (.lit (.int 1)), .lit .non, .lit (.bl true), .lit (.int 10)]) (.call i__law_draw false [.var 0, .lit (.int 7)])])]
    [],
  .ite (.cmp .Eq (.var 6) (.lit (.int 7)))
    [.ret (.idx (.lst false [.bi false .list [.var 1], .cut false (.var 1) none (some (.lit (.int 3))), .bin false .Add (.var 1) (.tup [.lit (.int 0)]), .lit .non, .lit (.str "row"), .tup [.var 2, .bi false .list [.var 3], .var 4, .var 5]]) (.call i__law_draw false [.var 0, .lit (.int 6)]))]
    [],
  .ret (.idx (.lst false [.tup [.var 2, .bin false .Mult (.var 3) (.lit (.int 3)), .var 4, .var 5], .tup [.var 2, .var 3, .bin false .Mult (.var 4) (.lit (.int 7)), .var 5], .tup [.var 2, .var 3, .bi false .list [.var 4], .var 5]]) (.call i__law_draw false [.var 0, .lit (.int 3)]))], [], none⟩
/-- _law_told(_law_claims, _law_kept, e) -/
def c__law_told : Fc := ⟨"_law_told", 1, ["_law_claims", "_law_kept", "e"],
  [.set 1 (.lit .non),
  .keepx 0 2 1
    [.ex (.call i_look_at_rows false [.var 0])],
  .ite (.cmp .Is (.var 1) (.lit .non))
    [.ret (.neg (.lit (.int 1)))]
    [],
  .ret (.cond (.or_ (.not_ (.kxIs (.var 1) [(0, true)])) (.kxIs (.var 1) [(0, false)])) (.lit (.str "odd")) (.kxF (.var 1) "number"))], [], none⟩
/-- law(_law_script, _law_k, _law_wish_here, _law_full, _law_both, _law_odd, _law_row, _law_due, _law_pool_here, _law_claims, _law_turn, _law_at, _law_bent, _law_kept, _law_one) -/
def c_law : Fc := ⟨"law", 1, ["_law_script", "_law_k", "_law_wish_here", "_law_full", "_law_both", "_law_odd", "_law_row", "_law_due", "_law_pool_here", "_law_claims", "_law_turn", "_law_at", "_law_bent", "_law_kept", "_law_one"],
  [.for_ (.rng1 (.bi false .max [.lit (.int 1), .bi false .min [.bi false .len [.var 0], .lit (.int 20)]])) (.nm 1)
    [.set 8 (.call i__law_pool true [.var 0, .var 1]),
     .set 9 (.call i__law_rows false [.var 8, .lit (.int 6)]),
     .ite (.or_ (.cmp .NotEq (.call i__law_told false [.var 9]) (.neg (.lit (.int 1)))) (.cmp .IsNot (.callK i_look_at_rows false [0] [.var 9]) (.lit .non)))
       [.ret (.lit (.bl false))]
       [],
     .for_ (.rng1 (.lit (.int 5))) (.nm 10)
       [.set 11 (.call i__law_draw false [.var 8, .bi false .len [.var 9]]),
        .set 5 (.call i__law_bent_row false [.var 8, .idx (.var 9) (.var 11)]),
        .set 12 (.bin false .Add (.bin false .Add (.cut false (.var 9) none (some (.var 11))) (.lst false [.var 5])) (.cut false (.var 9) (some (.bin false .Add (.var 11) (.lit (.int 1)))) none)),
        .set 13 (.bi false .repr [.var 12]),
        .ite (.or_ (.cmp .NotEq (.bi false .repr [.call i_is_row false [.var 5]]) (.bi false .repr [.call i__law_row_so false [.var 5]])) (.cmp .NotEq (.bi false .repr [.call i__law_told false [.var 12]]) (.bi false .repr [.call i__law_first_bad false [.var 12]])))
          [.ret (.lit (.bl false))]
          [],
        .ite (.cmp .NotEq (.bi false .repr [.var 12]) (.var 13))
          [.ret (.lit (.bl false))]
          []],
     .for_ (.seq (.lst false [.lit .non, .lst false [], .tup [], .bi false .tuple [.var 9], .lit (.str "rows"), .dnew false, .lit (.int 5), .cut false (.bin false .Mult (.var 9) (.lit (.int 41))) none (some (.lit (.int 41)))])) (.nm 5)
       [.ite (.cmp .IsNot (.call i__law_told false [.var 5]) (.lit .non))
          [.ret (.lit (.bl false))]
          []],
     .ite (.or_ (.cmp .NotEq (.comp false (.var 6) (.nm 6) (.seq (.var 9)) (some (.cmp .IsNot (.call i_is_row false [.var 6]) (.lit (.bl true)))) [6]) (.lst false [])) (.cmp .IsNot (.callK i_is_row false [0] [.lit .non]) (.lit (.bl false))))
       [.ret (.lit (.bl false))]
       []],
  .set 2 (.tup [.bin false .Mult (.tup [.lit (.int 1)]) (.lit (.int 10)), .lit (.int 0), .lit (.str "least")]),
  .set 3 (.tup [.tup [.lit (.str "a"), .tup [.lit (.int 9)]], .tup [.tup [.lit (.str "a"), .tup [.lit (.int 0)]], .tup [.lit (.str "a"), .tup [.lit (.int 8)]]], .bin false .Mult (.tup [.var 2]) (.lit (.int 6)), .lit (.int 10)]),
  .set 4 (.tup [.tup [.lit (.str "a"), .tup [.lit (.int 0)]], .tup [.tup [.lit (.str "a"), .tup [.lit (.int 0), .lit (.int 1)]]], .tup [], .lit (.int 2)]),
  .set 5 (.lst false [.var 4, .bin false .Add (.cut false (.var 3) none (some (.lit (.int 2)))) (.tup [.bin false .Mult (.tup [.var 2]) (.lit (.int 7)), .lit (.int 10)]), .bin false .Add (.cut false (.var 3) none (some (.lit (.int 3)))) (.tup [.lit (.int 11)]), .bin false .Add (.cut false (.var 3) none (some (.lit (.int 3)))) (.tup [.lit (.int 9)])]),
  .for_ (.seq (.bin false .Add (.lst false [.tup [.var 3, .neg (.lit (.int 1))]]) (.comp false (.tup [.var 14, .lit (.int 0)]) (.nm 14) (.seq (.var 5)) none [14]))) (.tp [.nm 6, .nm 7])
    [.ite (.cmp .NotEq (.call i__law_told false [.lst false [.var 6]]) (.var 7))
       [.ret (.lit (.bl false))]
       []],
  .ret (.and_ (.cmp .Eq (.call i__law_told false [.bin false .Mult (.lst false [.tup [.lit .non, .tup [], .tup [], .lit (.int 0)]]) (.lit (.int 40))]) (.neg (.lit (.int 1)))) (.cmp .Eq (.call i__law_told false [.bin false .Add (.lst false [.tup [.lit (.str "z"), .tup []]]) (.lst false [.var 3])]) (.lit (.int 0))))], [], none⟩
def F : List Fc := [c_is_whole, c_is_wish, c_is_name, c_is_part, c_is_row, c_parts_of, c_fits_known, c_look_at_rows, c__law_draw, c__law_pool, c__law_arity, c__law_letters, c__law_part_in, c__law_wish, c__law_wishes, c__law_one_row, c__law_rows, c__law_whole, c__law_name_so, c__law_part_so, c__law_wish_so, c__law_row_so, c__law_first_bad, c__law_odd_part, c__law_odd_wish, c__law_bent_row, c__law_told, c_law]
def blt : List Str := ["ValueError", "all", "bool", "enumerate", "int", "isinstance", "len", "list", "max", "min", "range", "repr", "set", "str", "tuple"]
def Gl0 : List D := [(.tup [(.str "least"), (.str "above")]), (.str "abcdefghijklmnopqrstuvwxyz"), (.int 8), (.int 10), (.int 4), (.int 2), (.int 6), (.int 40)]
def G (i : Nat) : D := Gl0.getD i .non
def gn : List Str := ["WORDS", "SIGNS", "LONGEST", "MOST_LETTERS", "MOST_PLACES", "MOST_BODY", "MOST_WISHES", "MOST_ROWS"]
def ct : Ct := { xn := ["NoRows", "NoRow", "NoText"], x1 := fun c => match c with | 0 => some "number" | 2 => some "row" | _ => none, xb := fun c => ([["ValueError", "Exception", "BaseException", "object"], ["ValueError", "Exception", "BaseException", "object"], ["ValueError", "Exception", "BaseException", "object"]] : List (List String)).getD c [], xo := ["number", "row"], xt := ["ValueError"], kw := [(4, ["thing"], [0]), (7, ["thing"], [0])] }
end Lw
set_option maxHeartbeats 4000000
namespace Lw
open PySem Hr
theorem idx0 {n : Nat} {h : Hv} {x y : D} (e : h[n]? = some (.lst [x, y])) : idxD h (.ref n) (.int 0) = some x := by
  rw [idx_seq (show asS h (.ref n) = some [x, y] from asL_at e)]
  rfl
theorem idx1 {n : Nat} {h : Hv} {x y : D} (e : h[n]? = some (.lst [x, y])) : idxD h (.ref n) (.int 1) = some y := by
  rw [idx_seq (show asS h (.ref n) = some [x, y] from asL_at e)]
  rfl
theorem setIx0 {n : Nat} {h : Hv} {x y v : D} (e : h[n]? = some (.lst [x, y])) : setIxD (.ref n) (.int 0) v h = some (h.set n (.lst [v, y])) := by
  rw [setIx_seq e]
  rfl
theorem setIx1 {n : Nat} {h : Hv} {x y v : D} (e : h[n]? = some (.lst [x, y])) : setIxD (.ref n) (.int 1) v h = some (h.set n (.lst [x, v])) := by
  rw [setIx_seq e]
  rfl
theorem draw_ok {k n : Nat} {h : Hv} {many : Int} (p : PoolAt n h) (hm : 0 < many) (hm2 : many < 2 ^ 60) :
    ∃ v h', callF G F (k + 1) i__law_draw false [.ref n, .int many] h = .ok (.int v) h' ∧ Same n h h' ∧ h'.length = h.length ∧ 0 ≤ v ∧ v < many := by
  obtain ⟨a, b, e⟩ := p
  have hn := getElem?_lt e
  rw [callF_step (fc := c__law_draw) rfl rfl]
  have d1 : divOk many := divOk_small (by omega) (by omega)
  have m0 : many ≠ 0 := by omega
  by_cases c : 0 < a
  · refine ⟨a.fmod many, h.set n (.lst [.int (a.fdiv many), .int b]), ?_, Same.set hn, by simp, Int.fmod_nonneg_of_pos _ hm, Int.fmod_lt_of_pos _ hm⟩
    have s := settle_same (d := .int (a.fmod many)) rfl (Same.set (a := a.fdiv many) (b := b) hn) hn
    simp [c__law_draw, startE, Hr.execs, Hr.exec, ev, idx0 e, cmpD, cmpO, cmpI2, cmpInt, c, binD, intOp, m0, d1, setIx0 e, s.1, List.take_of_length_le]
  · obtain ⟨b1, eb⟩ : ∃ b1, b1 = (b * 69621 + 7).fmod 2147483647 := ⟨_, rfl⟩
    have hb0 : 0 ≤ b1 := eb ▸ Int.fmod_nonneg_of_pos _ (by decide)
    have hb1 : b1 < 2147483647 := eb ▸ Int.fmod_lt_of_pos _ (by decide)
    have m1 : mulOk b 69621 := mulOk_r (by decide)
    have m2 : mulOk b1 b1 := mulOk_l (by omega)
    have d2 : divOk 32 := divOk_small (by decide) (by decide)
    have e' : (h.set n (.lst [.int a, .int b1]))[n]? = some (.lst [.int a, .int b1]) := List.getElem?_set_self hn
    refine ⟨(((b1 * b1).fmod 2147483629).fdiv 32).fmod many, h.set n (.lst [.int a, .int b1]), ?_, Same.set hn, by simp, Int.fmod_nonneg_of_pos _ hm, Int.fmod_lt_of_pos _ hm⟩
    have s := settle_same (d := .int ((((b1 * b1).fmod 2147483629).fdiv 32).fmod many)) rfl (Same.set (a := a) (b := b1) hn) hn
    simp [c__law_draw, startE, Hr.execs, Hr.exec, ev, idx0 e, idx1 e, idx1 e', cmpD, cmpO, cmpI2, cmpInt, c, binD, intOp, m0, m1, m2, d2, setIx1 e, s.1, List.take_of_length_le, ← eb]
structure Ws where
  fs : List Int
  pl : Int
  st : Bool
def wd (b : Bool) : Str := if b then "above" else "least"
def wD (w : Ws) : D := .tup [.tup (w.fs.map .int), .int w.pl, .str (wd w.st)]
def neg (w : Ws) : Ws := ⟨w.fs.map (- ·), -w.pl, !w.st⟩
theorem wd_ok (b : Bool) : strB (wd b) = true := by cases b <;> decide +kernel
theorem eq_str {h : Hv} {x y : Str} (hx : strB x = true) (hy : strB y = true) : eqD h (.str x) (.str y) = some (x == y) := rfl
theorem wd_least (b : Bool) : (wd b == ("least" : Str)) = !b := by cases b <;> decide +kernel
theorem wd_above (b : Bool) : (wd b == ("above" : Str)) = b := by cases b <;> decide +kernel
theorem s_least : strB ("least" : Str) = true := by decide +kernel
theorem s_above : strB ("above" : Str) = true := by decide +kernel
theorem eq_least {h : Hv} {b : Bool} : eqD h (.str (wd b)) (.str ("least" : Str)) = some (!b) := by rw [eq_str (wd_ok b) s_least, wd_least]
theorem eq_above {h : Hv} {b : Bool} : eqD h (.str (wd b)) (.str ("above" : Str)) = some b := by rw [eq_str (wd_ok b) s_above, wd_above]
theorem belows_ints : ∀ {n : Nat} (xs : List Int), belows n (xs.map .int) = true
  | _, [] => rfl
  | n, x :: xs => by
    show (true && belows n (xs.map .int)) = true
    rw [belows_ints xs]
    rfl
theorem wD_below (w : Ws) : below 0 (wD w) = true := by
  show (belows 0 (w.fs.map .int) && (true && (true && true))) = true
  rw [belows_ints]
  rfl
theorem compM_ints {g : Hv → Prop} {f : D → Hv → Rs (Option D)} {φ : Int → Int} {h : Hv} (hg : g h) {l : List Int} (k : ∀ i ∈ l, f (.int i) h = .ok (some (.int (φ i))) h) : compM g f (l.map .int) h = .ok ((l.map φ).map .int) h := by
  rw [compM_map (φ := fun d => match d with | .int i => some (.int (φ i)) | _ => none) hg]
  · rw [List.filterMap_map, List.map_map]
    congr 1
    induction l with
    | nil => rfl
    | cons x l ih => 
      rw [List.filterMap_cons]
      show D.int (φ x) :: _ = _
      rw [ih fun i hi => k i (List.mem_cons_of_mem _ hi)]
      rfl
  · intro d hd
    obtain ⟨i, hi, rfl⟩ := List.mem_map.mp hd
    exact k i hi
theorem trs_ints : ∀ xs : List Int, trsD (xs.map .int) = some (xs.map fun x => x != 0)
  | [] => rfl
  | x :: xs => by
    show (trsD (xs.map .int)).map _ = _
    rw [trs_ints xs]
    rfl
def anyF (w : Ws) : Bool := w.fs.any fun x => x != 0
def idle (w : Ws) : Bool := !anyF w && (decide (0 < w.pl) || (w.pl == 0 && !w.st))
def never (w : Ws) : Bool := !anyF w && !idle w
theorem any_map (xs : List Int) : (xs.map fun x => x != 0).any id = xs.any fun x => x != 0 := by rw [List.any_map]; rfl
theorem any_w (w : Ws) : (w.fs.map fun x => x != 0).any id = anyF w := any_map w.fs
theorem eqD_int {h : Hv} {i j : Int} : eqD h (.int i) (.int j) = some (i == j) := rfl
theorem ix_w0 {h : Hv} {w : Ws} : idxD h (wD w) (.int 0) = some (.tup (w.fs.map .int)) := rfl
theorem ix_w1 {h : Hv} {w : Ws} : idxD h (wD w) (.int 1) = some (.int w.pl) := rfl
theorem ix_w2 {h : Hv} {w : Ws} : idxD h (wD w) (.int 2) = some (.str (wd w.st)) := rfl
def pairD (p : Ws × Int) : D := .tup [wD p.1, .int p.2]
theorem zip_pairs : ∀ (ws : List Ws) (ss : List Int), List.zipWith (fun u v => D.tup [u, v]) (ws.map wD) (ss.map D.int) = (ws.zip ss).map pairD
  | [], _ => by simp
  | _ :: _, [] => by simp
  | w :: ws, s :: ss => by
    show _ :: List.zipWith _ (ws.map wD) (ss.map D.int) = _
    rw [zip_pairs ws ss]
    rfl
/-- fs + x * gs -/
def addF (x : Int) (fs gs : List Int) : List Int := List.zipWith (fun a b => a + x * b) fs gs
def addStep (a : Ws) (p : Ws × Int) : Ws := ⟨addF p.2 a.fs p.1.fs, a.pl + p.2 * p.1.pl, a.st || (decide (0 < p.2) && p.1.st)⟩
def small (i : Int) : Prop := i.natAbs < 2 ^ 64
def okW (w : Ws) : Prop := (∀ f ∈ w.fs, small f) ∧ small w.pl ∧ w.fs.length ≤ 1000
theorem zip_ints {fs gs : List Int} : List.zipWith (fun u v => D.tup [u, v]) (fs.map D.int) (gs.map D.int) = (fs.zip gs).map fun p => D.tup [.int p.1, .int p.2] := by
  induction fs generalizing gs with
  | nil => simp
  | cons f fs ih => cases gs with
    | nil => simp
    | cons g gs => 
      show _ :: List.zipWith _ (fs.map D.int) (gs.map D.int) = _
      rw [ih]
      rfl
/-- a comprehension over pairs of ints -/
theorem compM_pairs {g : Hv → Prop} {f : D → Hv → Rs (Option D)} {φ : Int × Int → Int} {h : Hv} (hg : g h) {l : List (Int × Int)} (k : ∀ p ∈ l, f (.tup [.int p.1, .int p.2]) h = .ok (some (.int (φ p))) h) : compM g f (l.map fun p => D.tup [.int p.1, .int p.2]) h = .ok ((l.map φ).map .int) h := by
  induction l with
  | nil => exact comp_nil_pos hg
  | cons p l ih =>
    show compM g f (D.tup [.int p.1, .int p.2] :: l.map fun p => D.tup [.int p.1, .int p.2]) h = _
    rw [comp_cons_pos hg, k p List.mem_cons_self, bind_ok, ih fun q hq => k q (List.mem_cons_of_mem _ hq), bind_ok]
    rfl
theorem addF_zip {x : Int} {fs gs : List Int} : (fs.zip gs).map (fun p => p.1 + x * p.2) = addF x fs gs := by
  induction fs generalizing gs with
  | nil => rfl
  | cons f fs ih => cases gs with
    | nil => rfl
    | cons g gs => show _ :: List.map (fun p => p.1 + x * p.2) (fs.zip gs) = _ :: _; rw [ih]; rfl
/-- the slots of added's loop -/
def IA (many wsD ssD : D) (a : Ws) (env : En) : Prop := a.fs.length ≤ 1000 ∧ ∃ a1 a2 a3 a4 a5 a6, env = [some many, some wsD, some ssD, some (.lst (a.fs.map .int)), some (.int a.pl), some (.str (wd a.st)), a1, a2, a3, a4, a5, a6]
theorem addF_length {x : Int} {fs gs : List Int} : (addF x fs gs).length ≤ fs.length := by
  unfold addF
  rw [List.length_zipWith]
  exact Nat.min_le_left _ _
/-- what may be handed in as shares -/
inductive Th : D → Prop
  | non : Th .non
  | bl (b : Bool) : Th (.bl b)
  | int (i : Int) : Th (.int i)
  | str (s : Str) : Th (.str s)
  | tup (xs : List D) : Th (.tup xs)
  | lst (xs : List D) : Th (.lst xs)
  | dct (ks vs : List D) : Th (.dct ks vs)
def isLst : D → Bool
  | .lst _ => true
  | _ => false
def isInt : D → Bool
  | .int _ => true
  | _ => false
theorem ty_list {h : Hv} {d : D} (t : Th d) : blD ((tyD h d).bind fun t => isAny t [.ty "list"]) h = .ok (.bl (isLst d)) h := by
  cases t <;> rfl
theorem ty_int {h : Hv} {d : D} (t : Th d) : blD ((tyD h d).bind fun t => isAny t [.ty "int"]) h = .ok (.bl (match d with | .int _ => true | .bl _ => true | _ => false)) h := by
  cases t <;> rfl
theorem ty_bool {h : Hv} {d : D} (t : Th d) : blD ((tyD h d).bind fun t => isAny t [.ty "bool"]) h = .ok (.bl (match d with | .bl _ => true | _ => false)) h := by
  cases t <;> rfl
theorem whole_ok {k : Nat} {h : Hv} {d : D} (t : Th d) : callF G F (k + 1) i_is_whole false [d] h = .ok (.bl (isInt d)) h := by
  rw [callF_step (fc := c_is_whole) rfl rfl]
  have hs : ∀ b, settle h (.bl b) h = .ok (.bl b) h := fun b => settle_here rfl
  simp only [c_is_whole, startE, Hr.execs, Hr.exec, ev, evs]
  simp [ty_int t, ty_bool t]
  cases t <;> simp [hs, isInt]
/-- the shares, where each is an int of at least 0 -/
def shares : List D → Option (List Int)
  | [] => some []
  | .int i :: ds => if 0 ≤ i then (shares ds).map (i :: ·) else none
  | _ => none
def goodD (d : D) : Bool := match d with
  | .int i => decide (0 ≤ i)
  | _ => false
theorem shares_good : ∀ {ds : List D}, (ds.map goodD).all id = (shares ds).isSome
  | [] => rfl
  | d :: ds => by
    have ih := shares_good (ds := ds)
    rw [List.map_cons, List.all_cons, ih]
    cases d with
    | int i =>
      by_cases c : 0 ≤ i
      · show (decide (0 ≤ i) && _) = (if 0 ≤ i then (shares ds).map (i :: ·) else none).isSome
        rw [if_pos c, decide_eq_true c]
        cases shares ds <;> rfl
      · show (decide (0 ≤ i) && _) = (if 0 ≤ i then (shares ds).map (i :: ·) else none).isSome
        rw [if_neg c, decide_eq_false c]
        rfl
    | _ => rfl
theorem shares_ints : ∀ {ds : List D} {ns : List Int}, shares ds = some ns → ds = ns.map .int
  | [], ns, e => by cases e; rfl
  | .int i :: ds, ns, e => by
    have e : (if 0 ≤ i then (shares ds).map (i :: ·) else none) = some ns := e
    by_cases c : 0 ≤ i
    · rw [if_pos c] at e
      cases z : shares ds with
      | none => rw [z] at e; cases e
      | some ms =>
        rw [z] at e
        cases e
        rw [shares_ints z]
        rfl
    · rw [if_neg c] at e
      cases e
  | .non :: _, _, e => nomatch e
  | .bl _ :: _, _, e => nomatch e
  | .str _ :: _, _, e => nomatch e
  | .tup _ :: _, _, e => nomatch e
  | .lst _ :: _, _, e => nomatch e
  | .ro _ :: _, _, e => nomatch e
  | .dct _ _ :: _, _, e => nomatch e
  | .ref _ :: _, _, e => nomatch e
def addAll (many : Int) (ws : List Ws) (ns : List Int) : Ws := (ws.zip ns).foldl addStep ⟨List.replicate many.toNat 0, 0, false⟩
def barsV (many : Int) (ws : List Ws) : D → Bool
  | .lst ds => if ds.length = ws.length then (match shares ds with
    | some ns => never (addAll many ws ns)
    | none => false) else false
  | _ => false
/-- a comprehension of truths -/
theorem compM_bools {g : Hv → Prop} {f : D → Hv → Rs (Option D)} {φ : D → Bool} {h : Hv} (hg : g h) {l : List D} (k : ∀ d ∈ l, f d h = .ok (some (.bl (φ d))) h) : compM g f l h = .ok ((l.map φ).map .bl) h := by
  induction l with
  | nil => exact comp_nil_pos hg
  | cons p l ih =>
    rw [comp_cons_pos hg, k p List.mem_cons_self, bind_ok, ih fun q hq => k q (List.mem_cons_of_mem _ hq), bind_ok]
    rfl
theorem trs_bls : ∀ bs : List Bool, trsD (bs.map .bl) = some bs
  | [] => rfl
  | b :: bs => by
    show (trsD (bs.map .bl)).map _ = _
    rw [trs_bls bs]
    rfl
theorem okW_neg {w : Ws} (o : okW w) : okW (neg w) := by
  obtain ⟨a, b, c⟩ := o
  refine ⟨fun f hf => ?_, ?_, by show (w.fs.map (- ·)).length ≤ 1000; simpa using c⟩
  · obtain ⟨g, hg, rfl⟩ := List.mem_map.mp (show f ∈ w.fs.map (- ·) from hf)
    have := a g hg
    unfold small at this ⊢
    omega
  · unfold small at b ⊢
    show (-w.pl).natAbs < 2 ^ 64
    omega
theorem cat_lst {h : Hv} {xs ys : List D} (c : xs.length + ys.length ≤ 1000) : binD false .Add (.lst xs) (.lst ys) h = .ok (.lst (xs ++ ys)) h := by
  show catL false h (some xs) (some ys) = _
  show (if xs.length + ys.length ≤ sizeLine then mkL false (xs ++ ys) h else .no) = _
  rw [if_pos (size_of (by omega))]
  rfl
theorem strips_ints {f : Nat → Option PyData} : ∀ xs : List Int, strips f (xs.map .int) = some (xs.map .int)
  | [] => rfl
  | x :: xs => by
    show (some (PyData.int x)).bind (fun y => (strips f (xs.map .int)).map (y :: ·)) = _
    rw [strips_ints xs]
    rfl
theorem lay_ints : ∀ xs : List Int, PyData.plainAll (xs.map .int) = true
  | [] => rfl
  | x :: xs => by
    show (true && PyData.plainAll (xs.map .int)) = true
    rw [lay_ints xs]
    rfl
theorem dep_ints : ∀ xs : List Int, PyData.depthAll (xs.map .int) = 0
  | [] => rfl
  | x :: xs => by
    show max 0 (PyData.depthAll (xs.map .int)) = 0
    rw [dep_ints xs]
    rfl
theorem eqvP_ints : ∀ {xs ys : List Int}, PyData.eqvAll (xs.map .int) (ys.map .int) = decide (xs = ys)
  | [], [] => rfl
  | [], _ :: _ => by rw [decide_eq_false (by simp)]; rfl
  | _ :: _, [] => by rw [decide_eq_false (by simp)]; rfl
  | x :: xs, y :: ys => by
    show ((x == y) && PyData.eqvAll (xs.map .int) (ys.map .int)) = _
    rw [eqvP_ints (xs := xs) (ys := ys)]
    by_cases c : x = y
    · subst c; simp
    · simp [c]
theorem eqD_ints {h : Hv} {xs ys : List Int} : eqD h (.lst (xs.map .int)) (.lst (ys.map .int)) = some (decide (xs = ys)) := by
  have p : ∀ zs : List Int, toP h (.lst (zs.map .int)) = some (.list (zs.map .int)) := fun zs => by
    show (strips _ (zs.map .int)).map _ = _
    rw [strips_ints]
    rfl
  have s : ∀ zs : List Int, shp (.list (zs.map .int)) = true := fun zs => by
    show (PyData.plainAll (zs.map .int) && decide (PyData.depthAll (zs.map .int) + 1 ≤ 60)) = true
    rw [lay_ints, dep_ints]
    rfl
  refine eqD_of ?_
  unfold eqL
  rw [p, p]
  show (if (shp (.list (xs.map .int)) && shp (.list (ys.map .int))) = true then some (PyData.eqvAll (xs.map .int) (ys.map .int)) else none) = _
  rw [s, s, eqvP_ints]
  rfl
theorem gcd_step {x y : Nat} (h : y ≠ 0) : Nat.gcd y (x % y) = Nat.gcd x y := by
  rw [Nat.gcd_comm x y, Nat.gcd_rec y x, Nat.gcd_comm]
def ratD (p : Int × Int) : D := .tup [.int p.1, .int p.2]
/-- in lowest terms -/
def ratV (t b : Int) : Int × Int := (t / (Int.gcd t b : Int), b / (Int.gcd t b : Int))
theorem gcd_pos {t b : Int} (hb : 0 < b) : 0 < (Int.gcd t b : Int) := by
  have : 0 < Int.gcd t b := Nat.gcd_pos_of_pos_right _ (by omega)
  omega
theorem gcd_le {t b : Int} (hb : 0 < b) : (Int.gcd t b : Int) ≤ b := by
  have : Int.gcd t b ≤ b.natAbs := Nat.gcd_le_right _ (by omega)
  omega
theorem divOk_big {j : Int} (h : j ≠ 0) (h2 : j.natAbs < 2 ^ 8000) : divOk j := ⟨h, by
  have : j.natAbs.log2 < 8000 := (Nat.log2_lt (by omega)).mpr h2
  omega⟩
theorem pow_big {j : Int} {g : Nat} (h : j < 2 ^ 8000) (hg : (g : Int) ≤ j) : (g : Int).natAbs < 2 ^ 8000 := by
  have e : (g : Int).natAbs = g := Int.natAbs_natCast g
  rw [e]
  have : (g : Int) < ((2 ^ 8000 : Nat) : Int) := by
    refine Int.lt_of_le_of_lt hg ?_
    rw [show ((2 ^ 8000 : Nat) : Int) = (2 : Int) ^ 8000 from by rw [Int.natCast_pow]; rfl]
    exact h
  exact Int.ofNat_lt.mp this
/-- the sum over a common bottom -/
def sumStep (a : Int × Int) (p : Int × (Int × Int)) : Int × Int := (a.1 * p.2.2 + p.1 * p.2.1 * a.2, a.2 * p.2.2)
def sumV (w : Ws) (fill : List (Int × Int)) : Int × Int := (w.fs.zip fill).foldl sumStep (w.pl, 1)
/-- a filling of small numbers -/
def okFill (fill : List (Int × Int)) : Prop := fill.length ≤ 12 ∧ ∀ p ∈ fill, p.1.natAbs ≤ 1000 ∧ 1 ≤ p.2 ∧ p.2 ≤ 10
theorem zip_fill (fs : List Int) : ∀ (fill : List (Int × Int)), List.zipWith (fun u v => D.tup [u, v]) (fs.map D.int) (fill.map ratD) = (fs.zip fill).map fun p => D.tup [.int p.1, ratD p.2] := by
  induction fs with
  | nil => simp
  | cons f fs ih =>
    intro fill
    cases fill with
    | nil => simp
    | cons p fill =>
      show _ :: List.zipWith _ (fs.map D.int) (fill.map ratD) = _
      rw [ih]
      rfl
def grV (w : Ws) (fill : List (Int × Int)) : Bool := decide (0 < (sumV w fill).1) || ((sumV w fill).1 == 0 && !w.st)
theorem rat_pos {t b : Int} (hb : 0 < b) : (0 < (ratV t b).1 ↔ 0 < t) ∧ ((ratV t b).1 = 0 ↔ t = 0) := by
  have g0 := gcd_pos (t := t) hb
  obtain ⟨c, e⟩ : (Int.gcd t b : Int) ∣ t := Int.gcd_dvd_left ..
  have e2 : (ratV t b).1 = c := by
    show t / (Int.gcd t b : Int) = c
    generalize (Int.gcd t b : Int) = g at e g0
    subst e
    exact Int.mul_ediv_cancel_left _ (by omega)
  rw [e2]
  generalize (Int.gcd t b : Int) = g at e g0
  subst e
  constructor
  · constructor
    · exact fun h => Int.mul_pos g0 h
    · exact fun h => Int.pos_of_mul_pos_right h g0
  · constructor
    · intro h; rw [h, Int.mul_zero]
    · intro h
      rcases Int.mul_eq_zero.mp h with h | h
      · omega
      · exact h
theorem draw_W {k n : Nat} {h : Hv} {many : Int} {Q : D → Hv → Prop} {E : Exn → Hv → Prop} (p : PoolAt n h) (hm : 0 < many) (hm2 : many < 2 ^ 60)
    (q : ∀ v h', Same n h h' → h'.length = h.length → 0 ≤ v → v < many → Q (.int v) h') : (callF G F (k + 1) i__law_draw false [.ref n, .int many] h).W Q E := by
  obtain ⟨v, h', e, s, l, v0, v1⟩ := draw_ok (k := k) p hm hm2
  exact .of_eq e (q v h' s l v0 v1)
/-- a literal list at a drawn place -/
theorem pick_ok {xs : List D} {h : Hv} {v : Int} (h0 : 0 ≤ v) (h1 : v < xs.length) : ∃ x ∈ xs, idxD h (.lst xs) (.int v) = some x := by
  have hv : v.toNat < xs.length := by omega
  refine ⟨xs[v.toNat], List.getElem_mem _, ?_⟩
  show L2.atI xs v = _
  unfold L2.atI
  rw [show L2.ixN xs.length v = some v.toNat from by
    unfold L2.ixN
    simp [h0, h1]]
  simp [hv]
theorem pick_int {xs : List Int} {h : Hv} {v : Int} {b : Nat} (h0 : 0 ≤ v) (h1 : v < xs.length) (hb : ∀ x ∈ xs, x.natAbs ≤ b) : ∃ x : Int, x ∈ xs ∧ x.natAbs ≤ b ∧ idxD h (.lst (xs.map .int)) (.int v) = some (.int x) := by
  obtain ⟨d, hd, e⟩ := pick_ok (xs := xs.map D.int) (h := h) h0 (by rw [List.length_map]; exact h1)
  obtain ⟨x, hx, rfl⟩ := List.mem_map.mp hd
  exact ⟨x, hx, hb x hx, e⟩
/-- a drawn wish -/
def drawnW (b : Nat) (many : Nat) (w : Ws) : Prop := w.fs.length = many ∧ (∀ f ∈ w.fs, f.natAbs ≤ b) ∧ w.pl.natAbs ≤ b
theorem wish_W {k n : Nat} {h : Hv} {many : Nat} {Q : D → Hv → Prop} {E : Exn → Hv → Prop} (p : PoolAt n h) (hm : many ≤ 100)
    (q : ∀ w h', Same n h h' → h'.length = h.length → drawnW 7 many w → Q (wD w) h') : (callF G F (k + 2) i__law_wish false [.ref n, .int many] h).W Q E := by
  refine call_W (fc := c__law_wish) rfl rfl ?_
  simp [c__law_wish, Hr.exec, ev, evs, evc, startE, rng_nat (show many < 2 ^ 62 by omega)]
  refine comp_W1 (l := List.range many) (enc := fun x : Nat => D.int (x : Int)) (fun l r h' => Same n h h' ∧ h'.length = h.length ∧ ∃ fs : List Int, r = fs.map .int ∧ fs.length + l.length = many ∧ ∀ f ∈ fs, f.natAbs ≤ 7) ⟨.refl p, rfl, [], rfl, by simp, by simp⟩ (fun _ _ _ _ => trivial) ?_ ?_
  · rintro x l r h' ⟨s, le, fs, rfl, lf, bf⟩
    simp
    refine draw_W (many := 9) s.pool (by decide) (by decide) fun v h2 s2 l2 v0 v1 => ?_
    obtain ⟨y, _, hy, e⟩ := pick_int (xs := [0, 1, -1, 2, -2, 0, 1, -1, 3]) (h := h2) (b := 7) v0 v1 (by decide)
    simp [e] at *
    simp [e]
    refine ⟨s.trans s2, by rw [l2]; exact le, fs ++ [y], by simp, by simp; omega, fun f hf => ?_⟩
    rcases List.mem_append.mp hf with hf | hf
    · exact bf f hf
    · rw [List.mem_singleton.mp hf]; exact hy
  · rintro r h' ⟨s, le, fs, rfl, lf, bf⟩
    have sz : fs.length ≤ sizeLine := size_of (by simp at lf; omega)
    simp [sz]
    refine draw_W (many := 7) s.pool (by decide) (by decide) fun v h2 s2 l2 v0 v1 => ?_
    obtain ⟨y, _, hy, e⟩ := pick_int (xs := [0, 1, -1, 2, -3, 5, -7]) (h := h2) (b := 7) v0 v1 (by decide)
    simp at e
    simp [e]
    refine draw_W (many := 3) s2.pool (by decide) (by decide) fun v h3 s3 l3 v0 v1 => ?_
    obtain ⟨z, hz, e⟩ := pick_ok (xs := [.str "least", .str "least", .str "above"]) (h := h3) v0 v1
    obtain ⟨st, rfl⟩ : ∃ st, z = .str (wd st) := by
      simp at hz
      rcases hz with rfl | rfl
      · exact ⟨false, rfl⟩
      · exact ⟨true, rfl⟩
    simp [e]
    exact settle_W (n := n) (wD_below ⟨fs, y, st⟩) ((s.trans s2).trans s3) (pool_lt p) fun h4 s4 l4 => q ⟨fs, y, st⟩ h4 s4 l4 ⟨by simpa using lf, bf, hy⟩
theorem belows_of : ∀ {n : Nat} {ds : List D}, (∀ d ∈ ds, below n d = true) → belows n ds = true
  | _, [], _ => rfl
  | n, d :: ds, k => by
    show (below n d && belows n ds) = true
    rw [k d List.mem_cons_self, belows_of fun x hx => k x (List.mem_cons_of_mem _ hx)]
    rfl
theorem wDs_below (ws : List Ws) : belows 0 (ws.map wD) = true := belows_of fun d hd => by
  obtain ⟨w, _, rfl⟩ := List.mem_map.mp hd
  exact wD_below w
theorem wishes_W {k n : Nat} {h : Hv} {many most : Nat} {Q : D → Hv → Prop} {E : Exn → Hv → Prop} (p : PoolAt n h) (hm : many ≤ 100) (hm2 : most ≤ 100)
    (q : ∀ (ws : List Ws) h', Same n h h' → h'.length = h.length → ws.length ≤ most → (∀ w ∈ ws, drawnW 7 many w) → Q (.lst (ws.map wD)) h') : (callF G F (k + 3) i__law_wishes false [.ref n, .int many, .int most] h).W Q E := by
  refine call_W (fc := c__law_wishes) rfl rfl ?_
  simp [c__law_wishes, Hr.exec, ev, evs, evc, startE]
  refine draw_W (many := (most : Int) + 1) p (by omega) (by omega) fun v h1 s1 l1 v0 v1 => ?_
  rw [rng_int v0 (by omega)]
  simp
  refine comp_W1 (l := List.range v.toNat) (enc := fun x : Nat => D.int (x : Int)) (fun l r h' => Same n h h' ∧ h'.length = h.length ∧ ∃ ws : List Ws, r = ws.map wD ∧ ws.length + l.length = v.toNat ∧ ∀ w ∈ ws, drawnW 7 many w) ⟨s1, l1, [], rfl, by simp, by simp⟩ (fun _ _ _ _ => trivial) ?_ ?_
  · rintro x l r h' ⟨s, le, ws, rfl, lf, bf⟩
    simp
    refine wish_W s.pool hm fun w h2 s2 l2 dw => ?_
    refine ⟨s.trans s2, by rw [l2]; exact le, ws ++ [w], by simp, by simp at lf ⊢; omega, fun f hf => ?_⟩
    rcases List.mem_append.mp hf with hf | hf
    · exact bf f hf
    · rw [List.mem_singleton.mp hf]; exact dw
  · rintro r h' ⟨s, le, ws, rfl, lf, bf⟩
    have lw : ws.length ≤ most := by simp at lf; omega
    have sz : ws.length ≤ sizeLine := size_of (by omega)
    simp [sz]
    exact settle_W (n := n) (wDs_below ws) s (pool_lt p) fun h4 s4 l4 => q ws h4 s4 l4 lw bf
theorem rats_below (l : List (Int × Int)) : belows 0 (l.map ratD) = true := belows_of fun d hd => by
  obtain ⟨w, _, rfl⟩ := List.mem_map.mp hd
  rfl
theorem rat_small {t b : Int} {B : Nat} (hb : 0 < b) (hb2 : b ≤ 10) (ht : t.natAbs ≤ B) : (ratV t b).1.natAbs ≤ B ∧ 1 ≤ (ratV t b).2 ∧ (ratV t b).2 ≤ 10 := by
  have g0 := gcd_pos (t := t) hb
  obtain ⟨c, e⟩ : (Int.gcd t b : Int) ∣ t := Int.gcd_dvd_left ..
  obtain ⟨d, f⟩ : (Int.gcd t b : Int) ∣ b := Int.gcd_dvd_right ..
  have e2 : (ratV t b).1 = c := by
    show t / (Int.gcd t b : Int) = c
    generalize (Int.gcd t b : Int) = g at e g0
    rw [e]
    exact Int.mul_ediv_cancel_left _ (by omega)
  have f2 : (ratV t b).2 = d := by
    show b / (Int.gcd t b : Int) = d
    generalize (Int.gcd t b : Int) = g at f g0
    rw [f]
    exact Int.mul_ediv_cancel_left _ (by omega)
  rw [e2, f2]
  generalize (Int.gcd t b : Int) = g at e f g0
  have d0 : 0 < d := by
    rw [f] at hb
    exact Int.pos_of_mul_pos_right hb g0
  refine ⟨?_, by omega, ?_⟩
  · have : c.natAbs ≤ t.natAbs := by
      rw [e, Int.natAbs_mul]
      exact Nat.le_mul_of_pos_left _ (by omega)
    omega
  · have : d * 1 ≤ d * g := Int.mul_le_mul_of_nonneg_left (by omega) (by omega)
    rw [Int.mul_comm d g, ← f] at this
    omega
theorem _root_.Hr.Same.push {n : Nat} {h : Hv} {c : Cell} (p : PoolAt n h) : Same n h (h ++ [c]) :=
  ⟨by simp, fun i hi _ => List.getElem?_append_left hi, by
    obtain ⟨a, b, e⟩ := p
    exact ⟨a, b, by rw [List.getElem?_append_left (getElem?_lt e)]; exact e⟩⟩
theorem mt_append {t : Mt} {n : Nat} {h : Hv} {xs : List D} {d : D} (e : h[n]? = some (.lst xs)) (hl : xs.length < 16777216) : mtD .append (.ref n) [d] h = .ok .non (h.set n (.lst (xs ++ [d]))) := by
  have hl : xs.length < sizeLine := by rw [sizeLine_eq]; exact hl
  unfold mtD
  rw [cellL_at e]
  show setL h n (if xs.length < sizeLine then some (.non, xs ++ [d]) else none) = _
  rw [if_pos hl]
  rfl
theorem ty_ref {n : Nat} {h : Hv} {xs : List D} (e : h[n]? = some (.lst xs)) : tyD h (.ref n) = some "list" := by
  show (match h[n]? with
    | some (.lst _) => some "list"
    | some (.dct _ _) => some "dict"
    | _ => none) = _
  rw [e]
theorem zerosI {h : Hv} {many : Int} (h0 : 0 ≤ many) (hm : many ≤ 1000) : binD false .Mult (.lst [.int 0]) (.int many) h = .ok (.lst ((List.replicate many.toNat 0).map .int)) h := by
  show repL false h many (some [.int 0]) = _
  have c : repOk [D.int 0].length many := ⟨by omega, by omega, by rw [sizeLine_eq]; simp; omega⟩
  show (if repOk [D.int 0].length many then mkL false (rep [.int 0] many) h else .no) = _
  rw [if_pos c]
  show Rs.ok (D.lst (List.replicate many.toNat [D.int 0]).flatten) h = _
  congr 2
  simp
theorem zeros {h : Hv} {many : Nat} (hm : many ≤ 1000) : binD false .Mult (.lst [.int 0]) (.int (many : Int)) h = .ok (.lst ((List.replicate many 0).map .int)) h := by
  rw [zerosI (by omega) (by omega), Int.toNat_natCast]
theorem addF_len {x : Int} {fs gs : List Int} (e : fs.length = gs.length) : (addF x fs gs).length = fs.length := by
  unfold addF
  rw [List.length_zipWith]
  omega
theorem comp_add {h : Hv} {x : Int} {fs gs : List Int} {f : D → Hv → Rs (Option D)} (sm : ∀ g ∈ gs, small g) (kk : ∀ a b : Int, small b → f (.tup [.int a, .int b]) h = .ok (some (.int (a + x * b))) h) {g : Hv → Prop} (hg : g h) :
    compM g f (List.zipWith (fun u v => D.tup [u, v]) (fs.map D.int) (gs.map D.int)) h = .ok ((addF x fs gs).map .int) h := by
  rw [zip_ints, compM_pairs (φ := fun p => p.1 + x * p.2) hg fun p hp => kk _ _ (sm _ (List.of_mem_zip hp).2), addF_zip]
theorem mem_addF {x z : Int} {fs gs : List Int} (hz : z ∈ addF x fs gs) : ∃ a ∈ fs, ∃ b ∈ gs, z = a + x * b := by
  rw [← addF_zip] at hz
  obtain ⟨p, hp, rfl⟩ := List.mem_map.mp hz
  exact ⟨p.1, (List.of_mem_zip hp).1, p.2, (List.of_mem_zip hp).2, rfl⟩
theorem drawn_ok {B many : Nat} {w : Ws} (hB : B < 2 ^ 64) (hm : many ≤ 1000) (d : drawnW B many w) : okW w :=
  ⟨fun f hf => Nat.lt_of_le_of_lt (d.2.1 f hf) hB, Nat.lt_of_le_of_lt d.2.2 hB, by rw [d.1]; exact hm⟩
theorem step_bound {a b x : Int} {c : Nat} (ha : a.natAbs ≤ c) (hb : b.natAbs ≤ 7) (h0 : 0 ≤ x) (h1 : x ≤ 3) : (a + x * b).natAbs ≤ c + 21 := by
  have : (x * b).natAbs ≤ 3 * 7 := by
    rw [Int.natAbs_mul]
    exact Nat.mul_le_mul (by omega) hb
  omega
/-- a thing that stands in a list of shares -/
structure goodE (d : D) : Prop where
  th : Th d
  ok : okV d = true
  dp : dp d ≤ 1
  wt : wt d ≤ 300
def goodL (ds : List D) : Prop := ds.length ≤ 300 ∧ ∀ x ∈ ds, goodE x
structure goodT (d : D) : Prop where
  th : Th d
  ok : okV d = true
  dp : dp d ≤ 2
  wt : wt d ≤ 100000
  el : ∀ ds, d = .lst ds → goodL ds
theorem okVs_of : ∀ {ds : List D}, (∀ d ∈ ds, okV d = true) → okVs ds = true
  | [], _ => rfl
  | d :: ds, k => by
    show (okV d && okVs ds) = true
    rw [k d List.mem_cons_self, okVs_of fun x hx => k x (List.mem_cons_of_mem _ hx)]
    rfl
theorem dps_of {n : Nat} : ∀ {ds : List D}, (∀ d ∈ ds, dp d ≤ n) → dps ds ≤ n
  | [], _ => Nat.zero_le _
  | d :: ds, k => by
    show max (dp d) (dps ds) ≤ n
    exact Nat.max_le.mpr ⟨k d List.mem_cons_self, dps_of fun x hx => k x (List.mem_cons_of_mem _ hx)⟩
theorem wts_of {n : Nat} : ∀ {ds : List D}, (∀ d ∈ ds, wt d ≤ n) → wts ds ≤ (n + 2) * ds.length
  | [], _ => Nat.zero_le _
  | d :: ds, k => by
    show wt d + 2 + wts ds ≤ (n + 2) * (ds.length + 1)
    have a := k d List.mem_cons_self
    have b := wts_of (n := n) (ds := ds) fun x hx => k x (List.mem_cons_of_mem _ hx)
    rw [Nat.mul_add, Nat.mul_one]
    omega
theorem goodL.okVs {ds : List D} (g : goodL ds) : okVs ds = true := okVs_of fun d hd => (g.2 d hd).ok
theorem goodL.dps {ds : List D} (g : goodL ds) : dps ds ≤ 1 := dps_of fun d hd => (g.2 d hd).dp
theorem goodL.wts {ds : List D} (g : goodL ds) : wts ds ≤ 302 * 300 := Nat.le_trans (wts_of fun d hd => (g.2 d hd).wt) (Nat.mul_le_mul_left _ g.1)
theorem goodT.lst {ds : List D} (g : goodL ds) : goodT (.lst ds) :=
  ⟨.lst _, g.okVs, Nat.succ_le_succ g.dps, by have := g.wts; show wts ds + 3 ≤ 100000; omega, fun _ e => by cases e; exact g⟩
theorem goodT.tup {ds : List D} (g : goodL ds) : goodT (.tup ds) :=
  ⟨.tup _, g.okVs, Nat.succ_le_succ g.dps, by have := g.wts; show wts ds + 3 ≤ 100000; omega, fun _ e => nomatch e⟩
theorem goodE.int {i : Int} (h : i.natAbs < 2 ^ 148) : goodE (.int i) := ⟨.int i, decide_eq_true h, Nat.zero_le _, by show 150 ≤ 300; decide⟩
theorem goodL.append {xs ys : List D} (l : xs.length + ys.length ≤ 300) (a : goodL xs) (b : goodL ys) : goodL (xs ++ ys) :=
  ⟨by rw [List.length_append]; exact l, fun x hx => (List.mem_append.mp hx).elim (a.2 x) (b.2 x)⟩
theorem goodL.cut {xs : List D} {lo hi : Option Int} (a : goodL xs) : goodL (cutB xs lo hi) := by
  have s : (cutB xs lo hi).Sublist xs := (List.take_sublist _ _).trans (List.drop_sublist _ _)
  exact ⟨Nat.le_trans s.length_le a.1, fun x hx => a.2 x (s.subset hx)⟩
theorem cutB_len {xs : List D} {lo hi : Option Int} : (cutB xs lo hi).length ≤ xs.length := ((List.take_sublist _ _).trans (List.drop_sublist _ _)).length_le
theorem goodL.ints {ss : List Int} (l : ss.length ≤ 300) (b : ∀ s ∈ ss, s.natAbs < 2 ^ 148) : goodL (ss.map .int) :=
  ⟨by rw [List.length_map]; exact l, fun x hx => by
    obtain ⟨s, hs, rfl⟩ := List.mem_map.mp hx
    exact .int (b s hs)⟩
theorem goodL.one {d : D} (g : goodE d) : goodL [d] := ⟨by simp, fun x hx => by rw [List.mem_singleton.mp hx]; exact g⟩
theorem goodE.top {d : D} (g : goodE d) (h : ∀ ds, d ≠ .lst ds) : goodT d := ⟨g.th, g.ok, Nat.le_trans g.dp (by decide), Nat.le_trans g.wt (by decide), fun ds e => absurd e (h ds)⟩
theorem cut_lst {h : Hv} {ds : List D} {lo hi : Option Int} : cutD false h (.lst ds) lo hi = .ok (.lst (cutB ds lo hi)) h := rfl
theorem eqD_nil {h : Hv} {ds : List D} (g : goodL ds) : eqD h (.lst ds) (.lst []) = some ds.isEmpty := by
  rw [eqD_ok (x := .lst ds) (y := .lst []) g.okVs rfl (by have := g.dps; show dps ds + 1 ≤ 60; omega) (by decide), eqv_nil]
theorem goodL.sub {xs ys : List D} (a : goodL xs) (s : ys.Sublist xs) : goodL ys := ⟨Nat.le_trans s.length_le a.1, fun x hx => a.2 x (s.subset hx)⟩
/-- a comprehension that picks -/
theorem compM_pick {g : Hv → Prop} {f : D → Hv → Rs (Option D)} {φ : D → Bool} {h : Hv} (hg : g h) {l : List D} (k : ∀ d ∈ l, f d h = .ok (if φ d then some d else none) h) : compM g f l h = .ok (l.filter φ) h := by
  induction l with
  | nil => exact comp_nil_pos hg
  | cons p l ih =>
    rw [comp_cons_pos hg, k p List.mem_cons_self, bind_ok, ih fun q hq => k q (List.mem_cons_of_mem _ hq), bind_ok]
    rw [List.filter_cons]
    cases φ p <;> rfl
def oddD (d : D) : Bool := !isInt d
def negD : D → Bool
  | .int i => decide (i < 0)
  | _ => false
theorem shares_some : ∀ {ds : List D}, (ds.filter oddD = [] ∧ ds.filter negD = []) ↔ (shares ds).isSome = true
  | [] => by simp [shares]
  | d :: ds => by
    have ih := shares_some (ds := ds)
    cases d with
    | int i =>
      by_cases c : 0 ≤ i
      · have c' : ¬ i < 0 := by omega
        simp [oddD, isInt, negD, c', shares, c] at ih ⊢
        exact ih
      · have c' : i < 0 := by omega
        simp [oddD, isInt, negD, c', shares, c]
    | _ => simp [oddD, isInt, negD, shares]
theorem addAll_len {many : Nat} : ∀ (ps : List (Ws × Int)) (a : Ws), (∀ p ∈ ps, p.1.fs.length = many) → a.fs.length = many → (ps.foldl addStep a).fs.length = many
  | [], a, _, h => h
  | p :: ps, a, hp, h => addAll_len ps _ (fun q hq => hp q (List.mem_cons_of_mem _ hq)) (by
    show (addF p.2 a.fs p.1.fs).length = many
    rw [addF_len (by rw [h, hp p List.mem_cons_self])]
    exact h)
theorem zero_iff {many : Nat} : ∀ {fs : List Int}, fs.length = many → ((fs = List.replicate many 0) ↔ (fs.any fun x => x != 0) = false) := by
  induction many with
  | zero =>
    intro fs h
    have := List.length_eq_zero_iff.mp h
    subst this
    simp
  | succ n ih =>
    intro fs h
    cases fs with
    | nil => simp at h
    | cons f fs =>
      have := ih (fs := fs) (by simpa using h)
      rw [List.replicate_succ, List.any_cons]
      simp only [List.cons.injEq, Bool.or_eq_false_iff, this]
      simp
def prodQ (fill : List (Int × Int)) : Int := fill.foldr (fun p a => p.2 * a) 1
def linR : List Int → List (Int × Int) → Int
  | f :: fs, p :: fill => f * p.1 * prodQ fill + p.2 * linR fs fill
  | _, _ => 0
theorem prodQ_pos : ∀ {fill : List (Int × Int)}, (∀ p ∈ fill, 1 ≤ p.2) → 0 < prodQ fill
  | [], _ => by decide
  | p :: fill, h => Int.mul_pos (Int.lt_of_lt_of_le (by decide) (h p List.mem_cons_self)) (prodQ_pos fun q hq => h q (List.mem_cons_of_mem _ hq))
theorem sum_lin : ∀ (fs : List Int) (fill : List (Int × Int)) (a : Int × Int), fs.length = fill.length → (fs.zip fill).foldl sumStep a = (a.1 * prodQ fill + a.2 * linR fs fill, a.2 * prodQ fill)
  | [], [], a, _ => by simp [prodQ, linR]
  | f :: fs, p :: fill, a, h => by
    rw [List.zip_cons_cons, List.foldl_cons, sum_lin fs fill _ (by simpa using h)]
    show ((a.1 * p.2 + f * p.1 * a.2) * prodQ fill + a.2 * p.2 * linR fs fill, a.2 * p.2 * prodQ fill) = (a.1 * (p.2 * prodQ fill) + a.2 * (f * p.1 * prodQ fill + p.2 * linR fs fill), a.2 * (p.2 * prodQ fill))
    refine Prod.ext ?_ (Int.mul_assoc _ _ _)
    show (a.1 * p.2 + f * p.1 * a.2) * prodQ fill + a.2 * p.2 * linR fs fill = a.1 * (p.2 * prodQ fill) + a.2 * (f * p.1 * prodQ fill + p.2 * linR fs fill)
    rw [Int.add_mul, Int.mul_add, Int.mul_assoc a.1, Int.mul_assoc a.2 p.2, Int.mul_comm (f * p.1) a.2, Int.mul_assoc a.2 (f * p.1)]
    omega
  | [], _ :: _, _, h => by simp at h
  | _ :: _, [], _, h => by simp at h
theorem lin_add : ∀ (fs gs : List Int) (fill : List (Int × Int)) (x : Int), fs.length = gs.length → linR (addF x fs gs) fill = linR fs fill + x * linR gs fill
  | [], [], fill, x, _ => by
    have e : ∀ l, linR [] l = 0 := fun l => by cases l <;> rfl
    show linR [] fill = linR [] fill + x * linR [] fill
    rw [e]
    omega
  | f :: fs, g :: gs, [], x, _ => by
    show (0 : Int) = 0 + x * 0
    omega
  | f :: fs, g :: gs, p :: fill, x, h => by
    show (f + x * g) * p.1 * prodQ fill + p.2 * linR (addF x fs gs) fill = f * p.1 * prodQ fill + p.2 * linR fs fill + x * (g * p.1 * prodQ fill + p.2 * linR gs fill)
    rw [lin_add fs gs fill x (by simpa using h)]
    have e1 : (f + x * g) * p.1 * prodQ fill = f * p.1 * prodQ fill + x * (g * p.1 * prodQ fill) := by
      rw [Int.add_mul, Int.add_mul]
      congr 1
      rw [Int.mul_assoc x, Int.mul_assoc x]
    have e2 : p.2 * (linR fs fill + x * linR gs fill) = p.2 * linR fs fill + x * (p.2 * linR gs fill) := by
      rw [Int.mul_add]
      congr 1
      rw [← Int.mul_assoc, Int.mul_comm p.2 x, Int.mul_assoc]
    rw [e1, e2, Int.mul_add]
    omega
  | [], _ :: _, _, _, h => by simp at h
  | _ :: _, [], _, _, h => by simp at h
theorem lin_zero : ∀ (n : Nat) (fill : List (Int × Int)), linR (List.replicate n 0) fill = 0
  | 0, fill => by cases fill <;> rfl
  | n + 1, [] => rfl
  | n + 1, p :: fill => by
    rw [List.replicate_succ]
    show 0 * p.1 * prodQ fill + p.2 * linR (List.replicate n 0) fill = 0
    rw [lin_zero n fill]
    simp
def topV (w : Ws) (fill : List (Int × Int)) : Int := w.pl * prodQ fill + linR w.fs fill
theorem sumV_eq {w : Ws} {fill : List (Int × Int)} (h : w.fs.length = fill.length) : (sumV w fill).1 = topV w fill := by
  unfold sumV
  rw [sum_lin _ _ _ h]
  show w.pl * prodQ fill + 1 * linR w.fs fill = _
  rw [Int.one_mul]
  rfl
theorem top_step {a w : Ws} {x : Int} {fill : List (Int × Int)} (h : a.fs.length = w.fs.length) : topV (addStep a (w, x)) fill = topV a fill + x * topV w fill := by
  show (a.pl + x * w.pl) * prodQ fill + linR (addF x a.fs w.fs) fill = a.pl * prodQ fill + linR a.fs fill + x * (w.pl * prodQ fill + linR w.fs fill)
  rw [lin_add _ _ _ _ h, Int.add_mul, Int.mul_add, Int.mul_assoc]
  omega
def grT (w : Ws) (fill : List (Int × Int)) : Prop := 0 < topV w fill ∨ (topV w fill = 0 ∧ w.st = false)
theorem gr_iff {w : Ws} {fill : List (Int × Int)} (h : w.fs.length = fill.length) : grV w fill = true ↔ grT w fill := by
  unfold grV grT
  rw [sumV_eq h]
  cases w.st <;> simp
theorem gr_step {a w : Ws} {x : Int} {fill : List (Int × Int)} (h : a.fs.length = w.fs.length) (ga : grT a fill) (gw : grT w fill) (hx : 0 ≤ x) : grT (addStep a (w, x)) fill := by
  unfold grT
  rw [top_step h]
  have w0 : 0 ≤ topV w fill := by rcases gw with g | g <;> omega
  have p0 : 0 ≤ x * topV w fill := Int.mul_nonneg hx w0
  rcases ga with ga | ⟨ga, sa⟩
  · exact .inl (by omega)
  · by_cases cx : 0 < x
    · rcases gw with gw | ⟨gw, sw⟩
      · have := Int.mul_pos cx gw
        exact .inl (by omega)
      · refine .inr ⟨by rw [ga, gw]; simp, ?_⟩
        show (a.st || (decide (0 < x) && w.st)) = false
        rw [sa, sw]
        simp
    · have : x = 0 := by omega
      subst this
      refine .inr ⟨by rw [ga]; simp, ?_⟩
      show (a.st || (decide ((0 : Int) < 0) && w.st)) = false
      rw [sa]
      simp
theorem gr_all {many : Nat} {fill : List (Int × Int)} : ∀ (ps : List (Ws × Int)) (a : Ws), (∀ p ∈ ps, p.1.fs.length = many ∧ grT p.1 fill ∧ 0 ≤ p.2) → a.fs.length = many → grT a fill → grT (ps.foldl addStep a) fill
  | [], a, _, _, g => g
  | p :: ps, a, hp, l, g => by
    obtain ⟨l1, g1, x1⟩ := hp p List.mem_cons_self
    refine gr_all ps _ (fun q hq => hp q (List.mem_cons_of_mem _ hq)) ?_ (gr_step (by rw [l, l1]) g g1 x1)
    show (addF p.2 a.fs p.1.fs).length = many
    rw [addF_len (by rw [l, l1])]
    exact l
theorem shares_nonneg : ∀ {ds : List D} {ns : List Int}, shares ds = some ns → ∀ n ∈ ns, 0 ≤ n
  | [], ns, e => by cases e; intro n hn; cases hn
  | d :: ds, ns, e => by
    cases d with
    | int i =>
      have e : (if 0 ≤ i then (shares ds).map (i :: ·) else none) = some ns := e
      by_cases c : 0 ≤ i
      · rw [if_pos c] at e
        cases hz : shares ds with
        | none => rw [hz] at e; cases e
        | some ms =>
          rw [hz] at e
          cases e
          intro n hn
          rcases List.mem_cons.mp hn with rfl | hn
          · exact c
          · exact shares_nonneg hz n hn
      · rw [if_neg c] at e
        cases e
    | _ => cases e
theorem bars_none {many : Nat} {ws : List Ws} {d : D} {fill : List (Int × Int)} (hb : barsV many ws d = true) (hw : ∀ w ∈ ws, w.fs.length = many) (hl : fill.length = many) (hq : ∀ p ∈ fill, 1 ≤ p.2) (hg : ∀ w ∈ ws, grV w fill = true) : False := by
  cases d with
  | lst ds =>
    have hb : (if ds.length = ws.length then (match shares ds with
      | some ns => never (addAll many ws ns)
      | none => false) else false) = true := hb
    by_cases c : ds.length = ws.length
    · rw [if_pos c] at hb
      cases hz : shares ds with
      | none => rw [hz] at hb; cases hb
      | some ns =>
        rw [hz] at hb
        have hb : never (addAll many ws ns) = true := hb
        have z0 : grT ⟨List.replicate many 0, 0, false⟩ fill := by
          refine .inr ⟨?_, rfl⟩
          show 0 * prodQ fill + linR (List.replicate many 0) fill = 0
          rw [lin_zero]
          omega
        have g : grT (addAll many ws ns) fill := by
          unfold addAll
          rw [Int.toNat_natCast]
          refine gr_all (many := many) _ _ (fun p hp => ?_) (by simp) z0
          have hp := List.of_mem_zip hp
          have lw := hw p.1 hp.1
          exact ⟨lw, (gr_iff (by rw [lw, hl])).mp (hg p.1 hp.1), shares_nonneg hz p.2 hp.2⟩
        have la : (addAll many ws ns).fs.length = many := by
          unfold addAll
          rw [Int.toNat_natCast]
          exact addAll_len _ _ (fun p hp => hw p.1 (List.of_mem_zip hp).1) (by simp)
        generalize addAll many ws ns = r at *
        have zi := zero_iff la
        unfold never idle at hb
        unfold anyF at hb
        cases hn : (r.fs.any fun x => x != 0)
        · have e := zi.mpr hn
          have tv : topV r fill = r.pl * prodQ fill := by
            unfold topV
            rw [e, lin_zero]
            omega
          have pp := prodQ_pos hq
          rw [hn] at hb
          simp at hb
          obtain ⟨h1, h2⟩ := hb
          rcases g with g | ⟨g, s⟩
          · rw [tv] at g
            have := Int.pos_of_mul_pos_left g pp
            omega
          · rw [tv] at g
            rcases Int.mul_eq_zero.mp g with g | g
            · rcases h2 with h2 | h2
              · exact h2 g
              · rw [s] at h2
                cases h2
            · omega
        · rw [hn] at hb
          simp at hb
    · rw [if_neg c] at hb
      cases hb
  | _ => cases hb
theorem ratV_scale {k t b : Int} (hk : 0 < k) (hb : 0 < b) : ratV (k * t) (k * b) = ratV t b := by
  have e : (Int.gcd (k * t) (k * b) : Int) = k * (Int.gcd t b : Int) := by
    rw [Int.gcd_mul_left, Int.natCast_mul]
    congr 1
    omega
  unfold ratV
  rw [e, Int.mul_ediv_mul_of_pos _ _ hk, Int.mul_ediv_mul_of_pos _ _ hk]
theorem ratV_parts {t b : Int} (hb : 0 < b) : ∃ g : Int, 0 < g ∧ t = g * (ratV t b).1 ∧ b = g * (ratV t b).2 ∧ 0 < (ratV t b).2 := by
  have g0 := gcd_pos (t := t) hb
  obtain ⟨c, e⟩ : (Int.gcd t b : Int) ∣ t := Int.gcd_dvd_left ..
  obtain ⟨d, f⟩ : (Int.gcd t b : Int) ∣ b := Int.gcd_dvd_right ..
  have e2 : (ratV t b).1 = c := by
    show t / (Int.gcd t b : Int) = c
    generalize (Int.gcd t b : Int) = g at e g0
    rw [e]
    exact Int.mul_ediv_cancel_left _ (by omega)
  have f2 : (ratV t b).2 = d := by
    show b / (Int.gcd t b : Int) = d
    generalize (Int.gcd t b : Int) = g at f g0
    rw [f]
    exact Int.mul_ediv_cancel_left _ (by omega)
  refine ⟨Int.gcd t b, g0, by rw [e2]; exact e, by rw [f2]; exact f, ?_⟩
  rw [f2]
  rw [f] at hb
  exact Int.pos_of_mul_pos_right hb g0
theorem ratV_one (f : Int) : ratV f 1 = (f, 1) := by
  unfold ratV
  rw [Int.gcd_one_right]
  simp
theorem ratV_plus {a b c d : Int} (hb : 0 < b) (hd : 0 < d) : ratV ((ratV a b).1 * (ratV c d).2 + (ratV c d).1 * (ratV a b).2) ((ratV a b).2 * (ratV c d).2) = ratV (a * d + c * b) (b * d) := by
  obtain ⟨g, g0, e1, e2, e3⟩ := ratV_parts (t := a) hb
  obtain ⟨h, h0, f1, f2, f3⟩ := ratV_parts (t := c) hd
  generalize ratV a b = x at *
  generalize ratV c d = y at *
  subst e1 e2 f1 f2
  rw [show g * x.1 * (h * y.2) + h * y.1 * (g * x.2) = (g * h) * (x.1 * y.2 + y.1 * x.2) from by grind, show g * x.2 * (h * y.2) = (g * h) * (x.2 * y.2) from by grind]
  rw [ratV_scale (Int.mul_pos g0 h0) (Int.mul_pos e3 f3)]
theorem ratV_times {a b c d : Int} (hb : 0 < b) (hd : 0 < d) : ratV ((ratV a b).1 * (ratV c d).1) ((ratV a b).2 * (ratV c d).2) = ratV (a * c) (b * d) := by
  obtain ⟨g, g0, e1, e2, e3⟩ := ratV_parts (t := a) hb
  obtain ⟨h, h0, f1, f2, f3⟩ := ratV_parts (t := c) hd
  generalize ratV a b = x at *
  generalize ratV c d = y at *
  subst e1 e2 f1 f2
  rw [show g * x.1 * (h * y.1) = (g * h) * (x.1 * y.1) from by grind, show g * x.2 * (h * y.2) = (g * h) * (x.2 * y.2) from by grind]
  rw [ratV_scale (Int.mul_pos g0 h0) (Int.mul_pos e3 f3)]
def gcdF (g : Nat) (fs : List Int) : Nat := fs.foldl (fun g f => Nat.gcd g f.natAbs) g
def gAll (w : Ws) : Nat := gcdF w.pl.natAbs w.fs
theorem gcdF_dvd : ∀ (fs : List Int) (g : Nat), gcdF g fs ∣ g ∧ ∀ f ∈ fs, gcdF g fs ∣ f.natAbs
  | [], g => ⟨Nat.dvd_refl _, fun f h => nomatch h⟩
  | x :: fs, g => by
    obtain ⟨a, b⟩ := gcdF_dvd fs (Nat.gcd g x.natAbs)
    refine ⟨Nat.dvd_trans a (Nat.gcd_dvd_left _ _), fun f h => ?_⟩
    rcases List.mem_cons.mp h with rfl | h
    · exact Nat.dvd_trans a (Nat.gcd_dvd_right _ _)
    · exact b f h
theorem gcdF_mul (k : Int) : ∀ (fs : List Int) (g : Nat), gcdF (k.natAbs * g) (fs.map (k * ·)) = k.natAbs * gcdF g fs
  | [], g => rfl
  | x :: fs, g => by
    show gcdF (Nat.gcd (k.natAbs * g) (k * x).natAbs) (fs.map (k * ·)) = _
    rw [Int.natAbs_mul, Nat.gcd_mul_left]
    exact gcdF_mul k fs _
def scaleW (k : Int) (w : Ws) : Ws := ⟨w.fs.map (k * ·), k * w.pl, w.st⟩
def leanV (w : Ws) : Ws := if gAll w = 0 then w else ⟨w.fs.map (· / (gAll w : Int)), w.pl / (gAll w : Int), w.st⟩
theorem gAll_scale (k : Int) (w : Ws) : gAll (scaleW k w) = k.natAbs * gAll w := by
  unfold gAll scaleW
  show gcdF (k * w.pl).natAbs _ = _
  rw [Int.natAbs_mul]
  exact gcdF_mul k w.fs _
theorem lean_scale (w : Ws) (h : gAll w ≠ 0) : scaleW (gAll w) (leanV w) = w := by
  obtain ⟨d0, dv⟩ := gcdF_dvd w.fs w.pl.natAbs
  unfold leanV
  rw [if_neg h]
  obtain ⟨fs, pl, st⟩ := w
  have c : ∀ x : Int, gAll ⟨fs, pl, st⟩ ∣ x.natAbs → (gAll ⟨fs, pl, st⟩ : Int) * (x / (gAll ⟨fs, pl, st⟩ : Int)) = x := fun x hx => Int.mul_ediv_cancel' (Int.ofNat_dvd_left.mpr hx)
  show (⟨(fs.map (· / (gAll ⟨fs, pl, st⟩ : Int))).map ((gAll ⟨fs, pl, st⟩ : Int) * ·), (gAll ⟨fs, pl, st⟩ : Int) * (pl / (gAll ⟨fs, pl, st⟩ : Int)), st⟩ : Ws) = ⟨fs, pl, st⟩
  rw [c pl d0, List.map_map]
  have m : fs.map (((gAll ⟨fs, pl, st⟩ : Int) * ·) ∘ (· / (gAll ⟨fs, pl, st⟩ : Int))) = fs := by
    exact (List.map_congr_left (g := id) fun x hx => c x (dv x hx)).trans (List.map_id _)
  rw [m]
theorem gAll_lean (w : Ws) (h : gAll w ≠ 0) : gAll (leanV w) = 1 := by
  have e := congrArg gAll (lean_scale w h)
  rw [gAll_scale, Int.natAbs_natCast] at e
  exact Nat.eq_of_mul_eq_mul_left (by omega) (e.trans (Nat.mul_one _).symm)
theorem lean_lean (w : Ws) : leanV (leanV w) = leanV w := by
  by_cases h : gAll w = 0
  · have e : leanV w = w := if_pos h
    rw [e, e]
  · have g := gAll_lean w h
    generalize leanV w = v at *
    unfold leanV
    rw [g, if_neg (by decide)]
    simp
theorem gAll_zero {w : Ws} (h : gAll w = 0) : w.pl = 0 ∧ ∀ f ∈ w.fs, f = 0 := by
  obtain ⟨d0, dv⟩ := gcdF_dvd w.fs w.pl.natAbs
  rw [show gcdF w.pl.natAbs w.fs = 0 from h] at d0 dv
  refine ⟨?_, fun f hf => ?_⟩
  · have := Nat.eq_zero_of_zero_dvd d0
    omega
  · have := Nat.eq_zero_of_zero_dvd (dv f hf)
    omega
theorem lean_six (w : Ws) : leanV (scaleW 6 w) = leanV w := by
  have e : gAll (scaleW 6 w) = 6 * gAll w := gAll_scale 6 w
  by_cases h : gAll w = 0
  · obtain ⟨p, f⟩ := gAll_zero h
    have s : scaleW 6 w = w := by
      obtain ⟨fs, pl, st⟩ := w
      unfold scaleW
      have m : fs.map ((6 : Int) * ·) = fs := by
        rw [List.map_congr_left (g := id) fun x hx => ?_, List.map_id]
        rw [f x hx]
        rfl
      have p : pl = 0 := p
      subst p
      show (⟨fs.map ((6 : Int) * ·), _, st⟩ : Ws) = _
      rw [m]
      rfl
    rw [s]
  · unfold leanV
    rw [e, if_neg h, if_neg (by omega)]
    obtain ⟨fs, pl, st⟩ := w
    have c : ∀ x : Int, 6 * x / ((6 * gAll ⟨fs, pl, st⟩ : Nat) : Int) = x / (gAll ⟨fs, pl, st⟩ : Int) := fun x => by
      rw [Int.natCast_mul]
      exact Int.mul_ediv_mul_of_pos _ _ (by decide)
    show (⟨(fs.map ((6 : Int) * ·)).map (· / ((6 * gAll ⟨fs, pl, st⟩ : Nat) : Int)), 6 * pl / ((6 * gAll ⟨fs, pl, st⟩ : Nat) : Int), st⟩ : Ws) = ⟨fs.map (· / (gAll ⟨fs, pl, st⟩ : Int)), pl / (gAll ⟨fs, pl, st⟩ : Int), st⟩
    rw [c, List.map_map]
    congr 1
    exact List.map_congr_left fun x _ => c x
theorem lin_scale (k : Int) : ∀ (fs : List Int) (fill : List (Int × Int)), linR (fs.map (k * ·)) fill = k * linR fs fill
  | [], fill => by cases fill <;> simp [linR]
  | f :: fs, [] => by simp [linR]
  | f :: fs, p :: fill => by
    show k * f * p.1 * prodQ fill + p.2 * linR (fs.map (k * ·)) fill = k * (f * p.1 * prodQ fill + p.2 * linR fs fill)
    rw [lin_scale k fs fill]
    grind
theorem top_scale (k : Int) (w : Ws) (fill : List (Int × Int)) : topV (scaleW k w) fill = k * topV w fill := by
  show k * w.pl * prodQ fill + linR (w.fs.map (k * ·)) fill = k * (w.pl * prodQ fill + linR w.fs fill)
  rw [lin_scale]
  grind
theorem gr_scale {k : Int} {w : Ws} {fill : List (Int × Int)} (hk : 0 < k) (hl : w.fs.length = fill.length) : grV (scaleW k w) fill = grV w fill := by
  have e1 := gr_iff (w := scaleW k w) (fill := fill) (by show (w.fs.map (k * ·)).length = _; rw [List.length_map]; exact hl)
  have e2 := gr_iff hl
  have e : grT (scaleW k w) fill ↔ grT w fill := by
    unfold grT
    rw [top_scale]
    have a : 0 < k * topV w fill ↔ 0 < topV w fill := ⟨fun h => Int.pos_of_mul_pos_right h hk, fun h => Int.mul_pos hk h⟩
    have b : k * topV w fill = 0 ↔ topV w fill = 0 := ⟨fun h => (Int.mul_eq_zero.mp h).elim (fun z => by omega) id, fun h => by rw [h]; exact Int.mul_zero _⟩
    rw [a, b]
    exact Iff.rfl
  cases h1 : grV w fill <;> cases h2 : grV (scaleW k w) fill <;> simp_all
theorem gr_lean {w : Ws} {fill : List (Int × Int)} (hl : w.fs.length = fill.length) : grV (leanV w) fill = grV w fill := by
  by_cases h : gAll w = 0
  · rw [show leanV w = w from if_pos h]
  · have e := lean_scale w h
    have l : (leanV w).fs.length = fill.length := by
      unfold leanV
      rw [if_neg h]
      show (w.fs.map _).length = _
      rw [List.length_map]
      exact hl
    rw [← gr_scale (k := gAll w) (w := leanV w) (by omega) l, e]
theorem gr_neg {w : Ws} {fill : List (Int × Int)} (hl : w.fs.length = fill.length) : grV (neg w) fill = !grV w fill := by
  have l2 : (neg w).fs.length = fill.length := by
    show (w.fs.map (- ·)).length = _
    rw [List.length_map]
    exact hl
  have t : topV (neg w) fill = - topV w fill := by
    show (-w.pl) * prodQ fill + linR (w.fs.map (- ·)) fill = -(w.pl * prodQ fill + linR w.fs fill)
    have : w.fs.map (- ·) = w.fs.map ((-1 : Int) * ·) := List.map_congr_left fun x _ => by omega
    rw [this, lin_scale]
    grind
  unfold grV
  rw [sumV_eq l2, sumV_eq hl, t]
  show (decide (0 < -topV w fill) || (-topV w fill == 0 && !!w.st)) = _
  generalize topV w fill = z
  by_cases c : 0 < z
  · rw [decide_eq_false (show ¬ 0 < -z by omega), beq_eq_false_iff_ne.mpr (show -z ≠ 0 by omega), decide_eq_true c]
    rfl
  · by_cases c0 : z = 0
    · subst c0
      cases w.st <;> rfl
    · rw [decide_eq_true (show 0 < -z by omega), beq_eq_false_iff_ne.mpr c0, decide_eq_false c]
      rfl
theorem ratio_pos {w : Ws} (h : gAll w ≠ 0) {x : Int} (hx : x ∈ w.pl :: w.fs) : 0 ≤ x * (x / (gAll w : Int)) := by
  obtain ⟨d0, dv⟩ := gcdF_dvd w.fs w.pl.natAbs
  have d : gAll w ∣ x.natAbs := by
    rcases List.mem_cons.mp hx with rfl | hx
    · exact d0
    · exact dv x hx
  have e : (gAll w : Int) * (x / (gAll w : Int)) = x := Int.mul_ediv_cancel' (Int.ofNat_dvd_left.mpr d)
  have p : 0 ≤ (x / (gAll w : Int)) * (x / (gAll w : Int)) := by
    generalize (x / (gAll w : Int)) = y
    rcases Int.le_total 0 y with h | h
    · exact Int.mul_nonneg h h
    · have := Int.mul_nonneg (show 0 ≤ -y by omega) (show 0 ≤ -y by omega)
      rw [Int.neg_mul_neg] at this
      exact this
  have q : x * (x / (gAll w : Int)) = (gAll w : Int) * ((x / (gAll w : Int)) * (x / (gAll w : Int))) := by
    rw [← Int.mul_assoc, e]
  rw [q]
  exact Int.mul_nonneg (by omega) p
def addAt (acc : List Int) (p : Int × Nat) : List Int := acc.set p.2 (acc.getD p.2 0 + p.1)
def cof : List (Int × Int) → Nat → Int
  | [], _ => 0
  | p :: l, 0 => p.1 * prodQ l
  | p :: l, i + 1 => p.2 * cof l i
theorem cof_eq : ∀ (l : List (Int × Int)) (i : Nat) (h : i < l.length), l[i].2 * cof l i = l[i].1 * prodQ l
  | [], i, h => absurd h (Nat.not_lt_zero _)
  | p :: l, 0, _ => by
    show p.2 * (p.1 * prodQ l) = p.1 * (p.2 * prodQ l)
    grind
  | p :: l, i + 1, h => by
    have := cof_eq l i (by simpa using h)
    show (l[i]'(by simpa using h)).2 * (p.2 * cof l i) = (l[i]'(by simpa using h)).1 * (p.2 * prodQ l)
    rw [← Int.mul_assoc, Int.mul_comm _ p.2, Int.mul_assoc, this]
    grind
theorem lin_addAt : ∀ (acc : List Int) (l : List (Int × Int)) (i : Nat) (f : Int), acc.length = l.length → i < acc.length → linR (addAt acc (f, i)) l = linR acc l + f * cof l i
  | [], _, i, f, _, h => absurd h (Nat.not_lt_zero _)
  | _ :: _, [], _, _, h, _ => by simp at h
  | a :: acc, p :: l, 0, f, h, _ => by
    show (a + f) * p.1 * prodQ l + p.2 * linR acc l = a * p.1 * prodQ l + p.2 * linR acc l + f * (p.1 * prodQ l)
    grind
  | a :: acc, p :: l, i + 1, f, h, hi => by
    have ih := lin_addAt acc l i f (by simpa using h) (by simpa using hi)
    have e : addAt (a :: acc) (f, i + 1) = a :: addAt acc (f, i) := by
      unfold addAt
      simp
    rw [e]
    show a * p.1 * prodQ l + p.2 * linR (addAt acc (f, i)) l = a * p.1 * prodQ l + p.2 * linR acc l + f * (p.2 * cof l i)
    rw [ih]
    grind
def putF' (fs : List Int) (pls : List Nat) (acc : List Int) : List Int := (fs.zip pls).foldl addAt acc
theorem addAt_len (acc : List Int) (p : Int × Nat) : (addAt acc p).length = acc.length := by
  unfold addAt
  rw [List.length_set]
theorem put_lin (l : List (Int × Int)) : ∀ (fs : List Int) (pls : List Nat) (acc : List Int), fs.length = pls.length → acc.length = l.length → (∀ i ∈ pls, i < l.length) →
    linR (putF' fs pls acc) l * prodQ (pls.map fun i => l.getD i (0, 1)) = linR acc l * prodQ (pls.map fun i => l.getD i (0, 1)) + linR fs (pls.map fun i => l.getD i (0, 1)) * prodQ l
  | [], [], acc, _, _, _ => by
    show linR acc l * prodQ [] = linR acc l * prodQ [] + 0 * prodQ l
    omega
  | f :: fs, i :: pls, acc, h, ha, hi => by
    have hi0 := hi i List.mem_cons_self
    have ih := put_lin l fs pls (addAt acc (f, i)) (by simpa using h) (by rw [addAt_len]; exact ha) fun j hj => hi j (List.mem_cons_of_mem _ hj)
    have la := lin_addAt acc l i f ha (by rw [ha]; exact hi0)
    have ce := cof_eq l i hi0
    have ge : l.getD i (0, 1) = l[i] := by simp [List.getD, hi0]
    show linR (putF' fs pls (addAt acc (f, i))) l * ((l.getD i (0, 1)).2 * prodQ (pls.map fun i => l.getD i (0, 1))) = linR acc l * ((l.getD i (0, 1)).2 * prodQ (pls.map fun i => l.getD i (0, 1))) + (f * (l.getD i (0, 1)).1 * prodQ (pls.map fun i => l.getD i (0, 1)) + (l.getD i (0, 1)).2 * linR fs (pls.map fun i => l.getD i (0, 1))) * prodQ l
    rw [ge]
    rw [la] at ih
    generalize prodQ (pls.map fun i => l.getD i (0, 1)) = S at *
    generalize linR fs (pls.map fun i => l.getD i (0, 1)) = R at *
    generalize linR (putF' fs pls (addAt acc (f, i))) l = X at *
    generalize linR acc l = A at *
    generalize cof l i = c at *
    generalize prodQ l = P at *
    generalize l[i] = p at *
    have : X * (p.2 * S) = p.2 * (X * S) := by grind
    rw [this, ih]
    have : p.2 * ((A + f * c) * S + R * P) = A * (p.2 * S) + (f * (p.2 * c) * S + p.2 * R * P) := by grind
    rw [this, ce]
    grind
  | [], _ :: _, _, h, _, _ => by simp at h
  | _ :: _, [], _, h, _, _ => by simp at h
theorem put_len (fs : List Int) (pls : List Nat) : ∀ (acc : List Int), (putF' fs pls acc).length = acc.length := by
  unfold putF'
  generalize fs.zip pls = l
  induction l with
  | nil => intro acc; rfl
  | cons p l ih => intro acc; rw [List.foldl_cons, ih, addAt_len]
theorem gr_put {fs : List Int} {pl : Int} {st : Bool} {pls : List Nat} {wide : List (Int × Int)} (h : fs.length = pls.length) (hi : ∀ i ∈ pls, i < wide.length) (hq : ∀ p ∈ wide, 1 ≤ p.2) :
    grV ⟨putF' fs pls (List.replicate wide.length 0), pl, st⟩ wide = grV ⟨fs, pl, st⟩ (pls.map fun i => wide.getD i (0, 1)) := by
  have pl1 := put_lin wide fs pls (List.replicate wide.length 0) h (by simp) hi
  rw [lin_zero, Int.zero_mul, Int.zero_add] at pl1
  have hs : ∀ p ∈ (pls.map fun i => wide.getD i (0, 1)), 1 ≤ p.2 := fun p hp => by
    obtain ⟨i, hi', rfl⟩ := List.mem_map.mp hp
    have : wide.getD i (0, 1) = wide[i]'(hi i hi') := by simp [List.getD, hi i hi']
    rw [this]
    exact hq _ (List.getElem_mem _)
  have p1 := prodQ_pos hq
  have p2 := prodQ_pos hs
  have l1 : (⟨putF' fs pls (List.replicate wide.length 0), pl, st⟩ : Ws).fs.length = wide.length := by
    show (putF' fs pls (List.replicate wide.length 0)).length = _
    rw [put_len]
    simp
  have l2 : (⟨fs, pl, st⟩ : Ws).fs.length = (pls.map fun i => wide.getD i (0, 1)).length := by
    rw [List.length_map]
    exact h
  unfold grV
  rw [sumV_eq l1, sumV_eq l2]
  have t : topV ⟨putF' fs pls (List.replicate wide.length 0), pl, st⟩ wide * prodQ (pls.map fun i => wide.getD i (0, 1)) = topV ⟨fs, pl, st⟩ (pls.map fun i => wide.getD i (0, 1)) * prodQ wide := by
    unfold topV
    show (pl * prodQ wide + linR (putF' fs pls (List.replicate wide.length 0)) wide) * _ = (pl * prodQ _ + linR fs _) * _
    rw [Int.add_mul, pl1]
    grind
  generalize topV ⟨putF' fs pls (List.replicate wide.length 0), pl, st⟩ wide = x at *
  generalize topV ⟨fs, pl, st⟩ (pls.map fun i => wide.getD i (0, 1)) = y at *
  generalize prodQ (pls.map fun i => wide.getD i (0, 1)) = s at *
  generalize prodQ wide = q at *
  have a : 0 < x ↔ 0 < y := ⟨fun h => by
    have := Int.mul_pos h p2
    rw [t] at this
    exact Int.pos_of_mul_pos_left this p1, fun h => by
    have := Int.mul_pos h p1
    rw [← t] at this
    exact Int.pos_of_mul_pos_left this p2⟩
  have b : x = 0 ↔ y = 0 := ⟨fun h => by
    rw [h, Int.zero_mul] at t
    exact (Int.mul_eq_zero.mp t.symm).elim id fun z => by omega, fun h => by
    rw [h, Int.zero_mul] at t
    exact (Int.mul_eq_zero.mp t).elim id fun z => by omega⟩
  by_cases c : 0 < x
  · simp [c, a.mp c]
  · have c' : ¬ 0 < y := fun z => c (a.mpr z)
    by_cases d : x = 0
    · simp [d, b.mp d]
    · have d' : ¬ y = 0 := fun z => d (b.mpr z)
      rw [decide_eq_false c, decide_eq_false c', beq_eq_false_iff_ne.mpr d, beq_eq_false_iff_ne.mpr d']
theorem ty_int2 {h : Hv} {d : D} (t : below 0 d = true) : blD ((tyD h d).bind fun t => isAny t [.ty "int"]) h = .ok (.bl (match d with | .int _ => true | .bl _ => true | _ => false)) h := by
  cases d with
  | ref k => exact absurd (of_decide_eq_true (show decide (k < 0) = true from t)) (Nat.not_lt_zero _)
  | _ => rfl
theorem ty_bool2 {h : Hv} {d : D} (t : below 0 d = true) : blD ((tyD h d).bind fun t => isAny t [.ty "bool"]) h = .ok (.bl (match d with | .bl _ => true | _ => false)) h := by
  cases d with
  | ref k => exact absurd (of_decide_eq_true (show decide (k < 0) = true from t)) (Nat.not_lt_zero _)
  | _ => rfl
def isTup : D → Bool
  | .tup _ => true
  | _ => false
def isStr : D → Bool
  | .str _ => true
  | _ => false
theorem ty_tup2 {h : Hv} {d : D} (t : below 0 d = true) : blD ((tyD h d).bind fun t => isAny t [.ty "tuple"]) h = .ok (.bl (isTup d)) h := by
  cases d with
  | ref k => exact absurd (of_decide_eq_true (show decide (k < 0) = true from t)) (Nat.not_lt_zero _)
  | _ => rfl
theorem ty_str2 {h : Hv} {d : D} (t : below 0 d = true) : blD ((tyD h d).bind fun t => isAny t [.ty "str"]) h = .ok (.bl (isStr d)) h := by
  cases d with
  | ref k => exact absurd (of_decide_eq_true (show decide (k < 0) = true from t)) (Nat.not_lt_zero _)
  | _ => rfl
theorem whole2_ok {k : Nat} {h : Hv} {d : D} (t : below 0 d = true) : callF G F (k + 1) i_is_whole false [d] h = .ok (.bl (isInt d)) h := by
  rw [callF_step (fc := c_is_whole) rfl rfl]
  have hs : ∀ b, settle h (.bl b) h = .ok (.bl b) h := fun b => settle_here rfl
  simp only [c_is_whole, startE, Hr.execs, Hr.exec, ev, evs]
  simp [ty_int2 t, ty_bool2 t]
  cases d <;> simp [hs, isInt]
theorem call_WD {G : Nat → D} {F : List Fc} {k i : Nat} {raw : Bool} {ds ds' : List D} {h : Hv} {fc : Fc} {Q : D → Hv → Prop} {E : Exn → Hv → Prop} (e : F[i]? = some fc) (ef : fillA fc ds = ds') (h1 : ds'.length = fc.np) (h2 : ds.length ≤ fc.np) (w : (execs ⟨callF G F k, G, none⟩ fc.body (startE fc ds') h).W (retP raw h Q E)) : (callF G F (k + 1) i raw ds h).W Q E := by
  have a : callF G F (k + 1) i raw ds h = retOf raw h (execs ⟨callF G F k, G, none⟩ fc.body (startE fc ds') h) := by
    show (match F[i]? with
      | some fc => if (fillA fc ds).length = fc.np ∧ ds.length ≤ fc.np then retOf raw h (execs ⟨callF G F k, G, none⟩ fc.body (startE fc (fillA fc ds)) h) else .no
      | none => .no) = _
    rw [e]
    show (if (fillA fc ds).length = fc.np ∧ ds.length ≤ fc.np then retOf raw h (execs ⟨callF G F k, G, none⟩ fc.body (startE fc (fillA fc ds)) h) else .no) = _
    rw [ef, if_pos ⟨h1, h2⟩]
  rw [a]
  exact ret_W w
theorem ix_r0 {h : Hv} {p : Int × Int} : idxD h (ratD p) (.int 0) = some (.int p.1) := rfl
theorem ix_r1 {h : Hv} {p : Int × Int} : idxD h (ratD p) (.int 1) = some (.int p.2) := rfl
theorem ratV_le {t b : Int} (hb : 0 < b) : 0 < (ratV t b).2 ∧ (ratV t b).2 ≤ b := by
  obtain ⟨g, g0, e1, e2, e3⟩ := ratV_parts (t := t) hb
  refine ⟨e3, ?_⟩
  have : 1 * (ratV t b).2 ≤ g * (ratV t b).2 := Int.mul_le_mul_of_nonneg_right g0 (by omega)
  rw [← e2] at this
  omega
theorem big12 : (10 : Int) ^ 12 < 2 ^ 8000 := by decide +kernel
theorem gcdF_small : ∀ (fs : List Int) (g : Nat), g < 2 ^ 64 → (∀ f ∈ fs, small f) → gcdF g fs < 2 ^ 64
  | [], g, h, _ => h
  | x :: fs, g, h, hf => gcdF_small fs _ (by
    have hx : x.natAbs < 2 ^ 64 := hf x List.mem_cons_self
    by_cases c : g = 0
    · subst c
      show Nat.gcd 0 x.natAbs < 2 ^ 64
      rw [Nat.gcd_zero_left]
      exact hx
    · exact Nat.lt_of_le_of_lt (Nat.gcd_le_left _ (by omega)) h) fun y hy => hf y (List.mem_cons_of_mem _ hy)
theorem gAll_small {w : Ws} (o : okW w) : gAll w < 2 ^ 64 := gcdF_small w.fs _ o.2.1 o.1
theorem settle_app {h : Hv} {c : Cell} {d : D} {Q : D → Hv → Prop} {E : Exn → Hv → Prop} (p : below 0 d = true) (q : Q d h) : (settle h d (h ++ [c])).W Q E := by
  rw [settle_pure p fun n c' e => ⟨c', by rw [List.getElem?_append_left (getElem?_lt e)]; exact e, .inl rfl⟩, W_ok]
  rw [List.take_left' rfl]
  exact q
theorem zerosT {h : Hv} {many : Nat} (hm : many ≤ 1000) : binD true .Mult (.lst [.int 0]) (.int (many : Int)) h = .ok (.ref h.length) (h ++ [.lst ((List.replicate many 0).map .int)]) := by
  have key : ∀ j : Int, 0 ≤ j → j ≤ 1000 → binD true .Mult (.lst [.int 0]) (.int j) h = .ok (.ref h.length) (h ++ [.lst ((List.replicate j.toNat 0).map .int)]) := fun j h0 h1 => by
    show repL true h j (some [.int 0]) = _
    have c : repOk [D.int 0].length j := ⟨by omega, by omega, by rw [sizeLine_eq]; simp; omega⟩
    show (if repOk [D.int 0].length j then mkL true (rep [.int 0] j) h else .no) = _
    rw [if_pos c]
    show Rs.ok (D.ref h.length) (h ++ [.lst (List.replicate j.toNat [D.int 0]).flatten]) = _
    congr 3
    simp
  rw [key _ (by omega) (by omega), Int.toNat_natCast]
theorem zip_places (fs : List Int) : ∀ (pls : List Nat), List.zipWith (fun u v => D.tup [u, v]) (fs.map D.int) (pls.map fun i : Nat => D.int i) = (fs.zip pls).map fun p => D.tup [.int p.1, .int (p.2 : Nat)] := by
  induction fs with
  | nil => simp
  | cons f fs ih =>
    intro pls
    cases pls with
    | nil => simp
    | cons p pls =>
      show _ :: List.zipWith _ (fs.map D.int) (pls.map fun i : Nat => D.int i) = _
      rw [ih]
      rfl
theorem ixN_nat {n i : Nat} (h : i < n) : L2.ixN n (i : Int) = some i := by
  unfold L2.ixN
  rw [if_pos (by omega), if_pos (by omega), Int.toNat_natCast]
theorem getIx_at {h : Hv} {n i : Nat} {acc : List Int} (e : h[n]? = some (.lst (acc.map .int))) (hi : i < acc.length) : getIxD (.ref n) (.int (i : Int)) h = some (acc.getD i 0) := by
  have a : L2.atI (acc.map D.int) (i : Int) = some (.int (acc.getD i 0)) := by
    unfold L2.atI
    rw [ixN_nat (by rw [List.length_map]; exact hi)]
    simp [List.getD, hi]
  unfold getIxD
  rw [cellL_at e]
  show (L2.atI (acc.map D.int) (i : Int)).bind asI = _
  rw [a]
  rfl
theorem set_last {h : Hv} {c d : Cell} : (h ++ [c]).set h.length d = h ++ [d] := by
  rw [List.set_append_right _ _ (Nat.le_refl _), Nat.sub_self]
  rfl
theorem asS_last {h : Hv} {xs : List D} : asS (h ++ [.lst xs]) (.ref h.length) = some xs := asL_at (by simp)
def wordB (s : Str) : Bool := [PyData.str "least", PyData.str "above"].any fun z => PyData.eqv z (.str s)
def isW (many : Nat) : D → Bool
  | .tup [.tup fs, p, .str s] => decide (fs.length = many) && fs.all isInt && isInt p && wordB s
  | _ => false
theorem isW_len {many : Nat} {ds : List D} (h : ds.length ≠ 3) : isW many (.tup ds) = false := by
  unfold isW
  split
  · rename_i e
    cases e
    simp at h
  · rfl
theorem below_mem {n : Nat} : ∀ {ds : List D}, belows n ds = true → ∀ d ∈ ds, below n d = true
  | [], _, d, h => nomatch h
  | x :: ds, e, d, h => by
    have e : (below n x && belows n ds) = true := e
    rw [Bool.and_eq_true] at e
    rcases List.mem_cons.mp h with rfl | h
    · exact e.1
    · exact below_mem e.2 d h
theorem in_words {h : Hv} {s : Str} : cmpD .In (.str s) (G 0) h = .ok (.bl (wordB s)) h := rfl
theorem in_words2 {h : Hv} {s : Str} : cmpD .In (.str s) (.lst [.str "least", .str "above"]) h = .ok (.bl (wordB s)) h := rfl
theorem is_wish_W {k : Nat} {h : Hv} {many : Nat} {d : D} {Q : D → Hv → Prop} {E : Exn → Hv → Prop} (b : below 0 d = true) (sz : ∀ ds, d = .tup ds → ∀ fs, .tup fs ∈ ds → fs.length ≤ 1000) (q : Q (.bl (isW many d)) h) : (callF G F (k + 2) i_is_wish false [.int many, d] h).W Q E := by
  refine call_W (fc := c_is_wish) rfl rfl ?_
  have hs : ∀ b, b = isW many d → (settle h (.bl b) h).W Q E := fun b e => settle_W0 rfl (by rw [e]; exact q)
  simp [c_is_wish, startE, Hr.exec, ev, evs, evc, ty_tup2 b]
  cases d with
  | tup ds =>
    match ds, b, sz, hs with
    | [a, p, w], b, sz, hs =>
      have ba : below 0 a = true := below_mem b a (by simp)
      have bp : below 0 p = true := below_mem b p (by simp)
      have bw : below 0 w = true := below_mem b w (by simp)
      have i0 : idxD h (.tup [a, p, w]) (.int 0) = some a := rfl
      simp [isTup, cmpD_ne, eqD_int, i0, ty_tup2 ba]
      cases a with
      | tup fs =>
        have lf := sz _ rfl fs (by simp)
        have szl : fs.length ≤ sizeLine := size_of (by omega)
        by_cases c : fs.length = many
        · simp [c, cmpD_ne, eqD_int, i0]
          have cm : ∀ f, (∀ x ∈ fs, f x h = .ok (some (.bl (isInt x))) h) → compM (fun _ => True) f fs h = .ok ((fs.map isInt).map .bl) h := fun f kk => compM_bools trivial kk
          rw [cm]
          · have szm : many ≤ sizeLine := by rw [← c]; exact szl
            have al : (fs.map isInt).all id = fs.all isInt := by rw [List.all_map]; rfl
            cases h1 : fs.all isInt
            · rw [h1] at al
              simp [c, szm, trs_bls, al, -List.map_map, -List.all_map]
              exact hs _ (by cases w <;> simp only [isW, h1, Bool.and_false, Bool.false_and])
            · rw [h1] at al
              simp [c, szm, trs_bls, al, -List.map_map, -List.all_map]
              simp [whole2_ok bp]
              cases h2 : isInt p
              · simp
                exact hs _ (by cases w <;> simp only [isW, h2, Bool.and_false, Bool.false_and])
              · simp [ty_str2 bw]
                cases w with
                | str s =>
                  simp [isStr, in_words]
                  exact hs _ (by simp only [isW, c, h1, h2, decide_true, Bool.true_and])
                | _ =>
                  simp [isStr]
                  exact hs _ rfl
          · intro x hx
            simp [whole2_ok (below_mem (show belows 0 fs = true from ba) x hx)]
        · have c' : ¬ (fs.length : Int) = many := by omega
          simp [c, c', cmpD_ne, eqD_int, i0]
          exact hs _ (by cases w <;> simp [isW, c])
      | _ =>
        simp [isTup]
        exact hs _ rfl
    | [], b, sz, hs => simp [isTup, cmpD_ne, eqD_int]; exact hs _ (isW_len (by simp)).symm
    | [_], b, sz, hs => simp [isTup, cmpD_ne, eqD_int]; exact hs _ (isW_len (by simp)).symm
    | [_, _], b, sz, hs => simp [isTup, cmpD_ne, eqD_int]; exact hs _ (isW_len (by simp)).symm
    | _ :: _ :: _ :: _ :: r, b, sz, hs =>
      have : ¬ ((r.length : Int) + 1 + 1 + 1 + 1 = 3) := by omega
      simp [isTup, cmpD_ne, eqD_int, this]
      exact hs _ (isW_len (by simp)).symm
  | _ =>
    simp [isTup]
    exact hs _ rfl
theorem eqD_nilG {h : Hv} {xs : List D} : eqD h (.lst xs) (.lst []) = some xs.isEmpty := by
  cases xs with
  | nil => rfl
  | cons x xs =>
    cases e : eqL h (.lst (x :: xs)) (.lst []) with
    | none => exact eqD_dif e rfl rfl (by simp)
    | some b =>
      rw [eqD_of e]
      have p0 : toP h (.lst []) = some (.list []) := rfl
      unfold eqL at e
      rw [p0] at e
      cases tp : toP h (.lst (x :: xs)) with
      | none => rw [tp] at e; cases e
      | some p =>
        rw [tp] at e
        have e : (if (shp p && shp (.list [])) = true then some (PyData.eqv p (.list [])) else none) = some b := e
        have tp : (strips (cellP h (cellP h fun _ => none)) (x :: xs)).map PyData.list = some p := tp
        cases ts : strips (cellP h (cellP h fun _ => none)) (x :: xs) with
        | none => rw [ts] at tp; cases tp
        | some ps =>
          rw [ts] at tp
          cases tp
          have : ∃ a r, ps = a :: r := by
            have ts : (strip (cellP h (cellP h fun _ => none)) x).bind (fun y => (strips (cellP h (cellP h fun _ => none)) xs).map (y :: ·)) = some ps := ts
            cases s1 : strip (cellP h (cellP h fun _ => none)) x with
            | none => rw [s1] at ts; cases ts
            | some a =>
              rw [s1] at ts
              cases s2 : strips (cellP h (cellP h fun _ => none)) xs with
              | none => rw [s2] at ts; cases ts
              | some r =>
                rw [s2] at ts
                cases ts
                exact ⟨a, r, rfl⟩
          obtain ⟨a, r, rfl⟩ := this
          by_cases c : (shp (.list (a :: r)) && shp (.list [])) = true
          · rw [if_pos c] at e
            cases e
            rfl
          · rw [if_neg c] at e
            cases e
theorem cat_tup {h : Hv} {xs ys : List D} (c : xs.length + ys.length ≤ 10000) : binD false .Add (.tup xs) (.tup ys) h = .ok (.tup (xs ++ ys)) h := by
  show (if (Operator.Add = .Add ∧ xs.length + ys.length ≤ sizeLine) then Rs.ok (D.tup (xs ++ ys)) h else .no) = _
  rw [if_pos ⟨rfl, size_of (by omega)⟩]
theorem filter_odd : ∀ fs : List D, (fs.filter oddD).isEmpty = fs.all isInt
  | [] => rfl
  | x :: r => by
    rw [List.filter_cons, List.all_cons]
    cases hx : isInt x
    · rw [if_pos (show oddD x = true by unfold oddD; rw [hx]; rfl)]
      rfl
    · rw [if_neg (show ¬ oddD x = true by unfold oddD; rw [hx]; decide), Bool.true_and]
      exact filter_odd r
structure okT (d : D) : Prop where
  b : below 0 d = true
  sz : ∀ ds, d = .tup ds → ∀ fs, .tup fs ∈ ds → fs.length ≤ 1000
theorem okT.tup {ds : List D} (h : ∀ x ∈ ds, below 0 x = true ∧ ∀ fs, x = .tup fs → fs.length ≤ 1000) : okT (.tup ds) :=
  ⟨belows_of fun x hx => (h x hx).1, fun es e fs hf => by cases e; exact (h _ hf).2 fs rfl⟩
theorem okT.lst {ds : List D} (h : ∀ x ∈ ds, below 0 x = true) : okT (.lst ds) := ⟨belows_of h, fun _ e => nomatch e⟩
theorem ints_ok (fs : List Int) : below 0 (.tup (fs.map .int)) = true := belows_ints fs
@[simp] theorem mkDc_f {ks vs : List D} {h : Hv} : mkDc false ks vs h = .ok (.dct ks vs) h := id rfl
theorem cut_tup {h : Hv} {ds : List D} {lo hi : Option Int} : cutD false h (.tup ds) lo hi = .ok (.tup (cutB ds lo hi)) h := rfl
theorem okW_lean {w : Ws} (o : okW w) : okW (leanV w) := by
  by_cases h : gAll w = 0
  · rw [show leanV w = w from if_pos h]; exact o
  · have e := lean_scale w h
    have s : ∀ y : Int, small ((gAll w : Int) * y) → small y := fun y hy => by
      unfold small at *
      rw [Int.natAbs_mul, Int.natAbs_natCast] at hy
      exact Nat.lt_of_le_of_lt (Nat.le_mul_of_pos_left _ (by omega)) hy
    generalize leanV w = v at *
    generalize gAll w = g at *
    subst e
    exact ⟨fun f hf => s f (o.1 _ (List.mem_map.mpr ⟨f, hf, rfl⟩)), s _ o.2.1, by have := o.2.2; simpa [scaleW] using this⟩
theorem lean_len (w : Ws) : (leanV w).fs.length = w.fs.length := by
  unfold leanV
  split
  · rfl
  · simp
theorem wD_okV2 {w : Ws} (o : okW w) : okV (wD w) = true := by
  show (okVs (w.fs.map .int) && (okV (.int w.pl) && (okV (.str (wd w.st)) && true))) = true
  have a : okVs (w.fs.map .int) = true := okVs_of fun d' hd => by
    obtain ⟨f, hf, rfl⟩ := List.mem_map.mp hd
    have := o.1 f hf
    unfold small at this
    exact decide_eq_true (by omega)
  have b : okV (.int w.pl) = true := by
    have := o.2.1
    unfold small at this
    exact decide_eq_true (by omega)
  have c : okV (.str (wd w.st)) = true := wd_ok _
  rw [a, b, c]
  rfl
theorem wD_dp2 (w : Ws) : dp (wD w) ≤ 2 := by
  have a : dps (w.fs.map .int) ≤ 0 := dps_of fun d hd => by
    obtain ⟨f, hf, rfl⟩ := List.mem_map.mp hd
    exact Nat.le_refl _
  show max (dps (w.fs.map .int) + 1) (max 0 (max 0 0)) + 1 ≤ 2
  omega
theorem eqD_self {h : Hv} {d : D} (o : okV d = true) (hd : dp d ≤ 60) : eqD h d d = some true := by
  rw [eqD_ok o o hd hd, SeqAt.eqv_refl_plain _ (show_ok d o).2]
theorem eq_wD {h : Hv} {w : Ws} (o : okW w) : eqD h (wD w) (wD w) = some true := eqD_self (wD_okV2 o) (by have := wD_dp2 w; omega)
theorem eq_bl {h : Hv} {a b : Bool} : eqD h (.bl a) (.bl b) = some (a == b) := rfl
theorem wordB_wd (b : Bool) : wordB (wd b) = true := by cases b <;> decide +kernel
theorem isW_wD {w : Ws} {many : Nat} (h : w.fs.length = many) : isW many (wD w) = true := by
  show (decide ((w.fs.map D.int).length = many) && (w.fs.map D.int).all isInt && true && wordB (wd w.st)) = true
  rw [wordB_wd, List.length_map, decide_eq_true h]
  have : (w.fs.map D.int).all isInt = true := by
    rw [List.all_eq_true]
    intro x hx
    obtain ⟨i, _, rfl⟩ := List.mem_map.mp hx
    rfl
  rw [this]
  rfl
theorem sz_wD {w : Ws} (h : w.fs.length ≤ 1000) : ∀ ds, wD w = .tup ds → ∀ fs, .tup fs ∈ ds → fs.length ≤ 1000 := fun ds e fs hf => by
  cases e
  simp at hf
  subst hf
  simpa using h
theorem foldAdd_bound {B : Nat} : ∀ (l : List (Int × Nat)) (acc : List Int), (∀ p ∈ l, p.1.natAbs ≤ 7) → (∀ a ∈ acc, a.natAbs + 7 * l.length ≤ B) → 7 * l.length ≤ B → ∀ a ∈ l.foldl addAt acc, a.natAbs ≤ B
  | [], acc, _, h, _, a, ha => by have := h a ha; omega
  | p :: l, acc, hp, h, hB, a, ha => by
    refine foldAdd_bound l (addAt acc p) (fun q hq => hp q (List.mem_cons_of_mem _ hq)) (fun b hb => ?_) (by simp at hB; omega) a ha
    have p7 := hp p List.mem_cons_self
    have hB : 7 * (l.length + 1) ≤ B := hB
    have hh : ∀ a ∈ acc, a.natAbs + 7 * (l.length + 1) ≤ B := h
    rcases List.mem_or_eq_of_mem_set (show b ∈ acc.set p.2 (acc.getD p.2 0 + p.1) from hb) with hb | rfl
    · have := hh b hb
      omega
    · by_cases c : p.2 < acc.length
      · have := hh (acc.getD p.2 0) (by simp [List.getD, c])
        omega
      · have : acc.getD p.2 0 = 0 := by simp [List.getD, List.getElem?_eq_none (Nat.le_of_not_lt c)]
        rw [this]
        omega
theorem putW_ok {w : Ws} {many : Nat} {pls : List Nat} (d : drawnW 7 w.fs.length w) (hl : w.fs.length ≤ 12) (hm : many ≤ 12) : okW ⟨putF' w.fs pls (List.replicate many 0), w.pl, w.st⟩ := by
  have lz : (w.fs.zip pls).length ≤ 12 := by rw [List.length_zip]; omega
  refine ⟨fun f hf => ?_, ?_, ?_⟩
  · have := foldAdd_bound (B := 100) (w.fs.zip pls) (List.replicate many 0) (fun p hp => d.2.1 _ (List.of_mem_zip hp).1) (fun a ha => by rw [List.eq_of_mem_replicate ha]; show 0 + _ ≤ 100; omega) (by omega) f hf
    exact Nat.lt_of_le_of_lt this (by decide)
  · exact Nat.lt_of_le_of_lt d.2.2 (by decide)
  · show (putF' w.fs pls (List.replicate many 0)).length ≤ 1000
    rw [put_len]
    simp
    omega
theorem sel_map (wide : List (Int × Int)) : ∀ pls : List Nat, (pls.map fun i : Nat => D.int i).filterMap (fun d => match d with | .int i => some (ratD (wide.getD i.toNat (0, 1))) | _ => none) = (pls.map fun i => wide.getD i (0, 1)).map ratD
  | [] => rfl
  | a :: l => by
    rw [List.map_cons, List.filterMap_cons, List.map_cons, List.map_cons, ← sel_map wide l]
    rfl
end Lw
set_option maxHeartbeats 1000000
/-! More tools for the plain laws: guards, items, comprehensions by posts. -/
namespace Hr
open PySem
section
variable {h : Hv} {ds : List D} {a b c d e : D} {l : List D} {s : Str}
@[simp] theorem stays_tup : stays h (.tup ds) = fun _ => True := id rfl
@[simp] theorem stays_lst : stays h (.lst ds) = fun _ => True := id rfl
@[simp] theorem stays_ro : stays h (.ro ds) = fun _ => True := id rfl
@[simp] theorem it0 : idxD h (.tup (a :: l)) (.int 0) = some a := by
  show L2.atI (a :: l) 0 = _
  unfold L2.atI L2.ixN
  simp
@[simp] theorem it1 : idxD h (.tup (a :: b :: l)) (.int 1) = some b := by
  show L2.atI (a :: b :: l) 1 = _
  unfold L2.atI L2.ixN
  have e : ((1 : Int) < ((a :: b :: l).length : Int)) := by simp; omega
  rw [if_pos (by decide), if_pos e]
  rfl
@[simp] theorem it2 : idxD h (.tup (a :: b :: c :: l)) (.int 2) = some c := by
  show L2.atI (a :: b :: c :: l) 2 = _
  unfold L2.atI L2.ixN
  have e : ((2 : Int) < ((a :: b :: c :: l).length : Int)) := by simp; omega
  rw [if_pos (by decide), if_pos e]
  rfl
@[simp] theorem it3 : idxD h (.tup (a :: b :: c :: d :: l)) (.int 3) = some d := by
  show L2.atI (a :: b :: c :: d :: l) 3 = _
  unfold L2.atI L2.ixN
  have e : ((3 : Int) < ((a :: b :: c :: d :: l).length : Int)) := by simp; omega
  rw [if_pos (by decide), if_pos e]
  rfl
@[simp] theorem il0 : idxD h (.lst (a :: l)) (.int 0) = some a := it0 (h := h)
@[simp] theorem il1 : idxD h (.lst (a :: b :: l)) (.int 1) = some b := it1 (h := h)
@[simp] theorem il2 : idxD h (.lst (a :: b :: c :: l)) (.int 2) = some c := it2 (h := h)
@[simp] theorem il3 : idxD h (.lst (a :: b :: c :: d :: l)) (.int 3) = some d := it3 (h := h)
theorem atI_nat {α : Type} {xs : List α} {i : Nat} (hi : i < xs.length) : L2.atI xs (i : Int) = some xs[i] := by
  unfold L2.atI L2.ixN
  rw [if_pos (by omega), if_pos (by omega), Int.toNat_natCast]
  simp [hi]
theorem idx_tupN {i : Nat} (hi : i < ds.length) : idxD h (.tup ds) (.int (i : Int)) = some ds[i] := atI_nat hi
theorem idx_lstN {i : Nat} (hi : i < ds.length) : idxD h (.lst ds) (.int (i : Int)) = some ds[i] := atI_nat hi
@[simp] theorem eqD_ints {i j : Int} : eqD h (.int i) (.int j) = some (decide (i = j)) := by
  by_cases q : i = j
  · subst q; rw [decide_eq_true rfl]; simp [eqD, eqL, toP, strip, shp, PyData.eqv, PyData.plain, PyData.depth]
  · rw [decide_eq_false q]; simp [eqD, eqL, toP, strip, shp, PyData.eqv, PyData.plain, PyData.depth, q]
@[simp] theorem eqD_bls {x y : Bool} : eqD h (.bl x) (.bl y) = some (x == y) := id rfl
@[simp] theorem eqD_strs {x y : Str} : eqD h (.str x) (.str y) = some (x == y) := id rfl
@[simp] theorem cmpD_is0 {x y : D} : cmpD .Is x y h = blD (if isNon y then some (isNon x) else sameB x y) h := id rfl
@[simp] theorem cmpD_isn {x y : D} : cmpD .IsNot x y h = blD (if isNon y then some (!isNon x) else (sameB x y).map (!·)) h := id rfl
@[simp] theorem isNon_non : isNon .non = true := id rfl
@[simp] theorem isNon_int {i : Int} : isNon (.int i) = false := id rfl
@[simp] theorem isNon_tup : isNon (.tup ds) = false := id rfl
@[simp] theorem isNon_lst : isNon (.lst ds) = false := id rfl
@[simp] theorem isNon_str : isNon (.str s) = false := id rfl
@[simp] theorem testD_tup : testD (.tup ds) h = .ok (!ds.isEmpty) h := id rfl
@[simp] theorem testD_lst : testD (.lst ds) h = .ok (!ds.isEmpty) h := id rfl
@[simp] theorem testD_non : testD .non h = .ok false h := id rfl
@[simp] theorem cut_tupS {m : Bool} {lo hi : Option Int} : cutD m h (.tup ds) lo hi = .ok (.tup (cutB ds lo hi)) h := id rfl
@[simp] theorem cut_lstS {lo hi : Option Int} : cutD false h (.lst ds) lo hi = .ok (.lst (cutB ds lo hi)) h := id rfl
@[simp] theorem optI_some {i : Int} : optI (some i) h = .ok (some i) h := id rfl
theorem catT {xs ys : List D} (c : xs.length + ys.length ≤ sizeLine) {m : Bool} : binD m .Add (.tup xs) (.tup ys) h = .ok (.tup (xs ++ ys)) h := by
  show (if (Operator.Add = .Add ∧ xs.length + ys.length ≤ sizeLine) then Rs.ok (D.tup (xs ++ ys)) h else .no) = _
  rw [if_pos ⟨rfl, c⟩]
theorem catLL {xs ys : List D} {m : Bool} (c : xs.length + ys.length ≤ sizeLine) : binD m .Add (.lst xs) (.lst ys) h = mkL m (xs ++ ys) h := by
  show (if xs.length + ys.length ≤ sizeLine then mkL m (xs ++ ys) h else .no) = _
  rw [if_pos c]
end
theorem below_mem {n : Nat} : ∀ {ds : List D}, belows n ds = true → ∀ d ∈ ds, below n d = true
  | [], _, d, h => nomatch h
  | x :: ds, e, d, h => by
    have e : (below n x && belows n ds) = true := e
    rw [Bool.and_eq_true] at e
    rcases List.mem_cons.mp h with rfl | h
    · exact e.1
    · exact below_mem e.2 d h
/-! ### comprehensions -/
section
variable {α : Type} {g : Hv → Prop} {f : D → Hv → Rs (Option D)} {h : Hv} {Q : List D → Hv → Prop} {E : Exn → Hv → Prop}
theorem compM_enc {enc : α → D} (hg : g h) : ∀ (l : List α) (φ : α → Option D), (∀ x ∈ l, (f (enc x) h).W (fun o h' => o = φ x ∧ h' = h) (fun _ _ => False)) → compM g f (l.map enc) h = .ok (l.filterMap φ) h
  | [], φ, _ => comp_nil_pos hg
  | x :: l, φ, k => by
    show compM g f (enc x :: l.map enc) h = _
    rw [comp_cons_pos hg, (k x List.mem_cons_self).eq, bind_ok, compM_enc hg l φ fun y hy => k y (List.mem_cons_of_mem _ hy), bind_ok, List.filterMap_cons]
    cases φ x <;> rfl
theorem comp_pure {enc : α → D} (l : List α) (φ : α → Option D) (hg : g h) (k : ∀ x ∈ l, (f (enc x) h).W (fun o h' => o = φ x ∧ h' = h) (fun _ _ => False)) (q : Q (l.filterMap φ) h) : (compM g f (l.map enc) h).W Q E := by
  rw [compM_enc hg l φ k, W_ok]
  exact q
/-- a comprehension that maps -/
theorem comp_to {β : Type} {enc : α → D} {en2 : β → D} (l : List α) (φ : α → β) (hg : g h) (k : ∀ x ∈ l, (f (enc x) h).W (fun o h' => o = some (en2 (φ x)) ∧ h' = h) (fun _ _ => False)) (q : Q ((l.map φ).map en2) h) : (compM g f (l.map enc) h).W Q E :=
  comp_pure l (fun x => some (en2 (φ x))) hg k (by
    have : l.filterMap (fun x => some (en2 (φ x))) = (l.map φ).map en2 := by
      rw [List.map_map]
      exact List.filterMap_eq_map (f := fun x => en2 (φ x)) ▸ rfl
    rw [this]
    exact q)
/-- a comprehension that picks -/
theorem comp_pick {enc : α → D} (l : List α) (p : α → Bool) (hg : g h) (k : ∀ x ∈ l, (f (enc x) h).W (fun o h' => o = (if p x then some (enc x) else none) ∧ h' = h) (fun _ _ => False)) (q : Q ((l.filter p).map enc) h) : (compM g f (l.map enc) h).W Q E :=
  comp_pure l (fun x => if p x then some (enc x) else none) hg k (by
    have : l.filterMap (fun x => if p x then some (enc x) else none) = (l.filter p).map enc := by
      clear k q
      induction l with
      | nil => rfl
      | cons x l ih =>
        rw [List.filterMap_cons, List.filter_cons]
        cases p x <;> simp [ih]
    rw [this]
    exact q)
/-- the same over values as they stand -/
theorem comp_id (l : List D) (φ : D → Option D) (hg : g h) (k : ∀ x ∈ l, (f x h).W (fun o h' => o = φ x ∧ h' = h) (fun _ _ => False)) (q : Q (l.filterMap φ) h) : (compM g f l h).W Q E := by
  have := comp_pure (enc := id) (E := E) l φ hg k q
  rwa [List.map_id] at this
theorem comp_idP (l : List D) (p : D → Bool) (hg : g h) (k : ∀ x ∈ l, (f x h).W (fun o h' => o = (if p x then some x else none) ∧ h' = h) (fun _ _ => False)) (q : Q (l.filter p) h) : (compM g f l h).W Q E := by
  have := comp_pick (enc := id) (Q := Q) (E := E) l p hg k (by rwa [List.map_id])
  rwa [List.map_id] at this
theorem comp_idTo {β : Type} {en2 : β → D} (l : List D) (φ : D → β) (hg : g h) (k : ∀ x ∈ l, (f x h).W (fun o h' => o = some (en2 (φ x)) ∧ h' = h) (fun _ _ => False)) (q : Q ((l.map φ).map en2) h) : (compM g f l h).W Q E := by
  have := comp_to (enc := id) (Q := Q) (E := E) l φ hg k q
  rwa [List.map_id] at this
end
end Hr
set_option maxHeartbeats 4000000
namespace Lw
open PySem Hr
/-! the draws: letters, parts, rows -/
def nsD (l : List Nat) : List D := l.map fun i : Nat => D.int i
theorem lrng_eq {m : Bool} {h : Hv} {n : Nat} (hn : n ≤ 1000) : opD m .lrng [.int (n : Int)] h = mkL m (nsD (List.range n)) h := by
  show mkLo m h (rngL 0 (n : Int)) = _
  have e : rngL 0 (n : Int) = some (nsD (List.range n)) := by
    unfold rngL nsD
    rw [if_pos ⟨by decide, by decide, by omega, by omega, by omega⟩]
    simp
  rw [e]
  rfl
theorem len_ref {n : Nat} {h : Hv} {xs : List D} (e : h[n]? = some (.lst xs)) : lenD h (.ref n) = some xs.length := by
  have a : dctAt h (.ref n) = none := by
    show (match h[n]? with | some (.dct ks vs) => some (ks, vs) | _ => none) = none
    rw [e]
  unfold lenD
  rw [a]
  show (asS h (.ref n)).map (·.length) = _
  rw [show asS h (.ref n) = some xs from asL_at e]
  rfl
theorem erase_perm : ∀ (l : List Nat) (i : Nat) (h : i < l.length), (l[i] :: l.eraseIdx i).Perm l
  | a :: l, 0, _ => .refl _
  | a :: l, i + 1, h => (List.Perm.swap a _ _).trans ((erase_perm l i (by simpa using h)).cons a)
theorem erase_map : ∀ (l : List Nat) (i : Nat), (nsD l).eraseIdx i = nsD (l.eraseIdx i)
  | [], _ => rfl
  | a :: l, 0 => rfl
  | a :: l, i + 1 => congrArg (D.int (a : Int) :: ·) (erase_map l i)
theorem mt_popAt {n : Nat} {h : Hv} {xs : List D} {i : Nat} (e : h[n]? = some (.lst xs)) (hi : i < xs.length) (hl : xs.length ≤ 1000) : mtD .popAt (.ref n) [.int (i : Int)] h = .ok xs[i] (h.set n (.lst (xs.eraseIdx i))) := by
  unfold mtD
  rw [cellL_at e]
  have c : -(2 ^ 63) ≤ (i : Int) ∧ (i : Int) < 2 ^ 63 := ⟨by omega, by omega⟩
  have a : mtL .popAt xs [.int (i : Int)] = some (xs[i], xs.eraseIdx i) := by
    unfold mtL
    simp only
    rw [if_pos c, ixN_nat hi]
    simp [hi]
  simp only
  rw [a]
  rfl
theorem _root_.Hr.Same.out {n m : Nat} {h h' : Hv} {c : Cell} (s : Same n h h') (hm : h.length ≤ m) (hn : n < h.length) : Same n h (h'.set m c) := by
  refine ⟨by rw [List.length_set]; exact s.le, fun i hi ne => ?_, ?_⟩
  · rw [List.getElem?_set_ne (by omega)]
    exact s.at_ i hi ne
  · obtain ⟨a, b, e⟩ := s.pool
    exact ⟨a, b, by rw [List.getElem?_set_ne (by omega)]; exact e⟩
theorem nsD_len {l : List Nat} : (nsD l).length = l.length := List.length_map ..
theorem nsD_below (l : List Nat) : belows 0 (nsD l) = true := belows_of fun d hd => by
  obtain ⟨i, _, rfl⟩ := List.mem_map.mp hd
  rfl
theorem letters_W {k n : Nat} {h : Hv} {many tall : Nat} {Q : D → Hv → Prop} {E : Exn → Hv → Prop} (p : PoolAt n h) (hm : tall ≤ many) (hm2 : many ≤ 100)
    (q : ∀ (ls : List Nat) h', Same n h h' → h'.length = h.length → ls.length = tall → ls.Nodup → (∀ i ∈ ls, i < many) → Q (.tup (nsD ls)) h') : (callF G F (k + 2) i__law_letters false [.ref n, .int (many : Int), .int (tall : Int)] h).W Q E := by
  refine call_W (fc := c__law_letters) rfl rfl ?_
  have hn := pool_lt p
  simp [c__law_letters, startE, Hr.exec, ev, evs, evc, lrng_eq (show many ≤ 1000 by omega), rng_nat (show tall < 2 ^ 62 by omega)]
  refine comp_W1 (l := List.range tall) (enc := fun x : Nat => D.int (x : Int)) (fun l r h' => ∃ rs left : List Nat, r = nsD rs ∧ Same n h h' ∧ h'.length = h.length + 1 ∧ h'[h.length]? = some (.lst (nsD left)) ∧ rs.length + l.length = tall ∧ left.length + rs.length = many ∧ (rs ++ left).Nodup ∧ ∀ i ∈ rs ++ left, i < many)
    ⟨[], List.range many, rfl, .push p, by simp, by simp, by simp, by simp, by simpa using List.nodup_range, by simp⟩ (fun _ _ _ _ => trivial) ?_ ?_
  · rintro x l r h' ⟨rs, left, rfl, s, le, e, ll, lm, nd, lt⟩
    have l0 : 0 < left.length := by simp at ll; omega
    simp [ty_ref e, len_ref e, nsD_len]
    refine ⟨rfl, ?_⟩
    refine draw_W (many := left.length) s.pool (by omega) (by omega) fun v h2 s2 l2 v0 v1 => ?_
    obtain ⟨i, rfl⟩ : ∃ i : Nat, v = i := ⟨v.toNat, by omega⟩
    have hi : i < left.length := by omega
    have e2 : h2[h.length]? = some (.lst (nsD left)) := by rw [s2.at_ _ (by omega) (by omega)]; exact e
    rw [mt_popAt e2 (by rw [nsD_len]; exact hi) (by rw [nsD_len]; omega)]
    have pm : ((rs ++ [left[i]]) ++ left.eraseIdx i).Perm (rs ++ left) := by
      rw [List.append_assoc]
      exact List.Perm.append_left rs (erase_perm left i hi)
    simp
    refine ⟨rs ++ [left[i]], by simp [nsD], (s.trans s2).out (Nat.le_refl _) hn, by omega, left.eraseIdx i, ?_, by simp at ll ⊢; omega, ?_, pm.nodup_iff.mpr nd, fun j hj => lt j (pm.mem_iff.mp (List.mem_append.mpr hj))⟩
    · rw [List.getElem?_set_self (by omega)]
      rw [erase_map]
    · rw [List.length_eraseIdx, if_pos hi, List.length_append]
      show left.length - 1 + (rs.length + 1) = many
      omega
  · rintro r h' ⟨rs, left, rfl, s, le, e, ll, lm, nd, lt⟩
    have nd1 : rs.Nodup := (List.nodup_append.mp nd).1
    have lr : rs.length = tall := by simpa using ll
    refine ⟨by rw [nsD_len]; exact size_of (by omega), ?_⟩
    exact settle_W (n := n) (show below 0 (.tup (nsD rs)) = true from nsD_below rs) s hn fun h4 s4 l4 => q rs h4 s4 l4 (by simpa using ll) nd1 fun i hi => lt i (List.mem_append_left _ hi)
def nmL : List Str := ["a", "bb", "c", "longname"]
def ar (s : Str) : Nat := if s = "a" then 1 else if s = "bb" then 2 else if s = "c" then 0 else 3
def arD : D := .dct [.str "a", .str "bb", .str "c", .str "longname"] [.int 1, .int 2, .int 0, .int 3]
theorem disp4 {h : Hv} : opD false (.disp 4) [.str "a", .int 1, .str "bb", .int 2, .str "c", .int 0, .str "longname", .int 3] h = .ok arD h :=
  by
  have a : ∀ ds : List D, ds.length = 4 + 4 → opD false (.disp 4) ds h = mkDo false h (pairsD ds) := fun ds e => if_pos ⟨e, by decide, by decide⟩
  rw [a _ rfl]
  show (if ([.inr "a", .inr "bb", .inr "c", .inr "longname"] : List L2.Key).Nodup then mkDc false [.str "a", .str "bb", .str "c", .str "longname"] [.int 1, .int 2, .int 0, .int 3] h else .no) = _
  rw [if_pos (by decide +kernel)]
  rfl
theorem arD_at {h : Hv} {s : Str} (hs : s ∈ nmL) : idxD h arD (.str s) = some (.int (ar s : Int)) := by
  have hs : s = "a" ∨ s = "bb" ∨ s = "c" ∨ s = "longname" := by simpa [nmL] using hs
  rcases hs with rfl | rfl | rfl | rfl <;> rfl
theorem arity_W {k : Nat} {h : Hv} {s : Str} {Q : D → Hv → Prop} {E : Exn → Hv → Prop} (hs : s ∈ nmL) (q : Q (.int (ar s : Int)) h) : (callF G F (k + 1) i__law_arity false [.str s] h).W Q E := by
  refine call_W (fc := c__law_arity) rfl rfl ?_
  simp [c__law_arity, startE, Hr.exec, ev, evs, evc, disp4, arD_at hs]
  exact settle_W0 rfl q
theorem ar_le (s : Str) : ar s ≤ 3 := by
  unfold ar
  repeat' split
  all_goals omega
structure Pt where
  nm : Str
  ls : List Nat
def ptD (p : Pt) : D := .tup [.str p.nm, .tup (nsD p.ls)]
structure okP (m : Nat) (p : Pt) : Prop where
  nm : p.nm ∈ nmL
  len : p.ls.length = ar p.nm
  nd : p.ls.Nodup
  lt : ∀ i ∈ p.ls, i < m
theorem ptD_below (p : Pt) : below 0 (ptD p) = true := by
  show (true && (belows 0 (nsD p.ls) && true)) = true
  rw [nsD_below]
  rfl
def arB (many : Nat) : D → Bool
  | .str s => decide (ar s ≤ many)
  | _ => false
theorem partin_W {k n : Nat} {h : Hv} {many : Nat} {Q : D → Hv → Prop} {E : Exn → Hv → Prop} (p : PoolAt n h) (hm2 : many ≤ 100)
    (q : ∀ (pt : Pt) h', Same n h h' → h'.length = h.length → okP many pt → Q (ptD pt) h') : (callF G F (k + 3) i__law_part_in false [.ref n, .int (many : Int)] h).W Q E := by
  refine call_W (fc := c__law_part_in) rfl rfl ?_
  have hn := pool_lt p
  simp [c__law_part_in, startE, Hr.exec, ev, evs, evc]
  refine comp_idP _ (arB many) trivial (fun x hx => ?_) ?_
  · obtain ⟨s, hs, rfl⟩ : ∃ s, s ∈ nmL ∧ x = .str s := by
      simp only [List.mem_cons, List.not_mem_nil, or_false] at hx
      rcases hx with rfl | rfl | rfl | rfl | rfl | rfl <;> exact ⟨_, by simp [nmL], rfl⟩
    simp
    refine arity_W hs ?_
    by_cases c : ar s ≤ many
    · simp [arB, c]
    · simp [arB, c]
  · generalize hl : List.filter (arB many) [D.str "a", D.str "a", D.str "bb", D.str "bb", D.str "c", D.str "longname"] = l
    have lc : D.str "c" ∈ l := by
      rw [← hl]
      refine List.mem_filter.mpr ⟨by simp, ?_⟩
      show decide (ar "c" ≤ many) = true
      rw [show ar "c" = 0 from by decide +kernel]
      exact decide_eq_true (Nat.zero_le _)
    have l0 : 0 < l.length := List.length_pos_of_mem lc
    have l6 : l.length ≤ 6 := by rw [← hl]; exact List.length_filter_le _ _
    refine ⟨size_of (by omega), ?_⟩
    refine draw_W (many := (l.length : Int)) p (by omega) (by omega) fun v h1 s1 l1 v0 v1 => ?_
    obtain ⟨x, hx, e⟩ := pick_ok (xs := l) (h := h1) v0 v1
    rw [← hl] at hx
    obtain ⟨hx, hb⟩ := List.mem_filter.mp hx
    obtain ⟨s, hs, rfl⟩ : ∃ s, s ∈ nmL ∧ x = .str s := by
      simp only [List.mem_cons, List.not_mem_nil, or_false] at hx
      rcases hx with rfl | rfl | rfl | rfl | rfl | rfl <;> exact ⟨_, by simp [nmL], rfl⟩
    have hb : ar s ≤ many := of_decide_eq_true hb
    simp [e]
    refine arity_W hs ?_
    refine letters_W s1.pool hb hm2 fun ls h2 s2 l2 ll nd lt => ?_
    exact settle_W (n := n) (ptD_below ⟨s, ls⟩) (s1.trans s2) hn fun h4 s4 l4 => q ⟨s, ls⟩ h4 s4 l4 ⟨hs, ll, nd, lt⟩
structure Rw where
  hd : Option Pt
  bd : List Pt
  ws : List Ws
  mn : Nat
def hdD : Option Pt → D
  | none => .non
  | some p => ptD p
def rwD (r : Rw) : D := .tup [hdD r.hd, .tup (r.bd.map ptD), .tup (r.ws.map wD), .int (r.mn : Int)]
structure okR (r : Rw) : Prop where
  hd : ∀ p, r.hd = some p → okP r.mn p
  bd : ∀ p ∈ r.bd, okP r.mn p
  bl : r.bd.length ≤ 2
  ws : ∀ w ∈ r.ws, drawnW 7 r.mn w
  wl : r.ws.length ≤ 3
  mn : r.mn ≤ 3
theorem pts_below (l : List Pt) : belows 0 (l.map ptD) = true := belows_of fun d hd => by
  obtain ⟨w, _, rfl⟩ := List.mem_map.mp hd
  exact ptD_below w
theorem hdD_below (o : Option Pt) : below 0 (hdD o) = true := by
  cases o with
  | none => rfl
  | some p => exact ptD_below p
theorem rwD_below (r : Rw) : below 0 (rwD r) = true := by
  show (below 0 (hdD r.hd) && (belows 0 (r.bd.map ptD) && (belows 0 (r.ws.map wD) && (true && true)))) = true
  rw [hdD_below, pts_below, wDs_below]
  rfl
theorem onerow_rest {k n : Nat} {h h0 : Hv} {Q : D → Hv → Prop} {E : Exn → Hv → Prop} {o : Option Pt} {mn : Nat} (hn : n < h.length) (s0 : Same n h h0) (l0 : h0.length = h.length) (hm : mn ≤ 3) (ho : ∀ p, o = some p → okP mn p)
    (q : ∀ (r : Rw) h', Same n h h' → h'.length = h.length → okR r → Q (rwD r) h') : (execs ⟨callF G F (k + 3), G, none⟩ (c__law_one_row.body.drop 2) [some (.ref n), some (.int 3), some (.int (mn : Int)), some (hdD o), none, none] h0).W (retP false h Q E) := by
  simp [c__law_one_row, Hr.exec, ev, evs, evc]
  refine draw_W (many := 5) s0.pool (by decide) (by decide) fun v h1 s1 l1 v0 v1 => ?_
  obtain ⟨y, hy, _, e⟩ := pick_int (xs := [0, 0, 1, 1, 2]) (h := h1) (b := 2) v0 v1 (by decide)
  obtain ⟨c, rfl, hc⟩ : ∃ c : Nat, y = c ∧ c ≤ 2 := by
    simp at hy
    rcases hy with rfl | rfl | rfl
    · exact ⟨0, rfl, by decide⟩
    · exact ⟨1, rfl, by decide⟩
    · exact ⟨2, rfl, by decide⟩
  simp at e
  simp [e, rng_nat (show c < 2 ^ 62 by omega)]
  refine comp_W1 (l := List.range c) (enc := fun x : Nat => D.int (x : Int)) (fun l r h' => ∃ ps : List Pt, r = ps.map ptD ∧ Same n h h' ∧ h'.length = h.length ∧ ps.length + l.length = c ∧ ∀ p ∈ ps, okP mn p) ⟨[], rfl, s0.trans s1, by omega, by simp, by simp⟩ (fun _ _ _ _ => trivial) ?_ ?_
  · rintro x l r h' ⟨ps, rfl, s, le, ll, hp⟩
    simp only [setT_nm, W_bind]
    refine partin_W s.pool (by omega) fun pt h2 s2 l2 op => ?_
    simp
    refine ⟨ps ++ [pt], by simp, s.trans s2, by omega, by simp at ll ⊢; omega, fun p hp' => ?_⟩
    rcases List.mem_append.mp hp' with hp' | hp'
    · exact hp p hp'
    · rw [List.mem_singleton.mp hp']; exact op
  · rintro r h' ⟨ps, rfl, s, le, ll, hp⟩
    have lp : ps.length ≤ 2 := by simp at ll; omega
    refine ⟨by rw [List.length_map]; exact size_of (by omega), ?_⟩
    refine wishes_W (many := mn) (most := 3) s.pool (by omega) (by decide) fun ws h3 s3 l3 lw dw => ?_
    rw [asS_lst, Option.map_some, okD_some, W_ok]
    exact settle_W (n := n) (rwD_below ⟨o, ps, ws, mn⟩) (s.trans s3) hn fun h4 s4 l4 => q ⟨o, ps, ws, mn⟩ h4 s4 l4 ⟨ho, hp, lp, dw, lw, hm⟩
theorem onerow_W {k n : Nat} {h : Hv} {Q : D → Hv → Prop} {E : Exn → Hv → Prop} (p : PoolAt n h)
    (q : ∀ (r : Rw) h', Same n h h' → h'.length = h.length → okR r → Q (rwD r) h') : (callF G F (k + 4) i__law_one_row false [.ref n, .int 3] h).W Q E := by
  refine call_W (fc := c__law_one_row) rfl rfl ?_
  have hn := pool_lt p
  have eb : c__law_one_row.body = c__law_one_row.body.take 2 ++ c__law_one_row.body.drop 2 := rfl
  rw [eb, SW_append]
  have rest := fun (o : Option Pt) (mn : Nat) h0 (s0 : Same n h h0) l0 hm ho => onerow_rest (k := k) (Q := Q) (E := E) (o := o) (mn := mn) hn s0 l0 hm ho q
  generalize c__law_one_row.body.drop 2 = tl at rest ⊢
  simp [c__law_one_row, startE, Hr.exec, ev, evs, evc]
  refine draw_W (many := 4) p (by decide) (by decide) fun v h1 s1 l1 v0 v1 => ?_
  obtain ⟨mn, rfl⟩ : ∃ i : Nat, v = i := ⟨v.toNat, by omega⟩
  have hmn : mn ≤ 3 := by omega
  refine draw_W (many := 4) s1.pool (by decide) (by decide) fun v h2 s2 l2 v0 v1 => ?_
  simp
  by_cases c : v = 0
  · subst c
    simp
    exact rest none mn h2 (s1.trans s2) (by omega) hmn fun p e => nomatch e
  · simp [c]
    refine partin_W s2.pool (by omega) fun pt h3 s3 l3 op => ?_
    exact rest (some pt) mn h3 ((s1.trans s2).trans s3) (by omega) hmn fun p e => by cases e; exact op
end Lw
set_option maxHeartbeats 4000000
namespace Lw
open PySem Hr
theorem settle_cellK {h h' : Hv} {m : Nat} {v : D} {Q : D → Hv → Prop} {E : Exn → Hv → Prop} (p : below 0 v = true) (hv : frz h' h.length (.ref m) = v) (k : kept h h') (q : Q v (h'.take h.length)) : (settle h (.ref m) h').W Q E := by
  have e : frz h' h.length (frz h' h.length (.ref m)) = v := by rw [hv, frz_pure v p]
  have := settle_pos (h := h) (h' := h') (d := .ref m) (by rw [e]; exact ⟨below_mono (Nat.zero_le _) v p, k⟩)
  rw [this, e, W_ok]
  exact q
theorem frz_lst {h : Hv} {n m : Nat} {ds : List D} (hm : n ≤ m) (e : h[m]? = some (.lst ds)) : frz h n (.ref m) = .lst ds := by
  show (if n ≤ m then (match h[m]? with
      | some (.lst ds) => D.lst ds
      | some (.dct ks vs) => .dct ks vs
      | _ => .ref m) else .ref m) = _
  rw [if_pos hm, e]
theorem frz_dct {h : Hv} {n m : Nat} {ks ds : List D} (hm : n ≤ m) (e : h[m]? = some (.dct ks ds)) : frz h n (.ref m) = .dct ks ds := by
  show (if n ≤ m then (match h[m]? with
      | some (.lst ds) => D.lst ds
      | some (.dct ks vs) => .dct ks vs
      | _ => .ref m) else .ref m) = _
  rw [if_pos hm, e]
theorem settle_cell {n m : Nat} {h h' : Hv} {ds : List D} {Q : D → Hv → Prop} {E : Exn → Hv → Prop} (p : belows 0 ds = true) (hm : h.length ≤ m) (e : h'[m]? = some (.lst ds)) (s : Same n h h') (hn : n < h.length) (q : ∀ h2, Same n h h2 → h2.length = h.length → Q (.lst ds) h2) : (settle h (.ref m) h').W Q E := by
  have s2 := settle_same (d := .non) rfl s hn
  exact settle_cellK (v := .lst ds) p (frz_lst hm e) s.kept (q _ s2.2 (by rw [List.length_take]; exact Nat.min_eq_left s.le))
theorem okR_never {w : Ws} (d : drawnW 7 1 w) : okR ⟨none, [⟨"a", [0]⟩], [w], 1⟩ where
  hd := fun p e => nomatch e
  bd := fun p hp => by
    rw [List.mem_singleton.mp hp]
    exact ⟨by simp [nmL], by decide +kernel, by decide, fun i hi => by rw [List.mem_singleton.mp hi]; exact Nat.one_pos⟩
  bl := by show 1 ≤ 2; decide
  ws := fun v hv => by rw [List.mem_singleton.mp hv]; exact d
  wl := by show 1 ≤ 3; decide
  mn := by show 1 ≤ 3; decide
theorem rws_below (l : List Rw) : belows 0 (l.map rwD) = true := belows_of fun d hd => by
  obtain ⟨w, _, rfl⟩ := List.mem_map.mp hd
  exact rwD_below w
theorem rows_W {k n : Nat} {h : Hv} {Q : D → Hv → Prop} {E : Exn → Hv → Prop} (p : PoolAt n h)
    (q : ∀ (rs : List Rw) h', Same n h h' → h'.length = h.length → 1 ≤ rs.length → rs.length ≤ 7 → (∀ r ∈ rs, okR r) → Q (.lst (rs.map rwD)) h') : (callF G F (k + 5) i__law_rows false [.ref n, .int 6] h).W Q E := by
  refine call_W (fc := c__law_rows) rfl rfl ?_
  have hn := pool_lt p
  simp [c__law_rows, startE, Hr.exec, ev, evs, evc]
  refine draw_W (many := 6) p (by decide) (by decide) fun v h1 s1 l1 v0 v1 => ?_
  simp only [binD_int, op_add, intD_some, W_ok]
  rw [rng_int (j := 1 + v) (by omega) (by omega)]
  simp only [W_ok]
  refine comp_W1 (l := List.range (1 + v).toNat) (enc := fun x : Nat => D.int (x : Int)) (fun l r h' => ∃ rs : List Rw, r = rs.map rwD ∧ Same n h h' ∧ h'.length = h.length ∧ rs.length + l.length = (1 + v).toNat ∧ ∀ p ∈ rs, okR p) ⟨[], rfl, s1, by omega, by simp, by simp⟩ (fun _ _ _ _ => trivial) ?_ ?_
  · rintro x l r h' ⟨rs, rfl, s, le, ll, hp⟩
    simp only [setT_nm, W_bind]
    refine onerow_W s.pool fun r0 h2 s2 l2 ok => ?_
    simp
    refine ⟨rs ++ [r0], by simp, s.trans s2, by omega, by simp at ll ⊢; omega, fun p hp' => ?_⟩
    rcases List.mem_append.mp hp' with hp' | hp'
    · exact hp p hp'
    · rw [List.mem_singleton.mp hp']; exact ok
  · rintro r h' ⟨rs, rfl, s, le, ll, hp⟩
    have l0 : 1 ≤ rs.length := by simp at ll; omega
    have l6 : rs.length ≤ 6 := by simp at ll; omega
    refine ⟨by rw [List.length_map]; exact size_of (by omega), ?_⟩
    have sp : Same n h (h' ++ [.lst (rs.map rwD)]) := s.trans (.push s.pool)
    refine draw_W (many := 2) sp.pool (by decide) (by decide) fun u h2 s2 l2 u0 u1 => ?_
    have e2 : h2[h'.length]? = some (.lst (rs.map rwD)) := by
      rw [s2.at_ _ (by simp) (by omega)]
      simp
    simp
    by_cases c : u = 0
    · subst c
      simp [ty_ref e2]
      refine ⟨rfl, ?_⟩
      refine wish_W (many := 1) s2.pool (by decide) fun w h3 s3 l3 dw => ?_
      have e3 : h3[h'.length]? = some (.lst (rs.map rwD)) := by
        rw [s3.at_ _ (getElem?_lt e2) (by omega)]
        exact e2
      rw [mt_append (t := .append) e3 (by rw [List.length_map]; omega)]
      simp
      have fin : List.map rwD rs ++ [D.tup [.non, .tup [.tup [.str "a", .tup [.int 0]]], .tup [wD w], .int 1]] = (rs ++ [(⟨none, [⟨"a", [0]⟩], [w], 1⟩ : Rw)]).map rwD := by simp [rwD, hdD, ptD, nsD]
      rw [fin]
      refine settle_cell (n := n) (rws_below _) (m := h'.length) (by omega) (List.getElem?_set_self (getElem?_lt e3)) ((sp.trans (s2.trans s3)).out (by omega) hn) hn fun h4 s4 l4 => q _ h4 s4 l4 (by simp) (by simp; omega) fun r hr => ?_
      rcases List.mem_append.mp hr with hr | hr
      · exact hp r hr
      · rw [List.mem_singleton.mp hr]; exact okR_never dw
    · simp [c]
      exact settle_cell (n := n) (rws_below _) (m := h'.length) (by omega) e2 (sp.trans s2) hn fun h4 s4 l4 => q _ h4 s4 l4 l0 (by omega) hp
end Lw
set_option maxHeartbeats 4000000
namespace Lw
open PySem Hr
/-! is_name, is_part of anything -/
def signs : Str := "abcdefghijklmnopqrstuvwxyz"
def low (c : Nat) : Bool := decide (97 ≤ c) && decide (c ≤ 122)
def nameB (s : Str) : Bool := decide (1 ≤ s.length) && (decide (s.length ≤ 8) && s.cps.toList.all low)
def nameD : D → Bool
  | .str s => nameB s
  | _ => false
theorem signs_mem (c : Nat) : c ∈ signs.cps.toList ↔ low c = true := by
  have e : signs.cps.toList = List.range' 97 26 := by decide +kernel
  rw [e, List.mem_range'_1]
  unfold low
  rw [Bool.and_eq_true, decide_eq_true_eq, decide_eq_true_eq]
  omega
theorem in_signs {h : Hv} {c : Nat} : cmpD .In (.str ⟨#[c]⟩) (.str signs) h = .ok (.bl (low c)) h := by
  have e : strIn ⟨#[c]⟩ signs = low c := by
    show (!(Builtin.Str.occurrences signs ⟨#[c]⟩ 0 signs.length 1).isEmpty) = _
    rw [StrLaws.found_one]
    cases z : low c with
    | true => exact decide_eq_true ((signs_mem c).mpr z)
    | false => exact decide_eq_false fun m => by rw [(signs_mem c).mp m] at z; cases z
  show Rs.ok (D.bl (strIn ⟨#[c]⟩ signs)) h = _
  rw [e]
theorem le_a {h : Hv} {c : Nat} : cmpD .LtE (.str "a") (.str ⟨#[c]⟩) h = .ok (.bl (decide (97 ≤ c))) h := by
  show Rs.ok (D.bl (!decide ((#[c] : Array Nat).toList < (PySem.Str.ofString "a").cps.toList))) h = _
  have e : (PySem.Str.ofString "a").cps.toList = [97] := by decide +kernel
  rw [e]
  have : (!decide (([c] : List Nat) < [97])) = decide (97 ≤ c) := by
    by_cases d : 97 ≤ c
    · rw [decide_eq_true d, decide_eq_false]
      · rfl
      · intro z
        rw [List.cons_lt_cons_iff] at z
        rcases z with z | ⟨_, z⟩
        · omega
        · exact absurd z (List.not_lt_nil _)
    · rw [decide_eq_false d, decide_eq_true]
      · rfl
      · rw [List.cons_lt_cons_iff]
        exact .inl (by omega)
  rw [show (#[c] : Array Nat).toList = [c] from rfl, this]
theorem le_z {h : Hv} {c : Nat} : cmpD .LtE (.str ⟨#[c]⟩) (.str "z") h = .ok (.bl (decide (c ≤ 122))) h := by
  show Rs.ok (D.bl (!decide ((PySem.Str.ofString "z").cps.toList < (#[c] : Array Nat).toList))) h = _
  have e : (PySem.Str.ofString "z").cps.toList = [122] := by decide +kernel
  rw [e]
  have : (!decide (([122] : List Nat) < [c])) = decide (c ≤ 122) := by
    by_cases d : c ≤ 122
    · rw [decide_eq_true d, decide_eq_false]
      · rfl
      · intro z
        rw [List.cons_lt_cons_iff] at z
        rcases z with z | ⟨_, z⟩
        · omega
        · exact absurd z (List.not_lt_nil _)
    · rw [decide_eq_false d, decide_eq_true]
      · rfl
      · rw [List.cons_lt_cons_iff]
        exact .inl (by omega)
  rw [show (#[c] : Array Nat).toList = [c] from rfl, this]
theorem cps_len (s : Str) : s.cps.toList.length = s.length := by show _ = s.cps.size; simp
theorem isname_W {k : Nat} {h : Hv} {d : D} {Q : D → Hv → Prop} {E : Exn → Hv → Prop} (b : below 0 d = true) (hs : ∀ s, d = .str s → s.length ≤ 1000) (q : Q (.bl (nameD d)) h) : (callF G F (k + 1) i_is_name false [d] h).W Q E := by
  refine call_W (fc := c_is_name) rfl rfl ?_
  have g1 : G 1 = .str signs := rfl
  have g2 : G 2 = .int 8 := rfl
  simp [c_is_name, startE, Hr.exec, ev, evs, evc, ty_str2 b]
  cases d with
  | str s =>
    have ln := hs s rfl
    have len : ∀ h, lenD h (.str s) = some s.length := fun h => if_pos (size_of (by omega))
    simp [isStr, len, g1, g2]
    by_cases c : 1 ≤ s.length ∧ s.length ≤ 8
    · have e1 : decide ((1 : Int) ≤ (s.length : Int)) = true := decide_eq_true (by omega)
      have e2 : decide ((s.length : Int) ≤ 8) = true := decide_eq_true (by omega)
      simp [e1, e2]
      have ll := cps_len s
      refine comp_to (enc := fun c : Nat => D.str ⟨#[c]⟩) (en2 := D.bl) s.cps.toList low trivial (fun c hc => ?_) ?_
      · simp [in_signs]
      · refine ⟨by rw [List.length_map, List.length_map]; exact size_of (by omega), ?_⟩
        rw [trs_bls]
        have e3 : (s.cps.toList.map low).all id = nameB s := by
          unfold nameB
          rw [decide_eq_true c.1, decide_eq_true c.2, List.all_map]
          rfl
        simp only [Option.map_some, okD_some, W_ok, e3]
        exact settle_W0 rfl q
    · have e3 : nameD (.str s) = false := by
        show nameB s = false
        unfold nameB
        by_cases c1 : 1 ≤ s.length
        · rw [decide_eq_true c1, decide_eq_false (fun z => c ⟨c1, z⟩)]; rfl
        · rw [decide_eq_false c1]; rfl
      rw [e3] at q
      by_cases c1 : 1 ≤ s.length
      · have e1 : decide ((1 : Int) ≤ (s.length : Int)) = true := decide_eq_true (by omega)
        have e2 : decide ((s.length : Int) ≤ 8) = false := decide_eq_false (by omega)
        simp [e1, e2]
        exact settle_W0 rfl q
      · have e1 : decide ((1 : Int) ≤ (s.length : Int)) = false := decide_eq_false (by omega)
        simp [e1]
        exact settle_W0 rfl q
  | _ => simp [isStr]; exact settle_W0 rfl q
theorem nameso_W {k : Nat} {h : Hv} {d : D} {Q : D → Hv → Prop} {E : Exn → Hv → Prop} (b : below 0 d = true) (hs : ∀ s, d = .str s → s.length ≤ 1000) (q : Q (.bl (nameD d)) h) : (callF G F (k + 1) i__law_name_so false [d] h).W Q E := by
  refine call_W (fc := c__law_name_so) rfl rfl ?_
  simp [c__law_name_so, startE, Hr.exec, ev, evs, evc, ty_str2 b]
  cases d with
  | str s =>
    have ln := hs s rfl
    have len : ∀ h, lenD h (.str s) = some s.length := fun h => if_pos (size_of (by omega))
    simp [isStr, len]
    by_cases c : 1 ≤ s.length ∧ s.length ≤ 8
    · have e1 : decide ((1 : Int) ≤ (s.length : Int)) = true := decide_eq_true (by omega)
      have e2 : decide ((s.length : Int) ≤ 8) = true := decide_eq_true (by omega)
      simp [e1, e2]
      have ll := cps_len s
      refine comp_pick (enc := fun c : Nat => D.str ⟨#[c]⟩) s.cps.toList (fun c => !low c) trivial (fun c hc => ?_) ?_
      · simp [le_a, le_z]
        unfold low
        cases decide (97 ≤ c) <;> cases decide (c ≤ 122) <;> simp
      · have lf := List.length_filter_le (fun c => !low c) s.cps.toList
        refine ⟨by rw [List.length_map]; exact size_of (by omega), ?_⟩
        rw [cmpD_eq, eqD_nilG]
        have e3 : ((s.cps.toList.filter fun c => !low c).map fun c : Nat => D.str ⟨#[c]⟩).isEmpty = nameB s := by
          unfold nameB
          rw [decide_eq_true c.1, decide_eq_true c.2]
          show _ = s.cps.toList.all low
          generalize s.cps.toList = l
          induction l with
          | nil => rfl
          | cons a l ih =>
            rw [List.filter_cons, List.all_cons]
            cases low a
            · rfl
            · exact ih
        rw [e3]
        simp only [blD_some, W_ok]
        exact settle_W0 rfl q
    · have e3 : nameD (.str s) = false := by
        show nameB s = false
        unfold nameB
        by_cases c1 : 1 ≤ s.length
        · rw [decide_eq_true c1, decide_eq_false (fun z => c ⟨c1, z⟩)]; rfl
        · rw [decide_eq_false c1]; rfl
      rw [e3] at q
      by_cases c1 : 1 ≤ s.length
      · have e1 : decide ((1 : Int) ≤ (s.length : Int)) = true := decide_eq_true (by omega)
        have e2 : decide ((s.length : Int) ≤ 8) = false := decide_eq_false (by omega)
        simp [e1, e2]
        exact settle_W0 rfl q
      · have e1 : decide ((1 : Int) ≤ (s.length : Int)) = false := decide_eq_false (by omega)
        simp [e1]
        exact settle_W0 rfl q
  | _ => simp [isStr]; exact settle_W0 rfl q
end Lw
set_option maxHeartbeats 4000000
namespace Lw
open PySem Hr
/-! is_part of anything -/
def inM (m : Int) : D → Bool
  | .int i => decide (0 ≤ i) && decide (i < m)
  | _ => false
def intOf : D → Int
  | .int i => i
  | _ => 0
def partD (m : Int) : D → Bool
  | .tup [n, .tup ls] => nameD n && (decide (ls.length ≤ 4) && (ls.all (inM m) && decide ((ls.map intOf).Nodup)))
  | _ => false
theorem partD_len {m : Int} {ds : List D} (h : ds.length ≠ 2) : partD m (.tup ds) = false := by
  unfold partD
  split
  · rename_i e
    injection e with e
    subst e
    exact absurd rfl h
  · rfl
/-- not too long: a text, a tuple -/
structure Sm (d : D) : Prop where
  st : ∀ s, d = .str s → s.length ≤ 1000
  tu : ∀ ds, d = .tup ds → ds.length ≤ 1000
structure SmP (d : D) : Prop extends Sm d where
  el : ∀ ds, d = .tup ds → ∀ e ∈ ds, Sm e
theorem inM_ints {m : Int} : ∀ {ls : List D}, ls.all (inM m) = true → ls = (ls.map intOf).map .int
  | [], _ => rfl
  | d :: ls, h => by
    rw [List.all_cons, Bool.and_eq_true] at h
    cases d with
    | int i => exact congrArg (D.int i :: ·) (inM_ints h.2)
    | _ => exact absurd h.1 (by simp [inM])
theorem intsD_map : ∀ xs : List Int, intsD (xs.map .int) = some xs
  | [] => rfl
  | x :: xs => by
    show (intsD (xs.map .int)).map _ = _
    rw [intsD_map xs]
    rfl
theorem dedup_sub : ∀ l : List Int, (dedup l).Sublist l
  | [] => List.Sublist.refl _
  | i :: r => (List.filter_sublist.trans (dedup_sub r)).cons₂ i
theorem dedup_len {l : List Int} : ((dedup l).length = l.length) ↔ l.Nodup :=
  ⟨fun h => by rw [← (dedup_sub l).eq_of_length h]; exact dedup_nodup l, fun h => len_same (dedup_nodup l) h fun _ => dedup_mem⟩
theorem lenset_eq {m : Bool} {h : Hv} {xs : List Int} (hl : xs.length < 64) : opD m .lenset [.tup (xs.map .int)] h = .ok (.int ((dedup xs).length : Nat)) h := by
  show okD ((intsD (xs.map .int)).bind fun ns => if ns.length < 64 then some (.int (dedup ns).length) else none) h = _
  rw [intsD_map]
  show okD (if xs.length < 64 then some (.int (dedup xs).length) else none) h = _
  rw [if_pos hl]
  rfl
theorem len_tupS {h : Hv} {ds : List D} (hl : ds.length ≤ 1000) : lenD h (.tup ds) = some ds.length := rfl
theorem ispart_W {k : Nat} {h : Hv} {d : D} {m : Nat} {Q : D → Hv → Prop} {E : Exn → Hv → Prop} (b : below 0 d = true) (sm : SmP d) (q : Q (.bl (partD (m : Int) d)) h) : (callF G F (k + 2) i_is_part false [d, .int (m : Int)] h).W Q E := by
  refine call_W (fc := c_is_part) rfl rfl ?_
  have g4 : G 4 = .int 4 := rfl
  simp [c_is_part, startE, Hr.exec, ev, evs, evc, ty_tup2 b]
  cases d with
  | tup ds =>
    simp [isTup]
    match ds, b, sm, q with
    | [n, l], b, sm, q =>
      have bn : below 0 n = true := below_mem b n (by simp)
      have bl : below 0 l = true := below_mem b l (by simp)
      have sn := sm.el _ rfl n (by simp)
      have sl := sm.el _ rfl l (by simp)
      have i0 : idxD h (.tup [n, l]) (.int 0) = some n := rfl
      have i1 : idxD h (.tup [n, l]) (.int 1) = some l := rfl
      simp [cmpD_ne, eqD_int, i0, i1]
      refine isname_W bn sn.st ?_
      cases en : nameD n with
      | false =>
        have e : partD (m : Int) (.tup [n, l]) = false := by
          unfold partD
          split
          · rename_i z; injection z with z; injection z with z1 z2; subst z1; rw [en]; rfl
          · rfl
        rw [e] at q
        simp
        exact settle_W0 rfl q
      | true =>
        simp [ty_tup2 bl]
        cases l with
        | tup ls =>
          have ll := sl.tu ls rfl
          have ep : partD (m : Int) (.tup [n, .tup ls]) = (decide (ls.length ≤ 4) && (ls.all (inM m) && decide ((ls.map intOf).Nodup))) := by
            show (nameD n && _) = _
            rw [en, Bool.true_and]
          rw [ep] at q
          simp [isTup, g4]
          by_cases c4 : ls.length ≤ 4
          · have e4 : ¬ ((4 : Int) < (ls.length : Int)) := by omega
            rw [if_neg e4]
            refine comp_idTo (en2 := D.bl) ls (inM (m : Int)) trivial (fun x hx => ?_) ?_
            · have bx : below 0 x = true := below_mem bl x hx
              have w1 := whole2_ok (k := k) (h := h) bx
              simp [w1]
              cases x with
              | int i =>
                simp [isInt, inM]
                by_cases c0 : 0 ≤ i <;> simp [c0]
              | _ => simp [isInt, inM]
            · refine ⟨by rw [List.length_map, List.length_map]; exact size_of (by omega), ?_⟩
              rw [trs_bls]
              have ea : (ls.map (inM (m : Int))).all id = ls.all (inM m) := by rw [List.all_map]; rfl
              simp only [Option.map_some, okD_some, W_ok, ea]
              cases ei : ls.all (inM (m : Int)) with
              | false =>
                rw [ei, decide_eq_true c4] at q
                simp
                exact settle_W0 rfl q
              | true =>
                rw [ei, decide_eq_true c4] at q
                have els := inM_ints ei
                have lx : (ls.map intOf).length < 64 := by rw [List.length_map]; omega
                have ls1 := lenset_eq (m := false) (h := h) lx
                rw [← els] at ls1
                simp [ls1, cmpD_eq, eqD_int]
                have e5 : decide (((dedup (ls.map intOf)).length : Int) = (ls.length : Int)) = decide ((ls.map intOf).Nodup) := by
                  refine decide_eq_decide.mpr ?_
                  rw [← dedup_len, List.length_map]
                  omega
                rw [Bool.true_and, Bool.true_and] at q
                rw [e5]
                exact settle_W0 rfl q
          · have e4 : (4 : Int) < (ls.length : Int) := by omega
            rw [decide_eq_false c4] at q
            rw [if_pos e4, if_pos e4]
            exact settle_W0 rfl q
        | _ => simp [isTup]; exact settle_W0 rfl q
    | [], b, sm, q => simp [cmpD_ne, eqD_int]; exact settle_W0 rfl q
    | [x], b, sm, q => simp [cmpD_ne, eqD_int]; exact settle_W0 rfl q
    | x :: y :: z :: r, b, sm, q =>
      simp [cmpD_ne, eqD_int]
      rw [if_neg (by omega)]
      rw [partD_len (by simp)] at q
      exact settle_W0 rfl q
  | _ => simp [isTup]; exact settle_W0 rfl q
end Lw
set_option maxHeartbeats 4000000
namespace Lw
open PySem Hr
/-! the law's own look at a part -/
def inR (lo hi : Int) : D → Bool
  | .int i => decide (lo ≤ i) && decide (i ≤ hi)
  | _ => false
theorem lawwhole_W {k : Nat} {h : Hv} {d : D} {lo hi : Int} {Q : D → Hv → Prop} {E : Exn → Hv → Prop} (b : below 0 d = true) (q : Q (.bl (inR lo hi d)) h) : (callF G F (k + 1) i__law_whole false [d, .int lo, .int hi] h).W Q E := by
  refine call_W (fc := c__law_whole) rfl rfl ?_
  simp [c__law_whole, startE, Hr.exec, ev, evs, evc, ty_int2 b, ty_bool2 b]
  cases d with
  | int i =>
    by_cases c : lo ≤ i <;> simp [c]
    · refine settle_W0 rfl ?_
      have e : inR lo hi (.int i) = decide (i ≤ hi) := by show (decide (lo ≤ i) && decide (i ≤ hi)) = _; rw [decide_eq_true c, Bool.true_and]
      rw [e] at q
      exact q
    · refine settle_W0 rfl ?_
      have e : inR lo hi (.int i) = false := by show (decide (lo ≤ i) && decide (i ≤ hi)) = _; rw [decide_eq_false c, Bool.false_and]
      rw [e] at q
      exact q
  | _ => simp; exact settle_W0 rfl q
theorem inR_M (m : Int) : inR 0 (m - 1) = inM m := by
  funext d
  cases d with
  | int i =>
    show (decide (0 ≤ i) && decide (i ≤ m - 1)) = (decide (0 ≤ i) && decide (i < m))
    rw [show decide (i ≤ m - 1) = decide (i < m) from decide_eq_decide.mpr (by omega)]
  | _ => rfl
theorem toP_ints {h : Hv} {xs : List Int} : toP h (.tup (xs.map .int)) = some (.tuple (xs.map .int)) := by
  show (strips _ (xs.map .int)).map PyData.tuple = _
  rw [strips_ints]
  rfl
theorem shp_ints (xs : List Int) : shp (.tuple (xs.map .int)) = true := by
  show (PyData.plainAll (xs.map .int) && decide (PyData.depthAll (xs.map .int) + 1 ≤ 60)) = true
  rw [lay_ints, dep_ints]
  rfl
theorem any_ints {i : Int} : ∀ xs : List Int, (xs.map PyData.int).any (fun z => PyData.eqv z (.int i)) = decide (i ∈ xs)
  | [] => rfl
  | x :: xs => by
    rw [List.map_cons, List.any_cons, any_ints xs]
    show ((x == i) || _) = _
    by_cases c : x = i
    · subst c; simp
    · have c' : ¬ i = x := fun e => c e.symm
      simp [c, c']
theorem in_ints {h : Hv} {i : Int} {xs : List Int} : cmpD .In (.int i) (.tup (xs.map .int)) h = .ok (.bl (decide (i ∈ xs))) h := by
  have e : inD h (.int i) (.tup (xs.map .int)) = some (decide (i ∈ xs)) := by
    show (toP h (.int i)).bind (fun a => (toP h (.tup (xs.map .int))).bind fun b => inP a b) = _
    rw [toP_ints]
    show (if (shp (.int i) && shp (.tuple (xs.map .int))) = true then some ((xs.map PyData.int).any fun z => PyData.eqv z (.int i)) else none) = _
    rw [shp_ints, any_ints]
    rfl
  show blD (inD h (.int i) (.tup (xs.map .int))) h = _
  rw [e]
  rfl
theorem cut_pre {α : Type} {xs : List α} {n : Nat} : cutB xs none (some (n : Int)) = xs.take n := by
  unfold cutB
  have e1 : HT.sIx xs.length 0 none = 0 := rfl
  have e2 : HT.sIx xs.length xs.length (some (n : Int)) = min n xs.length := by
    show (if (n : Int) < 0 then ((n : Int) + (xs.length : Int)).toNat else min (n : Int).toNat xs.length) = _
    rw [if_neg (by omega)]
    rfl
  rw [e1, e2, List.drop_zero, Nat.sub_zero, List.take_eq_take_iff]
  omega
/-- what the law's last comprehension keeps -/
def again (xs : List Int) : D → Option D
  | .tup [.int n, .int u] => if u ∈ xs.take n.toNat then some (.int u) else none
  | _ => none
theorem again_nil (xs : List Int) : decide ((((xs.map D.int).mapIdx fun (n : Nat) u => D.tup [.int (n : Int), u]).filterMap (again xs)).length = 0) = decide xs.Nodup := by
  refine decide_eq_decide.mpr ?_
  rw [List.length_eq_zero_iff, List.filterMap_eq_nil_iff]
  constructor
  · intro k
    refine List.pairwise_iff_getElem.mpr fun i j hi hj ij e => ?_
    have := k (.tup [.int (j : Int), .int xs[j]]) (List.mem_mapIdx.mpr ⟨j, by simpa using hj, by simp⟩)
    unfold again at this
    simp only at this
    rw [if_pos] at this
    · cases this
    · rw [Int.toNat_natCast, ← e]
      exact List.mem_take_iff_getElem.mpr ⟨i, by omega, rfl⟩
  · intro nd a ha
    obtain ⟨j, hj, e⟩ := List.mem_mapIdx.mp ha
    have hj' : j < xs.length := by simpa using hj
    simp at e
    subst e
    show (if xs[j] ∈ xs.take ((j : Int)).toNat then some (D.int xs[j]) else none) = none
    rw [if_neg]
    intro z
    rw [Int.toNat_natCast] at z
    obtain ⟨i, hi, e⟩ := List.mem_take_iff_getElem.mp z
    exact List.pairwise_iff_getElem.mp nd i j (by omega) hj' (by omega) e
theorem enum_tup {h : Hv} {xs : List D} : enumF (.tup xs) h = .ok ⟨xs.mapIdx fun n u => .tup [.int (n : Nat), u], fun _ => True⟩ h := rfl
theorem filt_nil {p : D → Bool} : ∀ ls : List D, (ls.filter fun x => !p x).isEmpty = ls.all p
  | [] => rfl
  | x :: ls => by
    rw [List.filter_cons, List.all_cons]
    cases p x
    · rfl
    · exact filt_nil ls
theorem partso_W {k : Nat} {h : Hv} {d : D} {m : Nat} {Q : D → Hv → Prop} {E : Exn → Hv → Prop} (b : below 0 d = true) (sm : SmP d) (q : Q (.bl (partD (m : Int) d)) h) : (callF G F (k + 2) i__law_part_so false [d, .int (m : Int)] h).W Q E := by
  refine call_W (fc := c__law_part_so) rfl rfl ?_
  simp [c__law_part_so, startE, Hr.exec, ev, evs, evc, ty_tup2 b]
  cases d with
  | tup ds =>
    simp [isTup]
    match ds, b, sm, q with
    | [n, l], b, sm, q =>
      have bn : below 0 n = true := below_mem b n (by simp)
      have bl : below 0 l = true := below_mem b l (by simp)
      have sn := sm.el _ rfl n (by simp)
      have sl := sm.el _ rfl l (by simp)
      have i0 : idxD h (.tup [n, l]) (.int 0) = some n := rfl
      have i1 : ∀ h, idxD h (.tup [n, l]) (.int 1) = some l := fun _ => rfl
      simp [cmpD_ne, eqD_int, i0, i1]
      refine nameso_W bn sn.st ?_
      cases en : nameD n with
      | false =>
        have e : partD (m : Int) (.tup [n, l]) = false := by
          unfold partD
          split
          · rename_i z; injection z with z; injection z with z1 z2; subst z1; rw [en]; rfl
          · rfl
        rw [e] at q
        simp
        exact settle_W0 rfl q
      | true =>
        simp [ty_tup2 bl]
        cases l with
        | tup ls =>
          have ll := sl.tu ls rfl
          have ep : partD (m : Int) (.tup [n, .tup ls]) = (decide (ls.length ≤ 4) && (ls.all (inM m) && decide ((ls.map intOf).Nodup))) := by
            show (nameD n && _) = _
            rw [en, Bool.true_and]
          rw [ep] at q
          simp [isTup]
          by_cases c4 : ls.length ≤ 4
          · have e4 : ¬ ((4 : Int) < (ls.length : Int)) := by omega
            rw [decide_eq_true c4, Bool.true_and] at q
            rw [if_neg e4]
            refine comp_idP ls (fun x => !inM (m : Int) x) trivial (fun x hx => ?_) ?_
            · have bx : below 0 x = true := below_mem bl x hx
              simp
              refine lawwhole_W bx ?_
              rw [inR_M]
              cases inM (m : Int) x <;> simp
            · have lf := List.length_filter_le (fun x => !inM (m : Int) x) ls
              refine ⟨size_of (by omega), ?_⟩
              rw [eqD_nilG, filt_nil]
              cases ei : ls.all (inM m) with
              | false =>
                rw [ei] at q
                simp
                exact settle_W0 rfl q
              | true =>
                rw [ei, Bool.true_and] at q
                have els := inM_ints ei
                generalize ls.map intOf = xs at els q
                subst els
                simp [enum_tup, -List.map_map]
                refine comp_id _ (again xs) trivial (fun x hx => ?_) ?_
                · obtain ⟨j, hj, rfl⟩ := List.mem_mapIdx.mp hx
                  have hj' : j < xs.length := by simpa using hj
                  have c1 : List.take j (xs.map D.int) = (xs.take j).map .int := List.map_take.symm
                  have ag : again xs (D.tup [D.int (j : Int), D.int xs[j]]) = if xs[j] ∈ xs.take j then some (.int xs[j]) else none := rfl
                  simp [evo, ev, optI, asI, cut_pre, c1, in_ints, ag, -List.map_take]
                · have lf : (List.filterMap (again xs) (List.mapIdx (fun n u => D.tup [D.int (n : Int), u]) (List.map D.int xs))).length ≤ 1000 := by
                    have := List.length_filterMap_le (again xs) (List.mapIdx (fun n u => D.tup [D.int (n : Int), u]) (List.map D.int xs))
                    rw [List.length_mapIdx] at this
                    omega
                  refine ⟨size_of (by omega), ?_⟩
                  have e6 := again_nil xs
                  rw [show ∀ n : Nat, ((n : Int) == 0) = decide (n = 0) from fun n => by cases n <;> simp <;> omega, e6]
                  exact settle_W0 rfl q
          · have e4 : (4 : Int) < (ls.length : Int) := by omega
            rw [decide_eq_false c4] at q
            rw [if_pos e4, if_pos e4]
            exact settle_W0 rfl q
        | _ => simp [isTup]; exact settle_W0 rfl q
    | [], b, sm, q => simp [cmpD_ne, eqD_int]; exact settle_W0 rfl q
    | [x], b, sm, q => simp [cmpD_ne, eqD_int]; exact settle_W0 rfl q
    | x :: y :: z :: r, b, sm, q =>
      simp [cmpD_ne, eqD_int]
      rw [if_neg (by omega)]
      rw [partD_len (by simp)] at q
      exact settle_W0 rfl q
  | _ => simp [isTup]; exact settle_W0 rfl q
end Lw
set_option maxHeartbeats 4000000
namespace Lw
open PySem Hr
/-! the law's own look at a wish -/
theorem wish_no {many : Nat} {fs : List D} {p w : D} (h : (fs ++ [p]).all isInt = false) : isW many (.tup [.tup fs, p, w]) = false := by
  rw [List.all_append, List.all_cons, List.all_nil, Bool.and_true] at h
  cases w with
  | str s =>
    show (decide (fs.length = many) && fs.all isInt && isInt p && wordB s) = false
    rw [Bool.and_assoc (decide (fs.length = many)), h, Bool.and_false, Bool.false_and]
  | _ => rfl
theorem wish_yes {many : Nat} {fs : List D} {p : D} {s : Str} (c : fs.length = many) (h : (fs ++ [p]).all isInt = true) : isW many (.tup [.tup fs, p, .str s]) = wordB s := by
  rw [List.all_append, List.all_cons, List.all_nil, Bool.and_true] at h
  show (decide (fs.length = many) && fs.all isInt && isInt p && wordB s) = wordB s
  rw [Bool.and_assoc (decide (fs.length = many)), h, decide_eq_true c, Bool.true_and, Bool.true_and]
theorem loop_WD {g : Hv → Prop} {f : D → En → Hv → So} {P : Po} (I : List D → En → Hv → Prop) (hg : ∀ l env h, I l env h → g h)
    (step : ∀ x l env h, I (x :: l) env h → (f x env h).W { P with nx := fun env h => I l env h, ct := fun env h => I l env h, bk := P.nx })
    (fin : ∀ env h, I [] env h → P.nx env h) (l : List D) (env : En) (h : Hv) (i : I l env h) : (loopF g f l env h).W P := by
  have := loop_W (enc := fun x : D => x) I hg step fin l env h i
  rwa [List.map_id'] at this
def wds : List D := [.str "least", .str "above", .str "most"]
theorem rep_w {h : Hv} {s t : Str} (b : strB s = true) (e : (pd (.str s)).shown = t) : reprD h (.str s) = some (.str t) := by rw [← e]; exact reprD_ok b (Nat.zero_le _) (show (150 : Nat) ≤ _ by decide)
theorem rep_least {h : Hv} : reprD h (.str "least") = some (.str "'least'") := rep_w (by decide +kernel) (by decide +kernel)
theorem rep_above {h : Hv} : reprD h (.str "above") = some (.str "'above'") := rep_w (by decide +kernel) (by decide +kernel)
theorem rep_most {h : Hv} : reprD h (.str "most") = some (.str "'most'") := rep_w (by decide +kernel) (by decide +kernel)
theorem in_q {h : Hv} {s : Str} : cmpD .In (.str s) (.lst [.str "'least'", .str "'above'"]) h = .ok (.bl ([PyData.str "'least'", PyData.str "'above'"].any fun z => PyData.eqv z (.str s))) h := rfl
theorem wishso_W {k : Nat} {h : Hv} {many : Nat} {d : D} {Q : D → Hv → Prop} {E : Exn → Hv → Prop} (b : below 0 d = true) (sz : ∀ ds, d = .tup ds → ∀ fs, .tup fs ∈ ds → fs.length ≤ 1000) (hw : ∀ a p w, d = .tup [a, p, w] → w ∈ wds) (q : Q (.bl (isW many d)) h) : (callF G F (k + 2) i__law_wish_so false [d, .int many] h).W Q E := by
  refine call_W (fc := c__law_wish_so) rfl rfl ?_
  have hs : ∀ b, b = isW many d → (settle h (.bl b) h).W Q E := fun b e => settle_W0 rfl (by rw [e]; exact q)
  simp [c__law_wish_so, startE, Hr.exec, ev, evs, evc, ty_tup2 b]
  cases d with
  | tup ds =>
    match ds, b, sz, hw, hs with
    | [a, p, w], b, sz, hw, hs =>
      have ba : below 0 a = true := below_mem b a (by simp)
      have bp : below 0 p = true := below_mem b p (by simp)
      have i0 : idxD h (.tup [a, p, w]) (.int 0) = some a := rfl
      have i1 : idxD h (.tup [a, p, w]) (.int 1) = some p := rfl
      have i2 : idxD h (.tup [a, p, w]) (.int 2) = some w := rfl
      simp [isTup, cmpD_ne, eqD_int, i0, i1, ty_tup2 ba]
      cases a with
      | tup fs =>
        have lf := sz _ rfl fs (by simp)
        by_cases c : fs.length = many
        · simp [c, cmpD_ne, eqD_int]
          have ad : binD false .Add (.tup fs) (.tup [p]) h = .ok (.tup (fs ++ [p])) h := if_pos ⟨rfl, size_of (by simp; omega)⟩
          rw [ad]
          have bl : ∀ x ∈ fs ++ [p], below 0 x = true := fun x hx => by
            rcases List.mem_append.mp hx with hx | hx
            · exact below_mem (show belows 0 fs = true from ba) x hx
            · rw [List.mem_singleton.mp hx]; exact bp
          generalize eL : fs ++ [p] = L at bl ⊢
          simp
          refine loop_WD (fun l env h' => h' = h ∧ (∃ x, env = [some (.tup [.tup fs, p, w]), some (.int many), x]) ∧ (∀ y ∈ l, below 0 y = true) ∧ l.all isInt = L.all isInt) (fun _ _ _ _ => trivial) ?_ ?_ _ _ _ ⟨rfl, ⟨_, rfl⟩, bl, rfl⟩
          · rintro x l env h' ⟨rfl, ⟨x0, rfl⟩, bl, al⟩
            have bx := bl x (by simp)
            simp [Hr.exec, ev, evs, evc, ty_int2 bx, ty_bool2 bx]
            have no : isInt x = false → (Hr.settle h' (.bl false) h').W Q E := fun e => hs _ (by
              rw [List.all_cons, e, Bool.false_and] at al
              rw [wish_no]
              rw [eL]
              exact al.symm)
            have yes : isInt x = true → (∀ y ∈ l, below 0 y = true) ∧ l.all isInt = L.all isInt := fun e => by
              rw [List.all_cons, e, Bool.true_and] at al
              exact ⟨fun y hy => bl y (List.mem_cons_of_mem _ hy), al⟩
            cases x with
            | int i =>
              have y := yes rfl
              simp
              exact ⟨y.1, by simpa using y.2⟩
            | _ => simp; exact no rfl
          · rintro env h' ⟨rfl, ⟨x0, rfl⟩, _, al⟩
            rw [List.all_nil] at al
            simp [i2]
            have w3 := hw _ _ _ rfl
            simp only [wds, List.mem_cons, List.not_mem_nil, or_false] at w3
            rcases w3 with rfl | rfl | rfl
            all_goals
              simp only [rep_least, rep_above, rep_most, okD_some, W_ok, in_q]
              refine hs _ ?_
              rw [wish_yes c (by rw [eL]; exact al.symm)]
              decide +kernel
        · have c' : ¬ (fs.length : Int) = many := by omega
          simp [c, c', cmpD_ne, eqD_int, i0]
          exact hs _ (by cases w <;> simp [isW, c])
      | _ =>
        simp [isTup]
        exact hs _ rfl
    | [], b, sz, hw, hs => simp [isTup, cmpD_ne, eqD_int]; exact hs _ (isW_len (by simp)).symm
    | [_], b, sz, hw, hs => simp [isTup, cmpD_ne, eqD_int]; exact hs _ (isW_len (by simp)).symm
    | [_, _], b, sz, hw, hs => simp [isTup, cmpD_ne, eqD_int]; exact hs _ (isW_len (by simp)).symm
    | _ :: _ :: _ :: _ :: r, b, sz, hw, hs =>
      have : ¬ ((r.length : Int) + 1 + 1 + 1 + 1 = 3) := by omega
      simp [isTup, cmpD_ne, eqD_int, this]
      exact hs _ (isW_len (by simp)).symm
  | _ =>
    simp [isTup]
    exact hs _ rfl
end Lw
set_option maxHeartbeats 4000000
namespace Lw
open PySem Hr
/-! is_row of anything, and the law's own look -/
def ptsD (hd : D) (bd : List D) : List D := if isNon hd then bd else hd :: bd
def rowC (hd : D) (bd ws : List D) (m : Int) : Bool := (decide (0 ≤ m) && decide (m ≤ 10)) && (decide (bd.length ≤ 2) && (decide (ws.length ≤ 6) && ((ptsD hd bd).all (partD m) && ws.all (isW m.toNat))))
def rowD : D → Bool
  | .tup [hd, .tup bd, .tup ws, .int m] => rowC hd bd ws m
  | _ => false
theorem rowD_len {ds : List D} (h : ds.length ≠ 4) : rowD (.tup ds) = false := by
  unfold rowD
  split
  · rename_i e
    injection e with e
    subst e
    exact absurd rfl h
  · rfl
theorem rowD_m {a b c m : D} (h : isInt m = false) : rowD (.tup [a, b, c, m]) = false := by
  unfold rowD
  split
  · rename_i e
    injection e with e
    injection e with _ e
    injection e with _ e
    injection e with _ e
    injection e with e _
    subst e
    cases h
  · rfl
theorem rowD_b {a b c m : D} (h : isTup b = false) : rowD (.tup [a, b, c, m]) = false := by
  unfold rowD
  split
  · rename_i e
    injection e with e
    injection e with _ e
    injection e with e _
    subst e
    cases h
  · rfl
theorem rowD_c {a b c m : D} (h : isTup c = false) : rowD (.tup [a, b, c, m]) = false := by
  unfold rowD
  split
  · rename_i e
    injection e with e
    injection e with _ e
    injection e with _ e
    injection e with e _
    subst e
    cases h
  · rfl
structure WOk (w : D) : Prop where
  sz : ∀ ds, w = .tup ds → ∀ fs, .tup fs ∈ ds → fs.length ≤ 1000
  wd : ∀ a p z, w = .tup [a, p, z] → z ∈ wds
structure RowOk (d : D) : Prop where
  b : below 0 d = true
  hd : ∀ a b c m, d = .tup [a, b, c, m] → SmP a
  bd : ∀ a b c m, d = .tup [a, .tup b, c, m] → b.length ≤ 1000 ∧ ∀ x ∈ b, SmP x
  ws : ∀ a b c m, d = .tup [a, b, .tup c, m] → c.length ≤ 1000 ∧ ∀ x ∈ c, WOk x
  tu : ∀ ds, d = .tup ds → ds.length ≤ 1000
theorem len4 {ds : List D} (h : ds.length = 4) : ∃ a b c m, ds = [a, b, c, m] := by
  match ds, h with
  | [a, b, c, m], _ => exact ⟨a, b, c, m, rfl⟩
theorem ptsD_len {hd : D} {bd : List D} : (ptsD hd bd).length ≤ bd.length + 1 := by unfold ptsD; split <;> simp
theorem rowC_m {hd : D} {bd ws : List D} {m : Int} (h : ¬ (0 ≤ m ∧ m ≤ 10)) : rowC hd bd ws m = false := by
  unfold rowC
  by_cases c : 0 ≤ m
  · rw [decide_eq_false (fun z => h ⟨c, z⟩), Bool.and_false, Bool.false_and]
  · rw [decide_eq_false c, Bool.false_and, Bool.false_and]
theorem rowC_b {hd : D} {bd ws : List D} {m : Int} (h : ¬ bd.length ≤ 2) : rowC hd bd ws m = false := by
  unfold rowC
  rw [decide_eq_false h, Bool.false_and, Bool.and_false]
theorem rowC_w {hd : D} {bd ws : List D} {m : Int} (h : ¬ ws.length ≤ 6) : rowC hd bd ws m = false := by
  unfold rowC
  rw [decide_eq_false h, Bool.false_and, Bool.and_false, Bool.and_false]
theorem rowC_p {hd : D} {bd ws : List D} {m : Int} (h : (ptsD hd bd).all (partD m) = false) : rowC hd bd ws m = false := by
  unfold rowC
  rw [h, Bool.false_and, Bool.and_false, Bool.and_false, Bool.and_false]
theorem rowC_yes {hd : D} {bd ws : List D} {m : Int} (h1 : 0 ≤ m ∧ m ≤ 10) (h2 : bd.length ≤ 2) (h3 : ws.length ≤ 6) (h4 : (ptsD hd bd).all (partD m) = true) : rowC hd bd ws m = ws.all (isW m.toNat) := by
  unfold rowC
  rw [decide_eq_true h1.1, decide_eq_true h1.2, decide_eq_true h2, decide_eq_true h3, h4]
  rfl
theorem isrow_W {k : Nat} {h : Hv} {d : D} {Q : D → Hv → Prop} {E : Exn → Hv → Prop} (o : RowOk d) (q : Q (.bl (rowD d)) h) : (callF G F (k + 3) i_is_row false [d] h).W Q E := by
  refine call_W (fc := c_is_row) rfl rfl ?_
  have hs : ∀ b, b = rowD d → (settle h (.bl b) h).W Q E := fun b e => settle_W0 rfl (by rw [e]; exact q)
  have g3 : G 3 = .int 10 := rfl
  have g5 : G 5 = .int 2 := rfl
  have g6 : G 6 = .int 6 := rfl
  have rest : ∀ (a : D) (b : List D) (c : D) (m : Nat), d = .tup [a, .tup b, c, .int (m : Int)] → m ≤ 10 → b.length ≤ 2 → (execs ⟨callF G F (k + 2), G, none⟩ (c_is_row.body.drop 4) [some d, some a, some (.tup b), some c, some (.int (m : Int)), some (.lst (ptsD a b)), none, none] h).W (retP false h Q E) := by
    intro a b c m e hm hb
    subst e
    have bb := o.b
    have ba : below 0 a = true := below_mem bb a (by simp)
    have bbd : ∀ x ∈ b, below 0 x = true := fun x hx => below_mem (below_mem bb (.tup b) (by simp)) x hx
    have bc : below 0 c = true := below_mem bb c (by simp)
    have bp : ∀ x ∈ ptsD a b, below 0 x = true ∧ SmP x := by
      intro x hx
      have l1 : x ∈ b → below 0 x = true ∧ SmP x := fun hx => ⟨bbd x hx, (o.bd _ _ _ _ rfl).2 x hx⟩
      unfold ptsD at hx
      split at hx
      · exact l1 hx
      · rcases List.mem_cons.mp hx with rfl | hx
        · exact ⟨ba, o.hd _ _ _ _ rfl⟩
        · exact l1 hx
    have lp := ptsD_len (hd := a) (bd := b)
    simp [c_is_row, Hr.exec, ev, evs, evc]
    refine comp_idTo (en2 := D.bl) (ptsD a b) (partD (m : Int)) trivial (fun x hx => ?_) ?_
    · simp
      exact ispart_W (bp x hx).1 (bp x hx).2 (by simp)
    · refine ⟨by rw [List.length_map, List.length_map]; exact size_of (by omega), ?_⟩
      rw [trs_bls]
      have ea : ((ptsD a b).map (partD (m : Int))).all id = (ptsD a b).all (partD m) := by rw [List.all_map]; rfl
      simp only [Option.map_some, okD_some, W_ok, ea]
      cases ei : (ptsD a b).all (partD m) with
      | false =>
        simp
        refine hs _ ?_
        cases c with
        | tup c => exact (rowC_p ei).symm
        | _ => rfl
      | true =>
        simp [ty_tup2 bc]
        cases c with
        | tup c =>
          have wc := o.ws _ _ _ _ rfl
          simp [isTup, g6]
          by_cases c6 : c.length ≤ 6
          · have e6 : ¬ ((6 : Int) < (c.length : Int)) := by omega
            rw [if_neg e6]
            refine comp_idTo (en2 := D.bl) c (isW m) trivial (fun x hx => ?_) ?_
            · simp
              exact is_wish_W (below_mem bc x hx) (wc.2 x hx).sz (by simp)
            · refine ⟨by rw [List.length_map, List.length_map]; exact size_of (by omega), ?_⟩
              rw [trs_bls]
              simp only [Option.map_some, okD_some, W_ok]
              refine hs _ ?_
              show _ = rowC a b c m
              rw [rowC_yes ⟨by omega, by omega⟩ hb c6 ei, List.all_map, Int.toNat_natCast]
              rfl
          · have e6 : (6 : Int) < (c.length : Int) := by omega
            rw [if_pos e6]
            exact hs _ (rowC_w c6).symm
        | _ => simp [isTup]; exact hs _ rfl
  have eb : c_is_row.body = c_is_row.body.take 4 ++ c_is_row.body.drop 4 := rfl
  rw [eb, SW_append]
  generalize c_is_row.body.drop 4 = tl at rest ⊢
  have bb := o.b
  simp [c_is_row, startE, Hr.exec, ev, evs, evc, ty_tup2 bb]
  cases d with
  | tup ds =>
    have lt := o.tu _ rfl
    by_cases c4 : ds.length = 4
    · obtain ⟨a, b, c, m, rfl⟩ := len4 c4
      have bm : below 0 m = true := below_mem bb m (by simp)
      have bbb : below 0 b = true := below_mem bb b (by simp)
      simp [isTup, cmpD_ne, eqD_int, whole2_ok bm, g3, g5, ty_tup2 bbb]
      cases m with
      | int m =>
        simp [isInt]
        by_cases c0 : 0 ≤ m ∧ m ≤ 10
        · obtain ⟨n, rfl⟩ : ∃ n : Nat, m = n := ⟨m.toNat, by omega⟩
          have e1 : decide ((n : Int) ≤ 10) = true := decide_eq_true (by omega)
          simp [e1]
          cases b with
          | tup b =>
            have lb := (o.bd _ _ _ _ rfl).1
            simp [isTup]
            by_cases c2 : b.length ≤ 2
            · have e2 : ¬ ((2 : Int) < (b.length : Int)) := by omega
              rw [if_neg e2]
              cases hn : isNon a with
              | true =>
                simp
                have := rest a b c n rfl (by omega) c2
                unfold ptsD at this
                rw [hn, if_pos rfl] at this
                exact this
              | false =>
                simp
                have ca : binD false .Add (.lst [a]) (.lst b) h = .ok (.lst (a :: b)) h := if_pos (size_of (by simp; omega))
                rw [ca]
                simp
                have := rest a b c n rfl (by omega) c2
                unfold ptsD at this
                rw [hn, if_neg (by decide)] at this
                exact this
            · have e2 : (2 : Int) < (b.length : Int) := by omega
              rw [if_pos e2]
              refine hs _ ?_
              cases c with
              | tup c => exact (rowC_b c2).symm
              | _ => rfl
          | _ => simp [isTup]; exact hs _ (rowD_b rfl).symm
        · have fin : (settle h (.bl false) h).W Q E := hs _ (by
            cases b with
            | tup b => cases c with
              | tup c => exact (rowC_m c0).symm
              | _ => rfl
            | _ => rfl)
          by_cases c1 : 0 ≤ m
          · have e1 : decide (m ≤ 10) = false := decide_eq_false fun z => c0 ⟨c1, z⟩
            simp [c1, e1]
            exact fin
          · simp [c1]
            exact fin
      | _ => simp [isInt]; exact hs _ (rowD_m rfl).symm
    · have c4' : ¬ (ds.length : Int) = 4 := by omega
      simp [isTup, cmpD_ne, eqD_int, c4']
      exact hs _ (rowD_len c4).symm
  | _ => simp [isTup]; exact hs _ rfl
end Lw
set_option maxHeartbeats 4000000
namespace Lw
open PySem Hr
theorem mkL_val {xs : List D} {h : Hv} : mkL false xs h = .ok (.lst xs) h := rfl
def ptsE (hd : D) (bd : List D) : List D := bd ++ if isNon hd then [] else [hd]
theorem ptsE_all {hd : D} {bd : List D} {p : D → Bool} : (ptsE hd bd).all p = (ptsD hd bd).all p := by
  unfold ptsE ptsD
  cases isNon hd
  · simp [Bool.and_comm]
  · simp
theorem mulE {h : Hv} {a : D} : binD false .Mult (.lst [a]) (.int 0) h = .ok (.lst []) h := by
  show repL false h 0 (some [a]) = _
  have c : repOk 1 0 := by decide
  show (if repOk 1 0 then mkL false (rep [a] 0) h else .no) = _
  rw [if_pos c]
  rfl
theorem mulI {h : Hv} {a : D} : binD false .Mult (.lst [a]) (.int 1) h = .ok (.lst [a]) h := by
  show repL false h 1 (some [a]) = _
  have c : repOk 1 1 := by decide
  show (if repOk 1 1 then mkL false (rep [a] 1) h else .no) = _
  rw [if_pos c]
  rfl
theorem rowso_W {k : Nat} {h : Hv} {d : D} {Q : D → Hv → Prop} {E : Exn → Hv → Prop} (o : RowOk d) (q : Q (.bl (rowD d)) h) : (callF G F (k + 3) i__law_row_so false [d] h).W Q E := by
  refine call_W (fc := c__law_row_so) rfl rfl ?_
  have hs : ∀ b, b = rowD d → (settle h (.bl b) h).W Q E := fun b e => settle_W0 rfl (by rw [e]; exact q)
  have rest : ∀ (a : D) (b c : List D) (m : Nat), d = .tup [a, .tup b, .tup c, .int (m : Int)] → m ≤ 10 → b.length ≤ 2 → c.length ≤ 6 → (execs ⟨callF G F (k + 2), G, none⟩ (c__law_row_so.body.drop 4) [some d, some a, some (.tup b), some (.tup c), some (.int (m : Int)), some (.lst (ptsE a b)), none, none] h).W (retP false h Q E) := by
    intro a b c m e hm hb hc
    subst e
    have bb := o.b
    have ba : below 0 a = true := below_mem bb a (by simp)
    have bbd : ∀ x ∈ b, below 0 x = true := fun x hx => below_mem (below_mem bb (.tup b) (by simp)) x hx
    have bc : below 0 (.tup c) = true := below_mem bb _ (by simp)
    have bp : ∀ x ∈ ptsE a b, below 0 x = true ∧ SmP x := by
      intro x hx
      rcases List.mem_append.mp hx with hx | hx
      · exact ⟨bbd x hx, (o.bd _ _ _ _ rfl).2 x hx⟩
      · split at hx
        · cases hx
        · rw [List.mem_singleton.mp hx]
          exact ⟨ba, o.hd _ _ _ _ rfl⟩
    have lp : (ptsE a b).length ≤ b.length + 1 := by
      unfold ptsE
      split <;> simp
    simp [c__law_row_so, Hr.exec, ev, evs, evc]
    refine comp_idP (ptsE a b) (fun x => !partD (m : Int) x) trivial (fun x hx => ?_) ?_
    · simp
      refine partso_W (bp x hx).1 (bp x hx).2 ?_
      cases partD (m : Int) x <;> simp
    · have lf := List.length_filter_le (fun x => !partD (m : Int) x) (ptsE a b)
      refine ⟨size_of (by omega), ?_⟩
      rw [cmpD_ne, eqD_nilG, filt_nil, ptsE_all]
      cases ei : (ptsD a b).all (partD m) with
      | false =>
        simp
        exact hs _ (rowC_p ei).symm
      | true =>
        simp
        have wc := o.ws _ _ _ _ rfl
        refine comp_idP c (fun x => !isW m x) trivial (fun x hx => ?_) ?_
        · simp
          refine wishso_W (below_mem bc x hx) (wc.2 x hx).sz (wc.2 x hx).wd ?_
          cases isW m x <;> simp
        · have lf := List.length_filter_le (fun x => !isW m x) c
          refine ⟨size_of (by omega), ?_⟩
          rw [cmpD_eq, eqD_nilG, filt_nil]
          simp only [blD_some, W_ok]
          refine hs _ ?_
          show _ = rowC a b c m
          rw [rowC_yes ⟨by omega, by omega⟩ hb hc ei, Int.toNat_natCast]
  have eb : c__law_row_so.body = c__law_row_so.body.take 4 ++ c__law_row_so.body.drop 4 := rfl
  rw [eb, SW_append]
  generalize c__law_row_so.body.drop 4 = tl at rest ⊢
  have bb := o.b
  simp [c__law_row_so, startE, Hr.exec, ev, evs, evc, ty_tup2 bb]
  cases d with
  | tup ds =>
    have lt := o.tu _ rfl
    by_cases c4 : ds.length = 4
    · obtain ⟨a, b, c, m, rfl⟩ := len4 c4
      have bm : below 0 m = true := below_mem bb m (by simp)
      have bbb : below 0 b = true := below_mem bb b (by simp)
      have bbc : below 0 c = true := below_mem bb c (by simp)
      have i3 : idxD h (.tup [a, b, c, m]) (.int 3) = some m := rfl
      simp [isTup, cmpD_ne, eqD_int, i3]
      refine lawwhole_W bm ?_
      cases hm : inR 0 10 m with
      | false =>
        simp
        refine hs _ ?_
        cases m with
        | int m =>
          have c0 : ¬ (0 ≤ m ∧ m ≤ 10) := fun z => by
            have : (decide (0 ≤ m) && decide (m ≤ 10)) = false := hm
            rw [decide_eq_true z.1, decide_eq_true z.2] at this
            cases this
          cases b with
          | tup b => cases c with
            | tup c => exact (rowC_m c0).symm
            | _ => rfl
          | _ => rfl
        | _ => exact (rowD_m rfl).symm
      | true =>
        simp [ty_tup2 bbb, ty_tup2 bbc]
        cases m with
        | int m =>
          have hm : (decide (0 ≤ m) && decide (m ≤ 10)) = true := hm
          rw [Bool.and_eq_true, decide_eq_true_eq, decide_eq_true_eq] at hm
          obtain ⟨n, rfl⟩ : ∃ n : Nat, m = n := ⟨m.toNat, by omega⟩
          cases b with
          | tup b =>
            have lb := (o.bd _ _ _ _ rfl).1
            simp [isTup]
            by_cases c2 : b.length ≤ 2
            · have e2 : ¬ ((2 : Int) < (b.length : Int)) := by omega
              cases c with
              | tup c =>
                simp [-Int.natCast_pos]
                simp only [if_neg e2]
                by_cases c6 : c.length ≤ 6
                · have e6 : ¬ ((6 : Int) < (c.length : Int)) := by omega
                  simp only [if_neg e6]
                  have := rest a b c n rfl (by omega) c2 c6
                  unfold ptsE at this
                  cases hn : isNon a with
                  | true =>
                    rw [hn, if_pos rfl] at this
                    rw [if_neg (by decide), mulE, W_ok, catLL (by simp; exact size_of (by omega)), mkL_val, W_ok]
                    exact this
                  | false =>
                    rw [hn, if_neg (by decide)] at this
                    rw [if_pos rfl, mulI, W_ok, catLL (by simp; exact size_of (by omega)), mkL_val, W_ok]
                    exact this
                · have e6 : (6 : Int) < (c.length : Int) := by omega
                  simp only [if_pos e6]
                  exact hs _ (rowC_w c6).symm
              | _ => simp; simp only [if_neg e2]; exact hs _ (rowD_c rfl).symm
            · have e2 : (2 : Int) < (b.length : Int) := by omega
              simp only [if_pos e2]
              refine hs _ ?_
              cases c with
              | tup c => exact (rowC_b c2).symm
              | _ => rfl
          | _ => simp [isTup]; exact hs _ (rowD_b rfl).symm
        | _ => cases hm
    · have c4' : ¬ (ds.length : Int) = 4 := by omega
      simp [isTup, cmpD_ne, eqD_int, c4']
      exact hs _ (rowD_len c4).symm
  | _ => simp [isTup]; exact hs _ rfl
end Lw
set_option maxHeartbeats 4000000
namespace Lw
open PySem Hr
/-! names that are known, with how many letters -/
abbrev Kn := List (Str × Nat)
def lookK (kn : Kn) (s : Str) : Option Nat := (kn.find? fun p => decide (p.1 = s)).map (·.2)
def addK (kn : Kn) (s : Str) (n : Nat) : Kn := match lookK kn s with
  | some _ => kn
  | none => kn ++ [(s, n)]
def fitL : Kn → Kn → Option Kn
  | kn, [] => some kn
  | kn, (s, n) :: r => match lookK kn s with
    | some m => if m = n then fitL kn r else none
    | none => fitL (kn ++ [(s, n)]) r
def Fn (l : Kn) : Prop := ∀ p ∈ l, ∀ q ∈ l, p.1 = q.1 → p.2 = q.2
theorem look_some {kn : Kn} {s : Str} {m : Nat} (e : lookK kn s = some m) : (s, m) ∈ kn := by
  unfold lookK at e
  rw [Option.map_eq_some_iff] at e
  obtain ⟨p, hp, e⟩ := e
  have a := List.find?_some hp
  have b := List.mem_of_find?_eq_some hp
  obtain ⟨p1, p2⟩ := p
  have : p1 = s := of_decide_eq_true a
  subst this
  have e : p2 = m := e
  subst e
  exact b
theorem look_none {kn : Kn} {s : Str} (e : lookK kn s = none) : ∀ p ∈ kn, p.1 ≠ s := by
  unfold lookK at e
  rw [Option.map_eq_none_iff, List.find?_eq_none] at e
  intro p hp z
  exact e p hp (decide_eq_true z)
theorem Fn.sub {a b : Kn} (f : Fn b) (s : ∀ x ∈ a, x ∈ b) : Fn a := fun p hp q hq e => f p (s p hp) q (s q hq) e
theorem fit_some : ∀ {ps kn kn' : Kn}, Fn kn → fitL kn ps = some kn' → Fn kn' ∧ (∀ x, x ∈ kn' ↔ x ∈ kn ∨ x ∈ ps) ∧ kn'.length ≤ kn.length + ps.length
  | [], kn, kn', f, e => by
    have e : some kn = some kn' := e
    injection e with e
    subst e
    exact ⟨f, by simp, by simp⟩
  | (s, n) :: r, kn, kn', f, e => by
    unfold fitL at e
    cases l : lookK kn s with
    | some m =>
      rw [l] at e
      simp only at e
      split at e
      · rename_i c
        subst c
        obtain ⟨a, b, c⟩ := fit_some f e
        refine ⟨a, fun x => ?_, by simp; omega⟩
        rw [b, List.mem_cons]
        constructor
        · rintro (z | z)
          · exact .inl z
          · exact .inr (.inr z)
        · rintro (z | rfl | z)
          · exact .inl z
          · exact .inl (look_some l)
          · exact .inr z
      · cases e
    | none =>
      rw [l] at e
      simp only at e
      have nn := look_none l
      have f2 : Fn (kn ++ [(s, n)]) := by
        intro p hp q hq e
        rcases List.mem_append.mp hp with hp | hp <;> rcases List.mem_append.mp hq with hq | hq
        · exact f p hp q hq e
        · rw [List.mem_singleton.mp hq] at e
          exact absurd e (nn p hp)
        · rw [List.mem_singleton.mp hp] at e
          exact absurd e.symm (nn q hq)
        · rw [List.mem_singleton.mp hp, List.mem_singleton.mp hq]
      obtain ⟨a, b, c⟩ := fit_some f2 e
      refine ⟨a, fun x => ?_, by simp at c ⊢; omega⟩
      rw [b, List.mem_append, List.mem_singleton, List.mem_cons, or_assoc]
theorem fit_none : ∀ {ps kn : Kn}, fitL kn ps = none → ¬ Fn (kn ++ ps)
  | [], kn, e => nomatch e
  | (s, n) :: r, kn, e => by
    unfold fitL at e
    cases l : lookK kn s with
    | some m =>
      rw [l] at e
      simp only at e
      split at e
      · exact fun f => fit_none e (f.sub fun x hx => by
          rcases List.mem_append.mp hx with hx | hx
          · exact List.mem_append_left _ hx
          · exact List.mem_append_right _ (List.mem_cons_of_mem _ hx))
      · rename_i c
        exact fun f => c (f (s, m) (List.mem_append_left _ (look_some l)) (s, n) (by simp) rfl)
    | none =>
      rw [l] at e
      simp only at e
      have := fit_none e
      rw [List.append_assoc] at this
      exact this
/-- the same pairs, in whatever order -/
def Alike (a b : Kn) : Prop := ∀ x, x ∈ a ↔ x ∈ b
theorem fit_alike {kn kn2 ps ps2 : Kn} (f : Fn kn) (f2 : Fn kn2) (a : Alike kn kn2) (b : Alike ps ps2) :
    (fitL kn ps = none ∧ fitL kn2 ps2 = none) ∨ ∃ x y, fitL kn ps = some x ∧ fitL kn2 ps2 = some y ∧ Fn x ∧ Fn y ∧ Alike x y := by
  have key : ∀ {kn kn2 ps ps2 : Kn} {x : Kn}, Fn kn → Alike kn kn2 → Alike ps ps2 → fitL kn ps = some x → fitL kn2 ps2 = none → False := by
    intro kn kn2 ps ps2 x f a b e1 e2
    obtain ⟨f1, m, _⟩ := fit_some f e1
    refine fit_none e2 (f1.sub fun y hy => ?_)
    rw [m]
    rcases List.mem_append.mp hy with hy | hy
    · exact .inl ((a y).mpr hy)
    · exact .inr ((b y).mpr hy)
  cases e1 : fitL kn ps with
  | none =>
    cases e2 : fitL kn2 ps2 with
    | none => exact .inl ⟨rfl, rfl⟩
    | some y => exact (key f2 (fun x => (a x).symm) (fun x => (b x).symm) e2 e1).elim
  | some x =>
    cases e2 : fitL kn2 ps2 with
    | none => exact (key f a b e1 e2).elim
    | some y =>
      obtain ⟨g1, m1, _⟩ := fit_some f e1
      obtain ⟨g2, m2, _⟩ := fit_some f2 e2
      exact .inr ⟨x, y, rfl, rfl, g1, g2, fun z => by rw [m1, m2, a z, b z]⟩
def badI (f : D → Kn) : Nat → Kn → List D → Option Nat
  | _, _, [] => none
  | i, kn, d :: ds => if rowD d = true then match fitL kn (f d) with
    | some kn' => badI f (i + 1) kn' ds
    | none => some i
    else some i
theorem bad_same {f g : D → Kn} (fg : ∀ d, rowD d = true → Alike (f d) (g d)) : ∀ {ds : List D} {i : Nat} {kn kn2 : Kn}, Fn kn → Fn kn2 → Alike kn kn2 → badI f i kn ds = badI g i kn2 ds
  | [], _, _, _, _, _, _ => rfl
  | d :: ds, i, kn, kn2, f1, f2, a => by
    unfold badI
    by_cases c : rowD d = true
    · rw [if_pos c, if_pos c]
      rcases fit_alike f1 f2 a (fg d c) with ⟨e1, e2⟩ | ⟨x, y, e1, e2, g1, g2, m⟩
      · rw [e1, e2]
      · rw [e1, e2]
        exact bad_same fg g1 g2 m
    · rw [if_neg c, if_neg c]
/-! the dict of them -/
def kK (kn : Kn) : List D := kn.map fun p => .str p.1
def kV (kn : Kn) : List D := kn.map fun p => .int (p.2 : Int)
def kC (kn : Kn) : Cell := .dct (kK kn) (kV kn)
theorem keys_kn : ∀ kn : Kn, keysD (kK kn) = some (kn.map fun p => .inr p.1)
  | [] => rfl
  | n :: ns => by
    show (some (Sum.inr n.1 : L2.Key)).bind (fun k => (keysD (kK ns)).map (k :: ·)) = _
    rw [keys_kn ns]
    rfl
theorem find_kn {s : Str} : ∀ kn : Kn, findK (kn.map fun p => (Sum.inr p.1 : L2.Key)) (.inr s) (kV kn) = (lookK kn s).map fun n : Nat => D.int (n : Int)
  | [] => rfl
  | p :: kn => by
    have ih := find_kn (s := s) kn
    unfold findK lookK at ih ⊢
    show (((Sum.inr p.1, D.int (p.2 : Int)) :: (kn.map fun p => (Sum.inr p.1 : L2.Key)).zip (kV kn)).find? fun p => decide (p.1 = .inr s)).map (·.2) = _
    rw [List.find?_cons, List.find?_cons]
    by_cases c : p.1 = s
    · have c2 : (Sum.inr p.1 : L2.Key) = .inr s := by rw [c]
      simp [c]
    · have c2 : ¬ (Sum.inr p.1 : L2.Key) = .inr s := fun z => c (by injection z)
      simp only [decide_eq_false c, decide_eq_false c2]
      exact ih
theorem setd_kn {h : Hv} {kn : Kn} {s : Str} {n : Nat} (hl : kn.length ≤ 1000) : dmD .setd (.ref h.length) (.str s) (.int (n : Int)) (h ++ [kC kn]) = .ok (.int (((lookK kn s).getD n : Nat) : Int)) (h ++ [kC (addK kn s n)]) := by
  have a : cellD (h ++ [kC kn]) (.ref h.length) = some (h.length, kK kn, kV kn) := by
    show (match (h ++ [kC kn])[h.length]? with | some (.dct ks vs) => some (h.length, ks, vs) | _ => none) = _
    rw [List.getElem?_append_right (Nat.le_refl _), Nat.sub_self]
    rfl
  have c : (kK kn).length < sizeLine := by rw [sizeLine_eq]; unfold kK; rw [List.length_map]; omega
  show (match cellD (h ++ [kC kn]) (.ref h.length) with
    | some (m, ks, vs) => setDc (h ++ [kC kn]) m (setdD ks vs (.str s) (.int (n : Int)))
    | none => .no) = _
  rw [a]
  show setDc _ h.length (setdD (kK kn) (kV kn) (.str s) (.int (n : Int))) = _
  unfold setdD
  rw [keys_kn]
  show setDc _ h.length (if (kK kn).length < sizeLine then some (match findK (kn.map fun p => (Sum.inr p.1 : L2.Key)) (.inr s) (kV kn) with
    | some w => (w, none)
    | none => (D.int (n : Int), some (kK kn ++ [.str s], kV kn ++ [.int (n : Int)]))) else none) = _
  rw [if_pos c, find_kn]
  unfold addK
  cases lookK kn s with
  | some m => rfl
  | none =>
    show Rs.ok (D.int (n : Int)) ((h ++ [kC kn]).set h.length (.dct (kK kn ++ [.str s]) (kV kn ++ [.int (n : Int)]))) = _
    rw [set_last]
    simp [kK, kV, kC]
end Lw
set_option maxHeartbeats 4000000
namespace Lw
open PySem Hr
/-! fits_known, look_at_rows -/
def ptO : D → Str × Nat
  | .tup [.str s, .tup ls] => (s, ls.length)
  | _ => ("", 0)
def rwP (f : D → List D → List D) : D → Kn
  | .tup [hd, .tup bd, _, _] => (f hd bd).map ptO
  | _ => []
theorem row_form {d : D} (e : rowD d = true) : ∃ a b c m, d = .tup [a, .tup b, .tup c, .int m] ∧ b.length ≤ 2 ∧ (ptsD a b).all (partD m) = true := by
  unfold rowD at e
  split at e
  · rename_i a b c m
    refine ⟨a, b, c, m, rfl, ?_⟩
    unfold rowC at e
    simp only [Bool.and_eq_true, decide_eq_true_eq] at e
    exact ⟨e.2.1, e.2.2.2.1⟩
  · cases e
theorem part_form {m : Int} {d : D} (e : partD m d = true) : ∃ s ls, d = .tup [.str s, .tup ls] ∧ ls.length ≤ 4 := by
  unfold partD at e
  split at e
  · rename_i n ls
    simp only [Bool.and_eq_true, decide_eq_true_eq] at e
    cases n with
    | str s => exact ⟨s, ls, rfl, e.2.1⟩
    | _ => exact absurd e.1 Bool.false_ne_true
  · cases e
theorem pts_form {m : Int} {l : List D} (e : l.all (partD m) = true) : ∀ p ∈ l, ∃ s ls, p = .tup [.str s, .tup ls] ∧ ls.length ≤ 4 := fun p hp => part_form (List.all_eq_true.mp e p hp)
theorem kC_bare (kn : Kn) : (kC kn).bare = true := by
  show (belows 0 (kK kn) && belows 0 (kV kn)) = true
  have a : belows 0 (kK kn) = true := belows_of fun d hd => by
    obtain ⟨s, _, rfl⟩ := List.mem_map.mp hd
    rfl
  have b : belows 0 (kV kn) = true := belows_of fun d hd => by
    obtain ⟨s, _, rfl⟩ := List.mem_map.mp hd
    rfl
  rw [a, b]
  rfl
theorem settle_end {h : Hv} {c c' : Cell} {d : D} {Q : D → Hv → Prop} {E : Exn → Hv → Prop} (p : below 0 d = true) (b : c'.bare = true) (q : Q d (h ++ [c'])) : (settle (h ++ [c]) d (h ++ [c'])).W Q E := by
  have k : kept (h ++ [c]) (h ++ [c']) := fun n x e => by
    rcases Nat.lt_or_ge n h.length with hn | hn
    · rw [List.getElem?_append_left hn] at e ⊢
      exact ⟨x, e, .inl rfl⟩
    · have hl := getElem?_lt e
      rw [List.length_append] at hl
      have : n = h.length := by simp at hl; omega
      subst this
      exact ⟨c', List.getElem?_concat_length, .inr b⟩
  rw [settle_pure p k, W_ok, List.take_of_length_le (by simp)]
  exact q
theorem partsof_W {k : Nat} {h : Hv} {a c m : D} {b : List D} {Q : D → Hv → Prop} {E : Exn → Hv → Prop} (bd : below 0 (.tup [a, .tup b, c, m]) = true) (hl : b.length ≤ 2) (q : Q (.lst (ptsD a b)) h) : (callF G F (k + 1) i_parts_of false [.tup [a, .tup b, c, m]] h).W Q E := by
  refine call_W (fc := c_parts_of) rfl rfl ?_
  have ba : below 0 a = true := below_mem bd a (by simp)
  have bb : belows 0 b = true := below_mem bd (.tup b) (by simp)
  simp [c_parts_of, startE, Hr.exec, ev, evs, evc]
  unfold ptsD at q
  cases hn : isNon a with
  | true =>
    rw [hn, if_pos rfl] at q
    simp
    exact settle_W0 (show belows 0 b = true from bb) q
  | false =>
    rw [hn, if_neg (by decide)] at q
    simp
    rw [catLL (by simp; exact size_of (by omega)), mkL_val, W_ok]
    exact settle_W0 (show (below 0 a && belows 0 b) = true by rw [ba, bb]; rfl) q
theorem ty_kn {h : Hv} {kn : Kn} : tyD (h ++ [kC kn]) (.ref h.length) = some "dict" := by
  show (match (h ++ [kC kn])[h.length]? with | some (.lst _) => some "list" | some (.dct _ _) => some "dict" | _ => none) = _
  rw [List.getElem?_concat_length]
  rfl
theorem fits_W {k : Nat} {h : Hv} {d : D} {kn : Kn} {Q : D → Hv → Prop} {E : Exn → Hv → Prop} (o : RowOk d) (r : rowD d = true) (hl : kn.length ≤ 900)
    (q1 : ∀ kn', fitL kn (rwP ptsD d) = some kn' → Q (.bl true) (h ++ [kC kn'])) (q2 : fitL kn (rwP ptsD d) = none → ∀ kn', Q (.bl false) (h ++ [kC kn'])) :
    (callF G F (k + 2) i_fits_known false [.ref h.length, d] (h ++ [kC kn])).W Q E := by
  refine call_W (fc := c_fits_known) rfl rfl ?_
  obtain ⟨a, b, c, m, rfl, lb, al⟩ := row_form r
  have pf := pts_form al
  have lp := ptsD_len (hd := a) (bd := b)
  simp [c_fits_known, startE, Hr.exec, ev, evs, evc]
  refine partsof_W o.b lb ?_
  simp
  refine loop_WD (fun ps env h2 => ∃ (kn2 : Kn) (a6 a7 : Option D), h2 = h ++ [kC kn2] ∧ env = [some (.ref h.length), some (.tup [a, .tup b, .tup c, .int m]), a6, a7] ∧ fitL kn2 (ps.map ptO) = fitL kn ((ptsD a b).map ptO) ∧ kn2.length + ps.length ≤ 905 ∧ ∀ p ∈ ps, ∃ s ls, p = .tup [.str s, .tup ls] ∧ ls.length ≤ 4) (fun _ _ _ _ => trivial) ?_ ?_ _ _ _ ⟨kn, _, _, rfl, rfl, rfl, by omega, pf⟩
  · rintro p ps env h2 ⟨kn2, a6, a7, rfl, rfl, ef, lk, pf⟩
    obtain ⟨s, ls, rfl, l4⟩ := pf p List.mem_cons_self
    have lk' : kn2.length ≤ 1000 := by simp at lk; omega
    have ef : (match lookK kn2 s with | some m => if m = ls.length then fitL kn2 (ps.map ptO) else none | none => fitL (kn2 ++ [(s, ls.length)]) (ps.map ptO)) = fitL kn ((ptsD a b).map ptO) := ef
    simp [Hr.exec, ev, evs, ty_kn, setd_kn lk']
    cases el : lookK kn2 s with
    | some m2 =>
      rw [el] at ef
      simp only at ef
      have ea : addK kn2 s ls.length = kn2 := by unfold addK; rw [el]
      by_cases cm : m2 = ls.length
      · rw [if_pos cm] at ef
        simp [cm, ea]
        exact ⟨kn2, rfl, ef, by simp at lk; omega, fun p hp => pf p (List.mem_cons_of_mem _ hp)⟩
      · rw [if_neg cm] at ef
        have cm' : ¬ (m2 : Int) = (ls.length : Int) := by omega
        simp [cm', ea]
        exact settle_end rfl (kC_bare _) (q2 ef.symm _)
    | none =>
      rw [el] at ef
      simp only at ef
      have ea : addK kn2 s ls.length = kn2 ++ [(s, ls.length)] := by unfold addK; rw [el]
      simp [ea]
      exact ⟨_, rfl, ef, by simp at lk ⊢; omega, fun p hp => pf p (List.mem_cons_of_mem _ hp)⟩
  · rintro env h2 ⟨kn2, a6, a7, rfl, rfl, ef, lk, pf⟩
    simp
    exact settle_end rfl (kC_bare _) (q1 kn2 ef.symm)
end Lw
set_option maxHeartbeats 4000000
namespace Lw
open PySem Hr
/-! look_at_rows, what the law is told, and its own first bad one -/
theorem ty_tupS {h : Hv} {ds : List D} : blD ((tyD h (.tup ds)).bind fun t => isAny t [.ty "tuple"]) h = .ok (.bl true) h := rfl
theorem ty_lstS {h : Hv} {ds : List D} : blD ((tyD h (.lst ds)).bind fun t => isAny t [.ty "list"]) h = .ok (.bl true) h := rfl
theorem enum_lst {h : Hv} {xs : List D} : enumF (.lst xs) h = .ok ⟨xs.mapIdx fun n u => .tup [.int (n : Nat), u], fun _ => True⟩ h := rfl
def enL : Nat → List D → List D
  | _, [] => []
  | i, d :: ds => .tup [.int (i : Int), d] :: enL (i + 1) ds
theorem enL_eq : ∀ (ds : List D) (i : Nat), (ds.mapIdx fun n u => D.tup [.int ((i + n : Nat) : Int), u]) = enL i ds
  | [], _ => rfl
  | d :: ds, i => by
    rw [List.mapIdx_cons]
    show D.tup [.int ((i + 0 : Nat) : Int), d] :: _ = D.tup [.int (i : Int), d] :: enL (i + 1) ds
    rw [← enL_eq ds (i + 1), Nat.add_zero]
    congr 2
    funext n u
    rw [show i + (n + 1) = i + 1 + n by omega]
theorem enL_eq0 (ds : List D) : (ds.mapIdx fun n u => D.tup [.int (n : Int), u]) = enL 0 ds := by
  rw [← enL_eq ds 0]
  congr 1
  funext n u
  rw [Nat.zero_add]
theorem rwP_len {d : D} (r : rowD d = true) : (rwP ptsD d).length ≤ 3 := by
  obtain ⟨a, b, c, m, rfl, lb, al⟩ := row_form r
  show ((ptsD a b).map ptO).length ≤ 3
  rw [List.length_map]
  have := ptsD_len (hd := a) (bd := b)
  omega
theorem kept_more {h t : Hv} : kept h (h ++ t) := fun n c e => ⟨c, by rw [List.getElem?_append_left (getElem?_lt e)]; exact e, .inl rfl⟩
def BadI (f : D → Kn) (ds : List D) : Option Nat := badI f 0 [] ds
def noRows (d : D) : Exn := ⟨0, [("number", d)]⟩
theorem look_W {k : Nat} {h : Hv} {ds : List D} {Q : D → Hv → Prop} {E : Exn → Hv → Prop} (l1 : 1 ≤ ds.length) (l40 : ds.length ≤ 40) (o : ∀ d ∈ ds, RowOk d)
    (q1 : BadI (rwP ptsD) ds = none → Q .non h) (q2 : ∀ i, BadI (rwP ptsD) ds = some i → ∀ c, E (noRows (.int (i : Int))) (h ++ [c])) : (callF G F (k + 4) i_look_at_rows false [.lst ds] h).W Q E := by
  refine call_W (fc := c_look_at_rows) rfl rfl ?_
  have g7 : G 7 = .int 40 := rfl
  have e1 : decide ((1 : Int) ≤ (ds.length : Int)) = true := decide_eq_true (by omega)
  have e2 : decide ((ds.length : Int) ≤ 40) = true := decide_eq_true (by omega)
  simp [c_look_at_rows, startE, Hr.exec, ev, evs, evc, ty_lstS, g7, mkDc, enum_lst, e1, e2]
  rw [enL_eq0]
  refine loop_WD (fun l env h2 => ∃ (i : Nat) (kn : Kn) (rest : List D) (a2 a3 : Option D), l = enL i rest ∧ h2 = h ++ [kC kn] ∧ env = [some (.lst ds), some (.ref h.length), a2, a3] ∧ Fn kn ∧ kn.length ≤ 3 * i ∧ i + rest.length ≤ 40 ∧ badI (rwP ptsD) i kn rest = BadI (rwP ptsD) ds ∧ ∀ d ∈ rest, RowOk d) (fun _ _ _ _ => trivial) ?_ ?_ _ _ _ ⟨0, [], ds, _, _, rfl, rfl, rfl, (fun _ hp => nomatch hp), Nat.zero_le _, by omega, rfl, o⟩
  · rintro x l env h2 ⟨i, kn, rest, a2, a3, el, rfl, rfl, fn, lk, lr, eb, o⟩
    cases rest with
    | nil => cases el
    | cons d rest =>
      injection el with ex el
      subst ex
      simp [Hr.exec, ev, evs]
      refine isrow_W (o d List.mem_cons_self) ?_
      have eb : (if rowD d = true then match fitL kn (rwP ptsD d) with | some kn' => badI (rwP ptsD) (i + 1) kn' rest | none => some i else some i) = BadI (rwP ptsD) ds := eb
      cases er : rowD d with
      | false =>
        rw [er, if_neg (by decide)] at eb
        simp
        exact q2 i eb.symm _
      | true =>
        rw [er, if_pos rfl] at eb
        simp
        refine fits_W (o d List.mem_cons_self) er (by omega) (fun kn' e => ?_) (fun e kn' => ?_)
        · rw [e] at eb
          simp
          obtain ⟨f1, f2, f3⟩ := fit_some fn e
          have l3 := rwP_len er
          exact ⟨i + 1, kn', rest, el, rfl, f1, by omega, by simp at lr; omega, eb, fun d hd => o d (List.mem_cons_of_mem _ hd)⟩
        · rw [e] at eb
          simp
          exact q2 i eb.symm _
  · rintro env h2 ⟨i, kn, rest, a2, a3, el, rfl, rfl, fn, lk, lr, eb, o⟩
    cases rest with
    | cons d rest => cases el
    | nil =>
      have eb : none = BadI (rwP ptsD) ds := eb
      simp
      rw [settle_pure (d := .non) rfl kept_more, W_ok, List.take_left' rfl]
      exact q1 eb.symm
end Lw
set_option maxHeartbeats 4000000
namespace Lw
open PySem Hr
def badN (f : D → Kn) (ds : List D) : Int := match BadI f ds with
  | none => -1
  | some i => (i : Int)
theorem lookno_W {k : Nat} {h : Hv} {d : D} {Q : D → Hv → Prop} {E : Exn → Hv → Prop} (b : below 0 d = true) (hr : ∀ ds, d ≠ .ro ds) (hl : ∀ ds, d = .lst ds → ds.length ≤ 1000 ∧ ¬ (1 ≤ ds.length ∧ ds.length ≤ 40))
    (q : E (noRows .non) h) : (callF G F (k + 4) i_look_at_rows false [d] h).W Q E := by
  refine call_W (fc := c_look_at_rows) rfl rfl ?_
  have g7 : G 7 = .int 40 := rfl
  have ty : blD ((tyD h d).bind fun t => isAny t [.ty "list"]) h = .ok (.bl (isLst d)) h := by
    cases d with
    | ref k => exact absurd (of_decide_eq_true (show decide (k < 0) = true from b)) (Nat.not_lt_zero _)
    | ro ds => exact absurd rfl (hr ds)
    | _ => rfl
  simp [c_look_at_rows, startE, Hr.exec, ev, evs, evc, ty, g7]
  cases d with
  | lst ds =>
    have l := hl ds rfl
    by_cases c1 : 1 ≤ ds.length
    · have e1 : decide ((1 : Int) ≤ (ds.length : Int)) = true := decide_eq_true (by omega)
      have e2 : decide ((ds.length : Int) ≤ 40) = false := decide_eq_false (by omega)
      simp [isLst, e1, e2]
      exact q
    · have e1 : decide ((1 : Int) ≤ (ds.length : Int)) = false := decide_eq_false (by omega)
      simp [isLst, e1]
      exact q
  | _ => simp [isLst]; exact q
theorem kx_f {h : Hv} {d : D} : kxD (h ++ [.exn (noRows d)]) (.ref h.length) "number" = some d := by
  show (match (h ++ [Cell.exn (noRows d)])[h.length]? with
    | some (.exn ⟨_, [(g, y)]⟩) => if g = "number" then some y else none
    | _ => none) = _
  rw [List.getElem?_concat_length]
  exact if_pos rfl
theorem kx_i {h : Hv} {d : D} {tab : List (Nat × Bool)} : kxI (h ++ [.exn (noRows d)]) (.ref h.length) tab = tab.lookup 0 := by
  show (match (h ++ [Cell.exn (noRows d)])[h.length]? with
    | some (.exn x) => tab.lookup x.cls
    | _ => none) = _
  rw [List.getElem?_concat_length]
  rfl
theorem told_end {k : Nat} {h t H : Hv} {v : D} {a0 a2 : Option D} {Q : D → Hv → Prop} {E : Exn → Hv → Prop} (eH : H = h ++ t) (b : below 0 v = true) (q : Q v h) :
    (execs ⟨callF G F (k + 4), G, none⟩ (c__law_told.body.drop 2) [a0, some (.ref H.length), a2] (H ++ [.exn (noRows v)])).W (retP false h Q E) := by
  have nn : isNon (.ref H.length) = false := rfl
  simp [c__law_told, Hr.exec, ev, evs, evc, kx_f, kx_i, nn, List.lookup]
  rw [eH, List.append_assoc, settle_pure b kept_more, W_ok, List.take_left' rfl]
  exact q
theorem told_W {k : Nat} {h : Hv} {ds : List D} {Q : D → Hv → Prop} {E : Exn → Hv → Prop} (l1 : 1 ≤ ds.length) (l40 : ds.length ≤ 40) (o : ∀ d ∈ ds, RowOk d)
    (q : Q (.int (badN (rwP ptsD) ds)) h) : (callF G F (k + 5) i__law_told false [.lst ds] h).W Q E := by
  refine call_W (fc := c__law_told) rfl rfl ?_
  have eb : c__law_told.body = .set 1 (.lit .non) :: .keepx 0 2 1 [.ex (.call i_look_at_rows false [.var 0])] :: c__law_told.body.drop 2 := rfl
  rw [eb, SW_cons]
  have fin := fun (t H : Hv) (v : D) (a0 a2 : Option D) => told_end (k := k) (h := h) (t := t) (H := H) (v := v) (a0 := a0) (a2 := a2) (Q := Q) (E := E)
  have fin0 : ∀ a0 a2, Q (.int (-1)) h → (execs ⟨callF G F (k + 4), G, none⟩ (c__law_told.body.drop 2) [a0, some .non, a2] h).W (retP false h Q E) := fun a0 a2 q => by
    simp [c__law_told, Hr.exec, ev, evs, evc, isNon]
    exact settle_W0 rfl q
  generalize c__law_told.body.drop 2 = tl at fin fin0 ⊢
  have s1 : exec ⟨callF G F (k + 4), G, none⟩ (.set 1 (.lit .non)) (startE c__law_told [.lst ds]) h = .nx [some (.lst ds), some .non, none] h := rfl
  rw [s1, SW_nx]
  show (execs _ _ _ _).W _
  rw [SW_cons, SW_keepx]
  simp [Hr.exec, ev, evs, evc]
  refine look_W l1 l40 o (fun e => ?_) (fun i e c => ?_)
  · unfold badN at q
    rw [e] at q
    exact fin0 _ _ q
  · unfold badN at q
    rw [e] at q
    have n0 : (noRows (.int (i : Int))).cls = 0 := rfl
    simp only [n0, if_pos]
    exact fin [c] _ _ _ _ rfl rfl q
theorem toldno_W {k : Nat} {h : Hv} {d : D} {Q : D → Hv → Prop} {E : Exn → Hv → Prop} (b : below 0 d = true) (hr : ∀ ds, d ≠ .ro ds) (hl : ∀ ds, d = .lst ds → ds.length ≤ 1000 ∧ ¬ (1 ≤ ds.length ∧ ds.length ≤ 40))
    (q : Q .non h) : (callF G F (k + 5) i__law_told false [d] h).W Q E := by
  refine call_W (fc := c__law_told) rfl rfl ?_
  have eb : c__law_told.body = .set 1 (.lit .non) :: .keepx 0 2 1 [.ex (.call i_look_at_rows false [.var 0])] :: c__law_told.body.drop 2 := rfl
  rw [eb, SW_cons]
  have fin := fun (t H : Hv) (v : D) (a0 a2 : Option D) => told_end (k := k) (h := h) (t := t) (H := H) (v := v) (a0 := a0) (a2 := a2) (Q := Q) (E := E)
  generalize c__law_told.body.drop 2 = tl at fin ⊢
  have s1 : exec ⟨callF G F (k + 4), G, none⟩ (.set 1 (.lit .non)) (startE c__law_told [d]) h = .nx [some d, some .non, none] h := rfl
  rw [s1, SW_nx]
  show (execs _ _ _ _).W _
  rw [SW_cons, SW_keepx]
  simp [Hr.exec, ev, evs, evc]
  refine lookno_W b hr hl ?_
  have n0 : (noRows .non).cls = 0 := rfl
  simp only [n0, if_pos]
  exact fin [] _ _ _ _ (by simp) rfl q
/-! the law's own first bad one -/
theorem listE {h : Hv} {b : List D} (hl : b.length ≤ 1000) : mkLo false h (asS h (.tup b)) = .ok (.lst b) h := by
  show mkL false b h = _
  rfl
theorem first_W {k : Nat} {h : Hv} {ds : List D} {Q : D → Hv → Prop} {E : Exn → Hv → Prop} (l40 : ds.length ≤ 40) (o : ∀ d ∈ ds, RowOk d)
    (q : Q (.int (badN (rwP ptsE) ds)) h) : (callF G F (k + 4) i__law_first_bad false [.lst ds] h).W Q E := by
  refine call_W (fc := c__law_first_bad) rfl rfl ?_
  simp [c__law_first_bad, startE, Hr.exec, ev, evs, evc, mkDc, enum_lst]
  have fin : ∀ (v : Int) (kn : Kn), v = badN (rwP ptsE) ds → (settle h (.int v) (h ++ [kC kn])).W Q E := fun v kn e => by
    rw [settle_pure rfl kept_more, W_ok, List.take_left' rfl, e]
    exact q
  rw [enL_eq0]
  refine loop_WD (fun l env h2 => ∃ (i : Nat) (kn : Kn) (rest : List D) (a2 a3 a4 a5 : Option D), l = enL i rest ∧ h2 = h ++ [kC kn] ∧ env = [some (.lst ds), some (.ref h.length), a2, a3, a4, a5] ∧ Fn kn ∧ kn.length ≤ 3 * i ∧ i + rest.length ≤ 40 ∧ badI (rwP ptsE) i kn rest = BadI (rwP ptsE) ds ∧ ∀ d ∈ rest, RowOk d) (fun _ _ _ _ => trivial) ?_ ?_ _ _ _ ⟨0, [], ds, _, _, _, _, rfl, rfl, rfl, (fun _ hp => nomatch hp), Nat.zero_le _, by omega, rfl, o⟩
  · rintro x l env h2 ⟨i, kn, rest, a2, a3, a4, a5, el, rfl, rfl, fn, lk, lr, eb, o⟩
    cases rest with
    | nil => cases el
    | cons d rest =>
      injection el with ex el
      subst ex
      simp [Hr.exec, ev, evs, evc]
      refine rowso_W (o d List.mem_cons_self) ?_
      have eb : (if rowD d = true then match fitL kn (rwP ptsE d) with | some kn' => badI (rwP ptsE) (i + 1) kn' rest | none => some i else some i) = BadI (rwP ptsE) ds := eb
      cases er : rowD d with
      | false =>
        rw [er, if_neg (by decide)] at eb
        simp
        exact fin _ _ (by unfold badN; rw [← eb])
      | true =>
        rw [er, if_pos rfl] at eb
        obtain ⟨a, b, c, m, rfl, lb, al⟩ := row_form er
        simp
        have mulA : (binD false .Mult (.lst [a]) (.int (if isNon a = false then 1 else 0)) (h ++ [kC kn])) = .ok (.lst (if isNon a = true then [] else [a])) (h ++ [kC kn]) := by
          cases isNon a
          · rw [if_pos rfl, mulI, if_neg (by decide)]
          · rw [if_neg (by decide), mulE, if_pos rfl]
        have lE : (ptsE a b).length ≤ 3 := by
          unfold ptsE
          split <;> simp <;> omega
        rw [mulA, W_ok, catLL (size_of (by unfold ptsE at lE; rw [List.length_append] at lE; omega)), mkL_val, W_ok, seq_lst, W_ok]
        show (loopF _ _ (ptsE a b) _ _).W _
        have aE : (ptsE a b).all (partD m) = true := by rw [ptsE_all]; exact al
        have pf := pts_form aE
        have eb : (match fitL kn ((ptsE a b).map ptO) with | some kn' => badI (rwP ptsE) (i + 1) kn' rest | none => some i) = BadI (rwP ptsE) ds := eb
        refine loop_WD (fun ps env h2 => ∃ (kn2 : Kn) (a6 a7 : Option D), h2 = h ++ [kC kn2] ∧ env = [some (.lst ds), some (.ref h.length), some (.int (i : Int)), some (.tup [a, .tup b, .tup c, .int m]), a6, a7] ∧ fitL kn2 (ps.map ptO) = fitL kn ((ptsE a b).map ptO) ∧ kn2.length + ps.length ≤ 3 * i + 3 ∧ ∀ p ∈ ps, ∃ s ls, p = .tup [.str s, .tup ls] ∧ ls.length ≤ 4) (fun _ _ _ _ => trivial) ?_ ?_ _ _ _ ⟨kn, _, _, rfl, rfl, rfl, by omega, pf⟩
        · rintro p ps env h2 ⟨kn2, a6, a7, rfl, rfl, ef, lk2, pf⟩
          obtain ⟨s, ls, rfl, l4⟩ := pf p List.mem_cons_self
          have lk' : kn2.length ≤ 1000 := by simp at lk2 lr; omega
          have ef : (match lookK kn2 s with | some m => if m = ls.length then fitL kn2 (ps.map ptO) else none | none => fitL (kn2 ++ [(s, ls.length)]) (ps.map ptO)) = fitL kn ((ptsE a b).map ptO) := ef
          simp [Hr.exec, ev, evs, ty_kn, setd_kn lk']
          cases el : lookK kn2 s with
          | some m2 =>
            rw [el] at ef
            simp only at ef
            have ea : addK kn2 s ls.length = kn2 := by unfold addK; rw [el]
            by_cases cm : m2 = ls.length
            · rw [if_pos cm] at ef
              simp [cm, ea]
              exact ⟨kn2, rfl, ef, by simp at lk2; omega, fun p hp => pf p (List.mem_cons_of_mem _ hp)⟩
            · rw [if_neg cm] at ef
              rw [← ef] at eb
              have cm' : ¬ (m2 : Int) = (ls.length : Int) := by omega
              simp [cm', ea]
              exact fin _ _ (by unfold badN; rw [← eb])
          | none =>
            rw [el] at ef
            simp only at ef
            have ea : addK kn2 s ls.length = kn2 ++ [(s, ls.length)] := by unfold addK; rw [el]
            simp [ea]
            exact ⟨_, rfl, ef, by simp at lk2 ⊢; omega, fun p hp => pf p (List.mem_cons_of_mem _ hp)⟩
        · rintro env h2 ⟨kn2, a6, a7, rfl, rfl, ef, lk2, pf⟩
          have ef : some kn2 = fitL kn ((ptsE a b).map ptO) := ef
          rw [← ef] at eb
          obtain ⟨f1, f2, f3⟩ := fit_some fn ef.symm
          exact ⟨i + 1, kn2, rest, el, rfl, ⟨_, _, _, _, rfl⟩, f1, by simp at lk2; omega, by simp at lr; omega, eb, fun d hd => o d (List.mem_cons_of_mem _ hd)⟩
  · rintro env h2 ⟨i, kn, rest, a2, a3, a4, a5, el, rfl, rfl, fn, lk, lr, eb, o⟩
    cases rest with
    | cons d rest => cases el
    | nil =>
      have eb : none = BadI (rwP ptsE) ds := eb
      simp
      exact fin _ _ (by unfold badN; rw [← eb])
end Lw
set_option maxHeartbeats 4000000
namespace Lw
open PySem Hr
/-! bounds, parts, wishes and rows that may be odd -/
structure Bx (n w : Nat) (d : D) : Prop where
  ok : okV d = true
  dp : dp d ≤ n
  wt : wt d ≤ w
theorem Bx.mono {n w n2 w2 : Nat} {d : D} (b : Bx n w d) (hn : n ≤ n2) (hw : w ≤ w2) : Bx n2 w2 d := ⟨b.ok, Nat.le_trans b.dp hn, Nat.le_trans b.wt hw⟩
theorem Bx.below {n w : Nat} {d : D} (b : Bx n w d) : below 0 d = true := okV_below d b.ok
theorem Bx.tup {n w L : Nat} {ds : List D} (h : ∀ d ∈ ds, Bx n w d) (hl : ds.length ≤ L) : Bx (n + 1) ((w + 2) * L + 3) (.tup ds) :=
  ⟨okVs_of fun d hd => (h d hd).ok, Nat.succ_le_succ (dps_of fun d hd => (h d hd).dp), Nat.add_le_add_right (Nat.le_trans (wts_of fun d hd => (h d hd).wt) (Nat.mul_le_mul_left _ hl)) 3⟩
theorem Bx.lst {n w L : Nat} {ds : List D} (h : ∀ d ∈ ds, Bx n w d) (hl : ds.length ≤ L) : Bx (n + 1) ((w + 2) * L + 3) (.lst ds) :=
  ⟨okVs_of fun d hd => (h d hd).ok, Nat.succ_le_succ (dps_of fun d hd => (h d hd).dp), Nat.add_le_add_right (Nat.le_trans (wts_of fun d hd => (h d hd).wt) (Nat.mul_le_mul_left _ hl)) 3⟩
theorem Bx.int {i : Int} (h : i.natAbs < 2 ^ 148) : Bx 0 150 (.int i) := ⟨decide_eq_true h, Nat.le_refl _, Nat.le_refl _⟩
theorem Bx.non : Bx 0 150 .non := ⟨rfl, Nat.le_refl _, Nat.le_refl _⟩
theorem Bx.bl {b : Bool} : Bx 0 150 (.bl b) := ⟨rfl, Nat.le_refl _, Nat.le_refl _⟩
theorem Bx.str {s : Str} (h : strB s = true) : Bx 0 150 (.str s) := ⟨h, Nat.le_refl _, Nat.le_refl _⟩
theorem small_int {i : Int} (h : i.natAbs ≤ 1000) : i.natAbs < 2 ^ 148 := Nat.lt_of_le_of_lt h (by decide)
theorem Bx.sml {i : Int} (h : i.natAbs ≤ 1000) : Bx 0 150 (.int i) := .int (small_int h)
structure PtF (d : D) : Prop where
  bx : Bx 3 3000 d
  sm : SmP d
structure WsF (d : D) : Prop where
  bx : Bx 3 9000 d
  ok : WOk d
theorem Sm.of {d : D} (s : ∀ x, d ≠ .str x) (t : ∀ x, d ≠ .tup x) : Sm d := ⟨fun x e => absurd e (s x), fun x e => absurd e (t x)⟩
theorem SmP.of {d : D} (s : ∀ x, d ≠ .str x) (t : ∀ x, d ≠ .tup x) : SmP d := ⟨.of s t, fun x e => absurd e (t x)⟩
theorem nm_short {s : Str} (h : s ∈ nmL) : strB s = true ∧ s.length ≤ 8 := by
  have h : s = "a" ∨ s = "bb" ∨ s = "c" ∨ s = "longname" := by simpa [nmL] using h
  rcases h with rfl | rfl | rfl | rfl <;> decide +kernel
theorem nm_name {s : Str} (h : s ∈ nmL) : nameB s = true := by
  have h : s = "a" ∨ s = "bb" ∨ s = "c" ∨ s = "longname" := by simpa [nmL] using h
  rcases h with rfl | rfl | rfl | rfl <;> decide +kernel
theorem pt_F {m : Nat} {p : Pt} (o : okP m p) (hm : m ≤ 3) : PtF (ptD p) := by
  have l3 : p.ls.length ≤ 3 := by rw [o.len]; exact ar_le _
  have b1 : Bx 1 ((150 + 2) * 3 + 3) (.tup (nsD p.ls)) := .tup (fun d hd => by
    obtain ⟨i, hi, rfl⟩ := List.mem_map.mp hd
    have := o.lt i hi
    exact .sml (by omega)) (by rw [nsD_len]; exact l3)
  have b2 : Bx 2 ((459 + 2) * 2 + 3) (ptD p) := .tup (fun d hd => by
    rcases List.mem_cons.mp hd with rfl | hd
    · exact (Bx.str (nm_short o.nm).1).mono (by decide) (by decide)
    · rw [List.mem_singleton.mp hd]
      exact b1) (by simp)
  refine ⟨b2.mono (by decide) (by decide), ⟨(fun s e => nomatch e), fun ds e => ?_⟩, fun ds e x hx => ?_⟩
  · injection e with e
    subst e
    simp
  · injection e with e
    subst e
    rcases List.mem_cons.mp hx with rfl | hx
    · exact ⟨fun s e => by injection e with e; subst e; have := (nm_short o.nm).2; omega, fun ds e => nomatch e⟩
    · rw [List.mem_singleton.mp hx]
      exact ⟨(fun s e => nomatch e), fun ds e => by injection e with e; subst e; rw [nsD_len]; omega⟩
theorem ws_F {m : Nat} {w : Ws} (o : drawnW 7 m w) (hm : m ≤ 10) : WsF (wD w) := by
  have b1 : Bx 1 ((150 + 2) * 10 + 3) (.tup (w.fs.map .int)) := .tup (fun d hd => by
    obtain ⟨i, hi, rfl⟩ := List.mem_map.mp hd
    have := o.2.1 i hi
    exact .sml (by omega)) (by rw [List.length_map, o.1]; exact hm)
  have b2 : Bx 2 ((1523 + 2) * 3 + 3) (wD w) := .tup (fun d hd => by
    rcases List.mem_cons.mp hd with rfl | hd
    · exact b1
    · rcases List.mem_cons.mp hd with rfl | hd
      · have := o.2.2
        exact (Bx.sml (by omega)).mono (by decide) (by decide)
      · rw [List.mem_singleton.mp hd]
        exact (Bx.str (wd_ok _)).mono (by decide) (by decide)) (by simp)
  refine ⟨b2.mono (by decide) (by decide), sz_wD (by rw [o.1]; omega), fun a p z e => ?_⟩
  injection e with e
  injection e with _ e
  injection e with _ e
  injection e with e _
  subst e
  cases w.st
  · exact List.mem_cons_self
  · exact List.mem_cons_of_mem _ List.mem_cons_self
structure RwF (d : D) : Prop where
  bx : Bx 6 1600000 d
  ro : RowOk d
theorem no_row {d : D} (b : below 0 d = true) (t : ∀ x, d ≠ .tup x) : RowOk d := ⟨b, fun _ _ _ _ e => absurd e (t _), fun _ _ _ _ e => absurd e (t _), fun _ _ _ _ e => absurd e (t _), fun _ e => absurd e (t _)⟩
theorem not_four {ds : List D} (b : below 0 (.tup ds) = true) (h : ds.length ≠ 4) (hl : ds.length ≤ 1000) : RowOk (.tup ds) :=
  have no : ∀ {a b c m : D}, D.tup ds ≠ .tup [a, b, c, m] := fun e => by injection e with e; subst e; exact h rfl
  ⟨b, fun _ _ _ _ e => absurd e no, fun _ _ _ _ e => absurd e no, fun _ _ _ _ e => absurd e no, fun x e => by injection e with e; subst e; exact hl⟩
/-- one of the things that a row's places may hold -/
inductive Pl : D → Prop where
  | pt {d : D} : PtF d → Pl d
  | bd {ds : List D} : (∀ d ∈ ds, PtF d) → ds.length ≤ 7 → Pl (.tup ds)
  | bdL {ds : List D} : (∀ d ∈ ds, PtF d) → ds.length ≤ 7 → Pl (.lst ds)
  | ws {ds : List D} : (∀ d ∈ ds, WsF d) → ds.length ≤ 30 → Pl (.tup ds)
  | wsL {ds : List D} : (∀ d ∈ ds, WsF d) → ds.length ≤ 30 → Pl (.lst ds)
  | m {d : D} : Bx 0 150 d → Pl d
theorem Pl.bx {d : D} (p : Pl d) : Bx 5 300000 d := by
  cases p with
  | pt p => exact p.bx.mono (by decide) (by decide)
  | bd h l => exact (Bx.tup (fun d hd => (h d hd).bx) l).mono (by decide) (by decide)
  | bdL h l => exact (Bx.lst (fun d hd => (h d hd).bx) l).mono (by decide) (by decide)
  | ws h l => exact (Bx.tup (fun d hd => (h d hd).bx) l).mono (by decide) (by decide)
  | wsL h l => exact (Bx.lst (fun d hd => (h d hd).bx) l).mono (by decide) (by decide)
  | m b => exact b.mono (by decide) (by decide)
theorem pls_tup {ds : List D} (h : ∀ d ∈ ds, Pl d) (l : ds.length ≤ 5) : Bx 6 1600000 (.tup ds) := (Bx.tup (fun d hd => (h d hd).bx) l).mono (by decide) (by decide)
theorem pls_lst {ds : List D} (h : ∀ d ∈ ds, Pl d) (l : ds.length ≤ 5) : Bx 6 1600000 (.lst ds) := (Bx.lst (fun d hd => (h d hd).bx) l).mono (by decide) (by decide)
theorem row_F {a b c m : D} (pa : Pl a) (pb : Pl b) (pc : Pl c) (pm : Pl m) (ha : SmP a) (hb : ∀ x, b = .tup x → x.length ≤ 1000 ∧ ∀ d ∈ x, SmP d) (hc : ∀ x, c = .tup x → x.length ≤ 1000 ∧ ∀ d ∈ x, WOk d) : RwF (.tup [a, b, c, m]) := by
  have bx : Bx 6 1600000 (.tup [a, b, c, m]) := pls_tup (fun d hd => by
    simp only [List.mem_cons, List.not_mem_nil, or_false] at hd
    rcases hd with rfl | rfl | rfl | rfl
    · exact pa
    · exact pb
    · exact pc
    · exact pm) (by simp)
  refine ⟨bx, bx.below, fun _ _ _ _ e => ?_, fun _ _ _ _ e => ?_, fun _ _ _ _ e => ?_, fun _ e => ?_⟩
  · cases e; exact ha
  · cases e; exact hb _ rfl
  · cases e; exact hc _ rfl
  · cases e; simp
theorem hd_F {m : Nat} {o : Option Pt} (h : ∀ p, o = some p → okP m p) (hm : m ≤ 3) : PtF (hdD o) := by
  cases o with
  | none => exact ⟨Bx.non.mono (by decide) (by decide), .of (fun _ e => nomatch e) (fun _ e => nomatch e)⟩
  | some p => exact pt_F (h p rfl) hm
theorem bd_F {r : Rw} (o : okR r) : ∀ d ∈ r.bd.map ptD, PtF d := fun d hd => by
  obtain ⟨p, hp, rfl⟩ := List.mem_map.mp hd
  exact pt_F (o.bd p hp) o.mn
theorem wss_F {r : Rw} (o : okR r) : ∀ d ∈ r.ws.map wD, WsF d := fun d hd => by
  obtain ⟨w, hw, rfl⟩ := List.mem_map.mp hd
  exact ws_F (o.ws w hw) (by have := o.mn; omega)
theorem bd_len {r : Rw} (o : okR r) : (r.bd.map ptD).length ≤ 2 := by rw [List.length_map]; exact o.bl
theorem ws_len {r : Rw} (o : okR r) : (r.ws.map wD).length ≤ 3 := by rw [List.length_map]; exact o.wl
theorem good_F {r : Rw} (o : okR r) : RwF (rwD r) :=
  row_F (.pt (hd_F o.hd o.mn)) (.bd (bd_F o) (by have := bd_len o; omega)) (.ws (wss_F o) (by have := ws_len o; omega)) (.m (.sml (by have := o.mn; omega))) (hd_F o.hd o.mn).sm
    (fun x e => by injection e with e; subst e; exact ⟨by have := bd_len o; omega, fun d hd => (bd_F o d hd).sm⟩)
    (fun x e => by injection e with e; subst e; exact ⟨by have := ws_len o; omega, fun d hd => (wss_F o d hd).ok⟩)
/-! rows as drawn are rows -/
theorem inM_ns {m : Nat} {l : List Nat} (h : ∀ i ∈ l, i < m) : (nsD l).all (inM m) = true := List.all_eq_true.mpr fun d hd => by
  obtain ⟨i, hi, rfl⟩ := List.mem_map.mp hd
  have := h i hi
  show (decide (0 ≤ (i : Int)) && decide ((i : Int) < (m : Int))) = true
  rw [decide_eq_true (by omega), decide_eq_true (by omega)]
  rfl
theorem pt_part {m : Nat} {p : Pt} (o : okP m p) : partD (m : Int) (ptD p) = true := by
  show (nameB p.nm && (decide ((nsD p.ls).length ≤ 4) && ((nsD p.ls).all (inM m) && decide (((nsD p.ls).map intOf).Nodup)))) = true
  have l3 : (nsD p.ls).length ≤ 4 := by rw [nsD_len, o.len]; have := ar_le p.nm; omega
  have nd : ((nsD p.ls).map intOf).Nodup := by
    unfold nsD
    rw [List.map_map]
    exact List.pairwise_map.mpr (o.nd.imp fun {a b} ne e => ne (by have e : (a : Int) = b := e; omega))
  rw [nm_name o.nm, decide_eq_true l3, inM_ns o.lt, decide_eq_true nd]
  rfl
theorem non_pt {p : Pt} : isNon (ptD p) = false := rfl
theorem row_is {r : Rw} (o : okR r) : rowD (rwD r) = true := by
  show rowC (hdD r.hd) (r.bd.map ptD) (r.ws.map wD) (r.mn : Int) = true
  have hm := o.mn
  have pb : (r.bd.map ptD).all (partD (r.mn : Int)) = true := List.all_eq_true.mpr fun d hd => by
    obtain ⟨p, hp, rfl⟩ := List.mem_map.mp hd
    exact pt_part (o.bd p hp)
  have pa : (ptsD (hdD r.hd) (r.bd.map ptD)).all (partD (r.mn : Int)) = true := by
    cases e : r.hd with
    | none => exact pb
    | some p =>
      show (partD (r.mn : Int) (ptD p) && _) = true
      rw [pt_part (o.hd p e)]
      exact pb
  rw [rowC_yes ⟨by omega, by omega⟩ (bd_len o) (by have := ws_len o; omega) pa, Int.toNat_natCast]
  refine List.all_eq_true.mpr fun d hd => ?_
  obtain ⟨w, hw, rfl⟩ := List.mem_map.mp hd
  exact isW_wD (o.ws w hw).1
theorem pairs_ar {r : Rw} (o : okR r) : ∀ x ∈ rwP ptsD (rwD r), x.2 = ar x.1 := by
  have go : ∀ {m : Nat} {p : Pt}, okP m p → (ptO (ptD p)).2 = ar (ptO (ptD p)).1 := fun {m p} o => by
    show (nsD p.ls).length = ar p.nm
    rw [nsD_len]
    exact o.len
  intro x hx
  have hx : x ∈ (ptsD (hdD r.hd) (r.bd.map ptD)).map ptO := hx
  obtain ⟨d, hd, rfl⟩ := List.mem_map.mp hx
  have bdc : d ∈ r.bd.map ptD → (ptO d).2 = ar (ptO d).1 := fun hd => by
    obtain ⟨p, hp, rfl⟩ := List.mem_map.mp hd
    exact go (o.bd p hp)
  cases e : r.hd with
  | none =>
    rw [e] at hd
    exact bdc hd
  | some p =>
    rw [e] at hd
    rcases List.mem_cons.mp (show d ∈ ptD p :: r.bd.map ptD from hd) with rfl | hd
    · exact go (o.hd p e)
    · exact bdc hd
theorem good_bad : ∀ (rs : List Rw) (i : Nat) (kn : Kn), (∀ r ∈ rs, okR r) → (∀ x ∈ kn, x.2 = ar x.1) → badI (rwP ptsD) i kn (rs.map rwD) = none
  | [], _, _, _, _ => rfl
  | r :: rs, i, kn, o, hk => by
    have fn : ∀ {l : Kn}, (∀ x ∈ l, x.2 = ar x.1) → Fn l := fun h p hp q hq e => by rw [h p hp, h q hq, e]
    have or := o r List.mem_cons_self
    show (if rowD (rwD r) = true then match fitL kn (rwP ptsD (rwD r)) with | some kn' => badI (rwP ptsD) (i + 1) kn' (rs.map rwD) | none => some i else some i) = none
    rw [row_is or, if_pos rfl]
    cases e : fitL kn (rwP ptsD (rwD r)) with
    | none => exact absurd (fn fun x hx => by
        rcases List.mem_append.mp hx with hx | hx
        · exact hk x hx
        · exact pairs_ar or x hx) (fit_none e)
    | some kn' =>
      obtain ⟨_, m, _⟩ := fit_some (fn hk) e
      exact good_bad rs (i + 1) kn' (fun r hr => o r (List.mem_cons_of_mem _ hr)) fun x hx => by
        rcases (m x).mp hx with hx | hx
        · exact hk x hx
        · exact pairs_ar or x hx
theorem good_N {rs : List Rw} (o : ∀ r ∈ rs, okR r) : badN (rwP ptsD) (rs.map rwD) = -1 := by
  unfold badN BadI
  rw [good_bad rs 0 [] o (fun _ hx => nomatch hx)]
theorem alike_DE (d : D) : Alike (rwP ptsD d) (rwP ptsE d) := fun x => by
  have go : ∀ a b, x ∈ (ptsD a b).map ptO ↔ x ∈ (ptsE a b).map ptO := fun a b => by
    unfold ptsD ptsE
    cases isNon a
    · simp [or_comm]
    · simp
  unfold rwP
  split
  · exact go _ _
  · exact Iff.rfl
theorem bad_DE (ds : List D) : badN (rwP ptsD) ds = badN (rwP ptsE) ds := by
  unfold badN BadI
  rw [bad_same (fun d _ => alike_DE d) (kn := []) (kn2 := []) (fun _ h => nomatch h) (fun _ h => nomatch h) (fun _ => Iff.rfl)]
end Lw
set_option maxHeartbeats 4000000
namespace Lw
open PySem Hr
/-! odd parts, odd wishes, bent rows -/
def smB : D → Bool
  | .str s => decide (s.length ≤ 1000)
  | .tup ds => decide (ds.length ≤ 1000)
  | _ => true
def smPB (d : D) : Bool := smB d && match d with
  | .tup ds => ds.all smB
  | _ => true
def ptB (d : D) : Bool := (okV d && (decide (dp d ≤ 3) && decide (wt d ≤ 3000))) && smPB d
theorem smB_of {d : D} (h : smB d = true) : Sm d := by
  cases d with
  | str s => exact ⟨fun t e => by injection e with e; subst e; exact of_decide_eq_true h, (fun t e => nomatch e)⟩
  | tup s => exact ⟨(fun t e => nomatch e), fun t e => by injection e with e; subst e; exact of_decide_eq_true h⟩
  | _ => exact .of (fun _ e => nomatch e) (fun _ e => nomatch e)
theorem ptB_of {d : D} (h : ptB d = true) : PtF d := by
  unfold ptB smPB at h
  simp only [Bool.and_eq_true, decide_eq_true_eq] at h
  refine ⟨⟨h.1.1, h.1.2.1, h.1.2.2⟩, ⟨smB_of h.2.1, fun ds e x hx => ?_⟩⟩
  subst e
  exact smB_of (List.all_eq_true.mp h.2.2 x hx)
def wdB : D → Bool
  | .str s => s = "least" || s = "above" || s = "most"
  | _ => false
def szB : D → Bool
  | .tup fs => decide (fs.length ≤ 1000)
  | _ => true
def wOkB : D → Bool
  | .tup ds => ds.all szB && match ds with
    | [_, _, z] => wdB z
    | _ => true
  | _ => true
def wsB (d : D) : Bool := (okV d && (decide (dp d ≤ 3) && decide (wt d ≤ 9000))) && wOkB d
theorem wdB_of {d : D} (h : wdB d = true) : d ∈ wds := by
  cases d with
  | str s =>
    have h : (s = "least" || s = "above" || s = "most") = true := h
    simp only [Bool.or_eq_true, decide_eq_true_eq] at h
    rcases h with (rfl | rfl) | rfl <;> simp [wds]
  | _ => cases h
theorem wsB_of {d : D} (h : wsB d = true) : WsF d := by
  unfold wsB at h
  simp only [Bool.and_eq_true, decide_eq_true_eq] at h
  refine ⟨⟨h.1.1, h.1.2.1, h.1.2.2⟩, ⟨fun ds e fs hf => ?_, fun a p z e => ?_⟩⟩
  · subst e
    have h := h.2
    unfold wOkB at h
    rw [Bool.and_eq_true] at h
    exact of_decide_eq_true (List.all_eq_true.mp h.1 _ hf)
  · subst e
    have h := h.2
    unfold wOkB at h
    rw [Bool.and_eq_true] at h
    exact wdB_of h.2
def oddPs (m : Nat) : List D := ([.tup [.str "a", .tup []], .tup [.str "a", .tup [.int 0, .int 1]], .tup [.str "bb", .tup [.int 0, .int 0]], .tup [.str "A", .tup [.int 0]], .tup [.str "", .tup [.int 0]], .tup [.str "ninesigns", .tup [.int 0]], .tup [.str "a", .lst [.int 0]], .non] ++
  [.tup [.str "a", .tup [.int (m : Int)]], .tup [.str "a", .tup [.int (-1)]], .tup [.str "a", .tup [.bl true]], .lst [.str "a", .tup [.int 0]], .tup [.str "a", .tup [.int 0], .int 0], .tup [.int 5, .tup [.int 0]], .tup [.str "new", .tup []]]) ++
  [.tup [.str "a", .tup [.int 0]], .tup [.str "q", .tup [.int 0, .int 1, .int 2, .int 3, .int 4]], .tup [.str "a\n", .tup [.int 0]]]
theorem oddPs_ok {m : Nat} (hm : m ≤ 3) : ∀ d ∈ oddPs m, PtF d := by
  have h : (oddPs m).all ptB = true := by
    have hm : m = 0 ∨ m = 1 ∨ m = 2 ∨ m = 3 := by omega
    rcases hm with rfl | rfl | rfl | rfl <;> decide +kernel
  exact fun d hd => ptB_of (List.all_eq_true.mp h d hd)
theorem trng5 {h : Hv} : opD false .trng [.int 5] h = .ok (.tup [.int 0, .int 1, .int 2, .int 3, .int 4]) h := by
  show tupO h (rngL 0 5) = _
  have e : rngL 0 5 = some [.int 0, .int 1, .int 2, .int 3, .int 4] := by
    unfold rngL
    rw [if_pos (by decide)]
    rfl
  rw [e]
  rfl
theorem oddpart_W {k n : Nat} {h : Hv} {m : Nat} {Q : D → Hv → Prop} {E : Exn → Hv → Prop} (p : PoolAt n h) (hm : m ≤ 3)
    (q : ∀ d h', Same n h h' → h'.length = h.length → PtF d → Q d h') : (callF G F (k + 2) i__law_odd_part false [.ref n, .int (m : Int)] h).W Q E := by
  refine call_W (fc := c__law_odd_part) rfl rfl ?_
  have hn := pool_lt p
  simp [c__law_odd_part, startE, Hr.exec, ev, evs, evc]
  rw [catLL (size_of (by simp)), mkL_val, W_ok, trng5, W_ok, catLL (size_of (by simp)), mkL_val, W_ok]
  refine draw_W (many := 18) p (by decide) (by decide) fun v h1 s1 l1 v0 v1 => ?_
  obtain ⟨x, hx, e⟩ := pick_ok (xs := oddPs m) (h := h1) v0 v1
  have e2 := e
  unfold oddPs at e2
  rw [e2, okD_some, W_ok]
  have f := oddPs_ok hm x hx
  exact settle_W (n := n) f.bx.below s1 hn fun h4 s4 l4 => q x h4 s4 l4 f
def zer (m : Nat) : List D := List.replicate m (.int 0)
def oddWs (m : Nat) : List D := ([.tup [.tup (zer m), .int 0, .str "most"], .tup [.tup (zer m ++ [.int 1]), .int 0, .str "least"], .tup [.lst (zer m), .int 0, .str "least"], .tup [.tup (zer m), .non, .str "least"]] ++
  [.tup [.tup (zer m), .bl true, .str "above"], .tup [.tup (zer m), .int 0], .tup [.tup (zer m), .int 0, .str "above"], .non, .tup [.tup (zer m ++ zer m), .int 0, .str "least"]]) ++ [.lst [.tup (zer m), .int 0, .str "least"]]
theorem oddWs_ok {m : Nat} (hm : m ≤ 3) : ∀ d ∈ oddWs m, WsF d := by
  have h : (oddWs m).all wsB = true := by
    have hm : m = 0 ∨ m = 1 ∨ m = 2 ∨ m = 3 := by omega
    rcases hm with rfl | rfl | rfl | rfl <;> decide +kernel
  exact fun d hd => wsB_of (List.all_eq_true.mp h d hd)
theorem zer_mul {h : Hv} {m : Nat} (hm : m ≤ 3) : binD false .Mult (.tup [.int 0]) (.int (m : Int)) h = .ok (.tup (zer m)) h := by
  have go : ∀ m : Nat, repTD [.int 0] (m : Int) = some (zer m) → binD false .Mult (.tup [.int 0]) (.int (m : Int)) h = .ok (.tup (zer m)) h := fun m e => by
    show tupO h (repTD [.int 0] (m : Int)) = _
    rw [e]
    rfl
  refine go m ?_
  have hm : m = 0 ∨ m = 1 ∨ m = 2 ∨ m = 3 := by omega
  rcases hm with rfl | rfl | rfl | rfl
  · rfl
  · rfl
  · rfl
  · rfl
theorem addTT {h : Hv} {a b : List D} (hl : a.length + b.length ≤ 16777216) : binD false .Add (.tup a) (.tup b) h = .ok (.tup (a ++ b)) h := if_pos ⟨rfl, size_of hl⟩
theorem addRL {n : Nat} {h : Hv} {xs ys : List D} (e : h[n]? = some (.lst xs)) (hl : xs.length + ys.length ≤ 16777216) : binD true .Add (.ref n) (.lst ys) h = .ok (.ref h.length) (h ++ [.lst (xs ++ ys)]) := by
  show catL true h (asL h (.ref n)) (some ys) = _
  rw [asL_at e]
  show (if xs.length + ys.length ≤ sizeLine then mkL true (xs ++ ys) h else .no) = _
  rw [if_pos (size_of hl)]
  rfl
theorem zer_len {m : Nat} : (zer m).length = m := List.length_replicate
theorem oddwish_W {k n : Nat} {h : Hv} {m : Nat} {Q : D → Hv → Prop} {E : Exn → Hv → Prop} (p : PoolAt n h) (hm : m ≤ 3)
    (q : ∀ d h', Same n h h' → h'.length = h.length → WsF d → Q d h') : (callF G F (k + 2) i__law_odd_wish false [.ref n, .int (m : Int)] h).W Q E := by
  refine call_W (fc := c__law_odd_wish) rfl rfl ?_
  have hn := pool_lt p
  have zl := zer_len (m := m)
  simp [c__law_odd_wish, startE, Hr.exec, ev, evs, evc]
  rw [zer_mul hm]
  simp
  rw [addTT (by simp; omega)]
  simp
  rw [addTT (by omega)]
  simp
  rw [addRL (xs := [.tup [.tup (zer m), .int 0, .str "most"], .tup [.tup (zer m ++ [.int 1]), .int 0, .str "least"], .tup [.lst (zer m), .int 0, .str "least"], .tup [.tup (zer m), .non, .str "least"]]) (by simp) (by simp)]
  simp
  have eY : [D.tup [D.tup (zer m), D.int 0, D.str "most"], D.tup [D.tup (zer m ++ [D.int 1]), D.int 0, D.str "least"], D.tup [D.lst (zer m), D.int 0, D.str "least"], D.tup [D.tup (zer m), D.non, D.str "least"], D.tup [D.tup (zer m), D.bl true, D.str "above"], D.tup [D.tup (zer m), D.int 0], D.tup [D.tup (zer m), D.int 0, D.str "above"], D.non, D.tup [D.tup (zer m ++ zer m), D.int 0, D.str "least"]] ++ [.lst [.tup (zer m), .int 0, .str "least"]] = oddWs m := rfl
  generalize hY : [D.tup [D.tup (zer m), D.int 0, D.str "most"], D.tup [D.tup (zer m ++ [D.int 1]), D.int 0, D.str "least"], D.tup [D.lst (zer m), D.int 0, D.str "least"], D.tup [D.tup (zer m), D.non, D.str "least"], D.tup [D.tup (zer m), D.bl true, D.str "above"], D.tup [D.tup (zer m), D.int 0], D.tup [D.tup (zer m), D.int 0, D.str "above"], D.non, D.tup [D.tup (zer m ++ zer m), D.int 0, D.str "least"]] = Y at eY ⊢
  generalize [D.tup [D.tup (zer m), D.int 0, D.str "most"], D.tup [D.tup (zer m ++ [D.int 1]), D.int 0, D.str "least"], D.tup [D.lst (zer m), D.int 0, D.str "least"], D.tup [D.tup (zer m), D.non, D.str "least"]] = X
  have lY : Y.length ≤ 1000 := by rw [← hY]; simp
  have e0 : (h ++ [Cell.lst X, Cell.lst Y])[h.length + 1]? = some (.lst Y) := by rw [List.getElem?_append_right (by omega), show h.length + 1 - h.length = 1 by omega]; rfl
  refine ⟨by rw [ty_ref e0]; rfl, ?_⟩
  rw [mt_append (t := .append) e0 (by omega), W_ok, eY]
  have sp : Same n h ((h ++ [Cell.lst X, Cell.lst Y]).set (h.length + 1) (.lst (oddWs m))) := by
    have s1 : Same n h (h ++ [Cell.lst X]) := .push p
    have s2 := s1.trans (.push (c := Cell.lst Y) s1.pool)
    rw [List.append_assoc] at s2
    exact s2.out (by omega) hn
  have e1 : ((h ++ [Cell.lst X, Cell.lst Y]).set (h.length + 1) (.lst (oddWs m)))[h.length + 1]? = some (.lst (oddWs m)) := List.getElem?_set_self (getElem?_lt e0)
  generalize (h ++ [Cell.lst X, Cell.lst Y]).set (h.length + 1) (.lst (oddWs m)) = H at sp e1 ⊢
  refine draw_W (many := 10) sp.pool (by decide) (by decide) fun v h1 s1 l1 v0 v1 => ?_
  have e2 : h1[h.length + 1]? = some (.lst (oddWs m)) := by rw [s1.at_ _ (getElem?_lt e1) (by omega)]; exact e1
  obtain ⟨x, hx, e⟩ := pick_ok (xs := oddWs m) (h := h1) v0 v1
  have e3 : idxD h1 (.ref (h.length + 1)) (.int v) = some x := by
    rw [idx_seq (show asS h1 (.ref (h.length + 1)) = some (oddWs m) from asL_at e2), ← e]
    rfl
  rw [e3, okD_some, W_ok]
  have f := oddWs_ok hm x hx
  exact settle_W (n := n) f.bx.below (sp.trans s1) hn fun h4 s4 l4 => q x h4 s4 l4 f
end Lw
set_option maxHeartbeats 4000000
namespace Lw
open PySem Hr
theorem cut_end {xs : List D} {j : Nat} (hj : 0 < j) : (cutB xs (some (-(j : Int))) none).Sublist xs ∧ (cutB xs (some (-(j : Int))) none).length ≤ xs.length := ⟨(List.take_sublist _ _).trans (List.drop_sublist _ _), ((List.take_sublist _ _).trans (List.drop_sublist _ _)).length_le⟩
theorem cut_mem {xs : List D} {lo hi : Option Int} : ∀ d ∈ cutB xs lo hi, d ∈ xs := fun d hd => ((List.take_sublist _ _).trans (List.drop_sublist _ _)).subset hd
theorem rep_tup {h : Hv} {xs : List D} {j : Nat} (hl : xs.length ≤ 1000) (hj : 2 ≤ j) (hj2 : j ≤ 1000) : ∃ ys, binD false .Mult (.tup xs) (.int (j : Int)) h = .ok (.tup ys) h ∧ ys.length = xs.length * j ∧ ∀ d ∈ ys, d ∈ xs := by
  by_cases c : xs.length = 0
  · have : xs = [] := List.length_eq_zero_iff.mp c
    subst this
    refine ⟨[], ?_, by simp, fun d hd => hd⟩
    show tupO h (repTD [] (j : Int)) = _
    unfold repTD
    have c1 : ¬ repTOk ([] : List D).length (j : Int) := fun z => z.1 rfl
    have c2 : -1000 ≤ (j : Int) ∧ (j : Int) ≤ 1000 := ⟨by omega, by omega⟩
    rw [if_neg c1, if_pos c2]
    rfl
  · refine ⟨rep xs j, ?_, ?_, fun d hd => ?_⟩
    · show tupO h (repTD xs (j : Int)) = _
      unfold repTD
      rw [if_pos ⟨c, by omega, by omega, hl⟩]
      rfl
    · unfold rep
      simp [Nat.mul_comm]
    · unfold rep at hd
      obtain ⟨l, hl, hd⟩ := List.mem_flatten.mp hd
      rw [(List.mem_replicate.mp hl).2] at hd
      exact hd
theorem bent_rest {k n : Nat} {h h0 : Hv} {r : Rw} {v : Int} {Q : D → Hv → Prop} {E : Exn → Hv → Prop} (s0 : Same n h h0) (hn : n < h.length) (o : okR r) (v0 : 0 ≤ v) (v1 : v < 9)
    (q : ∀ d h', Same n h h' → h'.length = h.length → RwF d → Q d h') : (execs ⟨callF G F (k + 2), G, none⟩ (c__law_bent_row.body.drop 2) [some (.ref n), some (rwD r), some (hdD r.hd), some (.tup (r.bd.map ptD)), some (.tup (r.ws.map wD)), some (.int (r.mn : Int)), some (.int v)] h0).W (retP false h Q E) := by
  have hm := o.mn
  have hF := hd_F o.hd o.mn
  have bF := bd_F o
  have wF := wss_F o
  have lb := bd_len o
  have lw := ws_len o
  have eR : rwD r = .tup [hdD r.hd, .tup (r.bd.map ptD), .tup (r.ws.map wD), .int (r.mn : Int)] := rfl
  have mP : Pl (.int (r.mn : Int)) := .m (.sml (by omega))
  rw [eR]
  generalize hdD r.hd = a at hF ⊢
  generalize r.bd.map ptD = b at bF lb ⊢
  generalize r.ws.map wD = c at wF lw ⊢
  generalize r.mn = m at hm mP ⊢
  have fin : ∀ d h', RwF d → Same n h h' → (settle h d h').W Q E := fun d h' f s => settle_W (n := n) f.bx.below s hn fun h4 s4 l4 => q d h4 s4 l4 f
  have bd7 : ∀ ds : List D, (∀ d ∈ ds, PtF d) → ds.length ≤ 7 → Pl (.tup ds) ∧ ∀ x, D.tup ds = .tup x → x.length ≤ 1000 ∧ ∀ d ∈ x, SmP d := fun ds f l => ⟨.bd f l, fun x e => by injection e with e; subst e; exact ⟨by omega, fun d hd => (f d hd).sm⟩⟩
  have ws30 : ∀ ds : List D, (∀ d ∈ ds, WsF d) → ds.length ≤ 30 → Pl (.tup ds) ∧ ∀ x, D.tup ds = .tup x → x.length ≤ 1000 ∧ ∀ d ∈ x, WOk d := fun ds f l => ⟨.ws f l, fun x e => by injection e with e; subst e; exact ⟨by omega, fun d hd => (f d hd).ok⟩⟩
  have b7 := bd7 b bF (by omega)
  have c30 := ws30 c wF (by omega)
  by_cases w2 : v < 2
  · simp [c__law_bent_row, Hr.exec, ev, evs, evc, w2]
    refine oddpart_W s0.pool hm fun d h1 s1 l1 f => ?_
    exact fin _ _ (row_F (.pt f) b7.1 c30.1 mP f.sm b7.2 c30.2) (s0.trans s1)
  by_cases w4 : v < 4
  · simp [c__law_bent_row, Hr.exec, ev, evs, evc, w2, w4, evo, optI, asI]
    refine oddpart_W s0.pool hm fun d h1 s1 l1 f => ?_
    rw [addTT (by simp; omega)]
    simp
    have bF2 : ∀ x ∈ b ++ [d], PtF x := fun x hx => by
      rcases List.mem_append.mp hx with hx | hx
      · exact bF x hx
      · rw [List.mem_singleton.mp hx]; exact f
    have lc := cutB_len (xs := b ++ [d]) (lo := some (-2)) (hi := none)
    rw [List.length_append, List.length_singleton] at lc
    have b8 := bd7 (cutB (b ++ [d]) (some (-2)) none) (fun x hx => bF2 x (cut_mem x hx)) (by omega)
    exact fin _ _ (row_F (.pt hF) b8.1 c30.1 mP hF.sm b8.2 c30.2) (s0.trans s1)
  by_cases w6 : v < 6
  · simp [c__law_bent_row, Hr.exec, ev, evs, evc, w2, w4, w6]
    refine oddwish_W s0.pool hm fun d h1 s1 l1 f => ?_
    rw [addTT (by simp; omega)]
    simp
    have wF2 : ∀ x ∈ c ++ [d], WsF x := fun x hx => by
      rcases List.mem_append.mp hx with hx | hx
      · exact wF x hx
      · rw [List.mem_singleton.mp hx]; exact f
    have c31 := ws30 (c ++ [d]) wF2 (by simp; omega)
    exact fin _ _ (row_F (.pt hF) b7.1 c31.1 mP hF.sm b7.2 c31.2) (s0.trans s1)
  by_cases e6 : v = 6
  · subst e6
    simp [c__law_bent_row, Hr.exec, ev, evs, evc]
    refine draw_W (many := 7) s0.pool (by decide) (by decide) fun v h1 s1 l1 v0 v1 => ?_
    obtain ⟨x, hx, e⟩ := pick_ok (xs := [.int ((m : Int) + 1), .int ((m : Int) - 1), .int 11, .int (-1), .non, .bl true, .int 10]) (h := h1) v0 v1
    have xb : Bx 0 150 x := by
      simp only [List.mem_cons, List.not_mem_nil, or_false] at hx
      rcases hx with rfl | rfl | rfl | rfl | rfl | rfl | rfl
      · exact .sml (by omega)
      · exact .sml (by omega)
      · exact .sml (by decide)
      · exact .sml (by decide)
      · exact .non
      · exact .bl
      · exact .sml (by decide)
    simp [e]
    exact fin _ _ (row_F (.pt hF) b7.1 c30.1 (.m xb) hF.sm b7.2 c30.2) (s0.trans s1)
  by_cases e7 : v = 7
  · subst e7
    simp [c__law_bent_row, Hr.exec, ev, evs, evc, evo, optI, asI]
    rw [addTT (by simp)]
    simp
    have e3 : cutB [a, .tup b, .tup c, .int (m : Int)] none (some 3) = [a, .tup b, .tup c] := rfl
    rw [e3]
    refine draw_W (many := 6) s0.pool (by decide) (by decide) fun v h1 s1 l1 v0 v1 => ?_
    obtain ⟨x, hx, e⟩ := pick_ok (xs := [.lst [a, .tup b, .tup c, .int (m : Int)], .tup [a, .tup b, .tup c], .tup [a, .tup b, .tup c, .int (m : Int), .int 0], .non, .str "row", .tup [a, .lst b, .tup c, .int (m : Int)]]) (h := h1) v0 v1
    simp [e]
    have aP : Pl a := .pt hF
    have zP : Pl (.int 0) := .m (.sml (by decide))
    refine fin _ _ ?_ (s0.trans s1)
    simp only [List.mem_cons, List.not_mem_nil, or_false] at hx
    rcases hx with rfl | rfl | rfl | rfl | rfl | rfl
    · have bx := pls_lst (ds := [a, .tup b, .tup c, .int (m : Int)]) (by simp only [List.forall_mem_cons]; exact ⟨aP, b7.1, c30.1, mP, fun _ h => nomatch h⟩) (by simp)
      exact ⟨bx, no_row bx.below fun _ e => nomatch e⟩
    · have bx := pls_tup (ds := [a, .tup b, .tup c]) (by simp only [List.forall_mem_cons]; exact ⟨aP, b7.1, c30.1, fun _ h => nomatch h⟩) (by simp)
      exact ⟨bx, not_four bx.below (by simp) (by simp)⟩
    · have bx := pls_tup (ds := [a, .tup b, .tup c, .int (m : Int), .int 0]) (by simp only [List.forall_mem_cons]; exact ⟨aP, b7.1, c30.1, mP, zP, fun _ h => nomatch h⟩) (by simp)
      exact ⟨bx, not_four bx.below (by simp) (by simp)⟩
    · exact ⟨Bx.non.mono (by decide) (by decide), no_row rfl fun _ e => nomatch e⟩
    · exact ⟨(Bx.str (by decide +kernel)).mono (by decide) (by decide), no_row rfl fun _ e => nomatch e⟩
    · exact row_F aP (.bdL bF (by omega)) c30.1 mP hF.sm (fun _ e => nomatch e) c30.2
  · obtain rfl : v = 8 := by omega
    obtain ⟨b3, eb, lb3, mb⟩ := rep_tup (h := h0) (xs := b) (j := 3) (by omega) (by decide) (by decide)
    obtain ⟨c7, ec, lc7, mc⟩ := rep_tup (h := h0) (xs := c) (j := 7) (by omega) (by decide) (by decide)
    have eb : binD false .Mult (.tup b) (.int 3) h0 = .ok (.tup b3) h0 := eb
    have ec : binD false .Mult (.tup c) (.int 7) h0 = .ok (.tup c7) h0 := ec
    simp [c__law_bent_row, Hr.exec, ev, evs, evc, eb, ec]
    refine draw_W (many := 3) s0.pool (by decide) (by decide) fun v h1 s1 l1 v0 v1 => ?_
    obtain ⟨x, hx, e⟩ := pick_ok (xs := [.tup [a, .tup b3, .tup c, .int (m : Int)], .tup [a, .tup b, .tup c7, .int (m : Int)], .tup [a, .tup b, .lst c, .int (m : Int)]]) (h := h1) v0 v1
    simp [e]
    refine fin _ _ ?_ (s0.trans s1)
    have b8 := bd7 b3 (fun x hx => bF x (mb x hx)) (by omega)
    have c8 := ws30 c7 (fun x hx => wF x (mc x hx)) (by omega)
    simp only [List.mem_cons, List.not_mem_nil, or_false] at hx
    rcases hx with rfl | rfl | rfl
    · exact row_F (.pt hF) b8.1 c30.1 mP hF.sm b8.2 c30.2
    · exact row_F (.pt hF) b7.1 c8.1 mP hF.sm b7.2 c8.2
    · exact row_F (.pt hF) b7.1 (.wsL wF (by omega)) mP hF.sm b7.2 (fun _ e => nomatch e)
theorem bent_W {k n : Nat} {h : Hv} {r : Rw} {Q : D → Hv → Prop} {E : Exn → Hv → Prop} (p : PoolAt n h) (o : okR r)
    (q : ∀ d h', Same n h h' → h'.length = h.length → RwF d → Q d h') : (callF G F (k + 3) i__law_bent_row false [.ref n, rwD r] h).W Q E := by
  refine call_W (fc := c__law_bent_row) rfl rfl ?_
  have hn := pool_lt p
  have eb : c__law_bent_row.body = c__law_bent_row.body.take 2 ++ c__law_bent_row.body.drop 2 := rfl
  rw [eb, SW_append]
  have rest := fun (v : Int) h0 (s0 : Same n h h0) v0 v1 => bent_rest (k := k) (E := E) (v := v) s0 hn o v0 v1 q
  generalize c__law_bent_row.body.drop 2 = tl at rest ⊢
  simp [c__law_bent_row, startE, Hr.exec, ev, evs, evc, rwD]
  refine draw_W (many := 9) p (by decide) (by decide) fun v h1 s1 l1 v0 v1 => ?_
  exact rest v h1 s1 v0 v1
end Lw
set_option maxHeartbeats 4000000
namespace Lw
open PySem Hr
/-! the law, piece by piece -/
def bodyOf : List Sc → List Sc
  | .for_ _ _ b :: _ => b
  | _ => []
def lawB : List Sc := bodyOf c_law.body
def turnB : List Sc := bodyOf (lawB.drop 3)
def oddB : List Sc := bodyOf (lawB.drop 4)
def endB : List Sc := bodyOf (c_law.body.drop 5)
theorem bad_lt {f : D → Kn} : ∀ {ds : List D} {i j : Nat} {kn : Kn}, badI f i kn ds = some j → j < i + ds.length
  | [], _, _, _, e => nomatch e
  | d :: ds, i, j, kn, e => by
    have e : (if rowD d = true then match fitL kn (f d) with | some kn' => badI f (i + 1) kn' ds | none => some i else some i) = some j := e
    rw [List.length_cons]
    split at e
    · split at e
      · have := bad_lt e
        omega
      · injection e with e
        omega
    · injection e with e
      omega
theorem badN_small {f : D → Kn} {ds : List D} (h : ds.length ≤ 40) : (badN f ds).natAbs ≤ 1000 := by
  unfold badN BadI
  cases e : badI f 0 [] ds with
  | none => show (-1 : Int).natAbs ≤ 1000; decide
  | some i =>
    have := bad_lt e
    show ((i : Int)).natAbs ≤ 1000
    omega
theorem rep_bx {h : Hv} {n w : Nat} {d : D} (b : Bx n w d) (hn : n ≤ 60) (hw : w ≤ 16777216) : reprD h d = some (.str (pd d).shown) := reprD_ok b.ok (Nat.le_trans b.dp hn) (Nat.le_trans b.wt hw)
theorem rows_F {rs : List Rw} (ok : ∀ r ∈ rs, okR r) : ∀ d ∈ rs.map rwD, RwF d := fun d hd => by
  obtain ⟨r, hr, rfl⟩ := List.mem_map.mp hd
  exact good_F (ok r hr)
theorem len_lst {h : Hv} {xs : List D} : lenD h (.lst xs) = some xs.length := rfl
theorem told_rows {k : Nat} {h : Hv} {rs : List Rw} {Q : D → Hv → Prop} {E : Exn → Hv → Prop} (l1 : 1 ≤ rs.length) (l7 : rs.length ≤ 7) (ok : ∀ r ∈ rs, okR r) (q : Q (.int (-1)) h) : (callF G F (k + 5) i__law_told false [.lst (rs.map rwD)] h).W Q E :=
  told_W (by rw [List.length_map]; exact l1) (by rw [List.length_map]; omega) (fun d hd => (rows_F ok d hd).ro) (by rw [good_N ok]; exact q)
theorem cut_suf {α : Type} {xs : List α} {n : Nat} : (cutB xs (some (n : Int)) none).length ≤ xs.length - n := by
  unfold cutB
  have e1 : HT.sIx xs.length 0 (some (n : Int)) = min n xs.length := by
    show (if (n : Int) < 0 then ((n : Int) + (xs.length : Int)).toNat else min (n : Int).toNat xs.length) = _
    rw [if_neg (by omega)]
    rfl
  rw [e1, List.length_take, List.length_drop]
  omega
theorem turn_W {k n : Nat} {h : Hv} {rs : List Rw} {P : Po} {a0 a1 a2 a3 a4 a5 a6 a7 a10 a11 a12 a13 a14 : Option D} (p : PoolAt n h) (l1 : 1 ≤ rs.length) (l7 : rs.length ≤ 7) (ok : ∀ r ∈ rs, okR r)
    (q : ∀ env h', PoolAt n h' → (∃ b5 b11 b12 b13, env = [a0, a1, a2, a3, a4, b5, a6, a7, some (.ref n), some (.lst (rs.map rwD)), a10, b11, b12, b13, a14]) → P.nx env h') :
    (execs ⟨callF G F (k + 5), G, none⟩ turnB [a0, a1, a2, a3, a4, a5, a6, a7, some (.ref n), some (.lst (rs.map rwD)), a10, a11, a12, a13, a14] h).W P := by
  have hn := pool_lt p
  simp [turnB, lawB, bodyOf, c_law, Hr.exec, ev, evs, evc, evo, optI, asI]
  refine draw_W (many := (rs.length : Int)) p (by omega) (by omega) fun v h1 s1 lh1 v0 v1 => ?_
  obtain ⟨x, hx, e⟩ := pick_ok (xs := rs.map rwD) (h := h1) v0 (by rw [List.length_map]; exact v1)
  obtain ⟨r, hr, rfl⟩ := List.mem_map.mp hx
  simp [e]
  refine bent_W s1.pool (ok r hr) fun d h2 s2 lh2 f => ?_
  have v2 : ∃ j : Nat, v = j := ⟨v.toNat, by omega⟩
  obtain ⟨j, rfl⟩ := v2
  have lL : (rs.map rwD).length ≤ 7 := by rw [List.length_map]; exact l7
  have rF := rows_F ok
  have lenL : rs.length = (rs.map rwD).length := (List.length_map _).symm
  generalize hL : rs.map rwD = L at lL rF lenL ⊢
  have lc1 := cutB_len (xs := L) (lo := none) (hi := some (j : Int))
  have lc2 := cutB_len (xs := L) (lo := some ((j : Int) + 1)) (hi := none)
  rw [catLL (size_of (by simp; omega)), mkL_val, W_ok, catLL (size_of (by simp; omega)), mkL_val, W_ok]
  have bF : ∀ x ∈ cutB L none (some (j : Int)) ++ [d] ++ cutB L (some ((j : Int) + 1)) none, RwF x := fun x hx => by
    rcases List.mem_append.mp hx with hx | hx
    · rcases List.mem_append.mp hx with hx | hx
      · exact rF x (cut_mem x hx)
      · rw [List.mem_singleton.mp hx]; exact f
    · exact rF x (cut_mem x hx)
  have lb1 : 1 ≤ (cutB L none (some (j : Int)) ++ [d] ++ cutB L (some ((j : Int) + 1)) none).length := by simp; omega
  have lb2 : (cutB L none (some (j : Int)) ++ [d] ++ cutB L (some ((j : Int) + 1)) none).length ≤ 8 := by
    have c1 : (cutB L none (some (j : Int))).length ≤ j := by
      rw [cut_pre, List.length_take]
      omega
    have c2 : (cutB L (some ((j : Int) + 1)) none).length ≤ L.length - (j + 1) := cut_suf (n := j + 1)
    have c3 : j < L.length := by rw [← lenL]; omega
    rw [List.length_append, List.length_append, List.length_singleton]
    omega
  generalize cutB L none (some (j : Int)) ++ [d] ++ cutB L (some ((j : Int) + 1)) none = B at bF lb1 lb2 ⊢
  have bB : Bx 7 12900000 (.lst B) := (Bx.lst (fun x hx => (bF x hx).bx) lb2).mono (by decide) (by decide)
  have rB : ∀ h, reprD h (.lst B) = some (.str (pd (.lst B)).shown) := fun h => rep_bx bB (by decide) (by decide)
  have rb : ∀ (b : Bool) h, reprD h (.bl b) = some (.str (pd (.bl b)).shown) := fun b h => rep_bx .bl (by decide) (by decide)
  have rn : ∀ h, reprD h (.int (badN (rwP ptsE) B)) = some (.str (pd (.int (badN (rwP ptsE) B))).shown) := fun h => rep_bx (.sml (badN_small (by omega))) (by decide) (by decide)
  simp [rB]
  refine isrow_W f.ro ?_
  simp [rb]
  refine rowso_W f.ro ?_
  simp [rb, cmpD_ne]
  refine told_W lb1 (by omega) (fun x hx => (bF x hx).ro) ?_
  rw [bad_DE]
  simp [rn]
  refine first_W (by omega) (fun x hx => (bF x hx).ro) ?_
  simp [rn, rB, cmpD_ne]
  exact q _ _ (s1.trans s2).pool ⟨_, _, _, _, by rw [hL]⟩
/-! things that are no rows -/
structure NoR (d : D) : Prop where
  b : below 0 d = true
  ro : ∀ ds, d ≠ .ro ds
  ls : ∀ ds, d = .lst ds → ds.length ≤ 1000 ∧ ¬ (1 ≤ ds.length ∧ ds.length ≤ 40)
theorem odds_W {k n : Nat} {h : Hv} {P : Po} {a0 a1 a2 a3 a4 a5 a6 a7 a9 a10 a11 a12 a13 a14 : Option D} {l : List D} (p : PoolAt n h) (hl : ∀ d ∈ l, NoR d)
    (q : ∀ env h', PoolAt n h' → (∃ b5, env = [a0, a1, a2, a3, a4, b5, a6, a7, some (.ref n), a9, a10, a11, a12, a13, a14]) → P.nx env h') :
    (loopF (fun _ => True) (fun d env h => match setT (.nm 5) d env with | some env => execs ⟨callF G F (k + 5), G, none⟩ oddB env h | none => .no) l [a0, a1, a2, a3, a4, a5, a6, a7, some (.ref n), a9, a10, a11, a12, a13, a14] h).W P := by
  refine loop_WD (fun l env h' => PoolAt n h' ∧ (∃ b5, env = [a0, a1, a2, a3, a4, b5, a6, a7, some (.ref n), a9, a10, a11, a12, a13, a14]) ∧ ∀ d ∈ l, NoR d) (fun _ _ _ _ => trivial) ?_ ?_ _ _ _ ⟨p, ⟨_, rfl⟩, hl⟩
  · rintro d l env h' ⟨p', ⟨b5, rfl⟩, hl⟩
    have nd := hl d List.mem_cons_self
    simp [oddB, lawB, bodyOf, c_law, Hr.exec, ev, evs, evc]
    refine toldno_W nd.b nd.ro nd.ls ?_
    simp [isNon]
    exact ⟨p', fun d hd => hl d (List.mem_cons_of_mem _ hd)⟩
  · rintro env h' ⟨p', e, _⟩
    exact q env h' p' e
end Lw
set_option maxHeartbeats 4000000
namespace Lw
open PySem Hr
/-! the law's end: rows by hand -/
def w10 : D := .tup [.tup (List.replicate 10 (.int 1)), .int 0, .str "least"]
def p9 : D := .tup [.str "a", .tup [.int 9]]
def b89 : List D := [.tup [.str "a", .tup [.int 0]], .tup [.str "a", .tup [.int 8]]]
def full : D := .tup [p9, .tup b89, .tup (List.replicate 6 w10), .int 10]
def both : D := .tup [.tup [.str "a", .tup [.int 0]], .tup [.tup [.str "a", .tup [.int 0, .int 1]]], .tup [], .int 2]
def full7 : D := .tup [p9, .tup b89, .tup (List.replicate 7 w10), .int 10]
def full11 : D := .tup [p9, .tup b89, .tup (List.replicate 6 w10), .int 11]
def full9 : D := .tup [p9, .tup b89, .tup (List.replicate 6 w10), .int 9]
theorem w10_F : WsF w10 := wsB_of (by decide +kernel)
theorem p9_F : PtF p9 := ptB_of (by decide +kernel)
theorem b89_F : ∀ d ∈ b89, PtF d := fun d hd => by
  simp only [b89, List.mem_cons, List.not_mem_nil, or_false] at hd
  rcases hd with rfl | rfl <;> exact ptB_of (by decide +kernel)
theorem full_ro {n : Nat} {m : Int} (hn : n ≤ 7) (hm : m.natAbs ≤ 1000) : RowOk (.tup [p9, .tup b89, .tup (List.replicate n w10), .int m]) :=
  (row_F (.pt p9_F) (.bd b89_F (by decide)) (.ws (fun d hd => by rw [(List.mem_replicate.mp hd).2]; exact w10_F) (by rw [List.length_replicate]; omega)) (.m (.sml hm)) p9_F.sm
    (fun x e => by injection e with e; subst e; exact ⟨by decide, fun d hd => (b89_F d hd).sm⟩)
    (fun x e => by injection e with e; subst e; exact ⟨by rw [List.length_replicate]; omega, fun d hd => by rw [(List.mem_replicate.mp hd).2]; exact w10_F.ok⟩)).ro
theorem both_ro : RowOk both := by
  have f1 : PtF (.tup [.str "a", .tup [.int 0]]) := ptB_of (by decide +kernel)
  have f2 : ∀ d ∈ [D.tup [.str "a", .tup [.int 0, .int 1]]], PtF d := fun d hd => by rw [List.mem_singleton.mp hd]; exact ptB_of (by decide +kernel)
  exact (row_F (.pt f1) (.bd f2 (by decide)) (.ws (ds := []) (fun _ h => nomatch h) (by decide)) (.m (.sml (by decide))) f1.sm
    (fun x e => by injection e with e; subst e; exact ⟨by decide, fun d hd => (f2 d hd).sm⟩)
    (fun x e => by injection e with e; subst e; exact ⟨by decide, fun _ h => nomatch h⟩)).ro
theorem bare_ro : RowOk (.tup [.non, .tup [], .tup [], .int 0]) := by
  have f1 : PtF .non := ptB_of (by decide +kernel)
  exact (row_F (.pt f1) (.bd (ds := []) (fun _ h => nomatch h) (by decide)) (.ws (ds := []) (fun _ h => nomatch h) (by decide)) (.m (.sml (by decide))) f1.sm
    (fun x e => by injection e with e; subst e; exact ⟨by decide, fun _ h => nomatch h⟩)
    (fun x e => by injection e with e; subst e; exact ⟨by decide, fun _ h => nomatch h⟩)).ro
theorem z_ro : RowOk (.tup [.str "z", .tup []]) := not_four (by decide +kernel) (by decide) (by decide)
theorem n_full : badN (rwP ptsD) [full] = -1 := by decide +kernel
theorem n_both : badN (rwP ptsD) [both] = 0 := by decide +kernel
theorem n_full7 : badN (rwP ptsD) [full7] = 0 := by decide +kernel
theorem n_full11 : badN (rwP ptsD) [full11] = 0 := by decide +kernel
theorem n_full9 : badN (rwP ptsD) [full9] = 0 := by decide +kernel
theorem n_bare : badN (rwP ptsD) (List.replicate 40 (.tup [.non, .tup [], .tup [], .int 0])) = -1 := by decide +kernel
theorem n_z : badN (rwP ptsD) [.tup [.str "z", .tup []], full] = 0 := by decide +kernel
/-- a row by hand with its due -/
structure Due (d : D) : Prop where
  mk_ : ∃ r i, d = .tup [r, .int i] ∧ RowOk r ∧ badN (rwP ptsD) [r] = i
theorem mulT {h : Hv} {x : D} {n : Nat} (h2 : 2 ≤ n) (hn : n ≤ 1000) : binD false .Mult (.tup [x]) (.int (n : Int)) h = .ok (.tup (List.replicate n x)) h := by
  show tupO h (repTD [x] (n : Int)) = _
  unfold repTD
  rw [if_pos ⟨by simp, by omega, by omega, by simp⟩]
  have e : Hr.rep [x] (n : Int) = List.replicate n x := by
    unfold Hr.rep
    rw [Int.toNat_natCast]
    induction n with
    | zero => rfl
    | succ n ih =>
      clear ih
      have : ∀ m : Nat, (List.replicate m [x]).flatten = List.replicate m x := fun m => by
        induction m with
        | zero => rfl
        | succ m ih => rw [List.replicate_succ, List.flatten_cons, ih, List.replicate_succ]; rfl
      exact this _
  exact congrArg (fun l => Rs.ok (D.tup l) h) e
theorem mulLs {h : Hv} {xs : List D} {n : Nat} (hn : xs.length * n ≤ 16777216) (h6 : n < 2 ^ 62) : binD false .Mult (.lst xs) (.int (n : Int)) h = .ok (.lst (Hr.rep xs (n : Int))) h := by
  have : repOk xs.length (n : Int) := ⟨by omega, by omega, by rw [Int.toNat_natCast]; exact size_of hn⟩
  have e : binD false .Mult (.lst xs) (.int (n : Int)) h = (if Operator.Mult = .Mult then repL false h (n : Int) (asL h (.lst xs)) else .no) := rfl
  rw [e, if_pos rfl]
  have e2 : repL false h (n : Int) (some xs) = (if repOk xs.length (n : Int) then mkL false (Hr.rep xs (n : Int)) h else .no) := rfl
  rw [show asL h (.lst xs) = some xs from rfl, e2, if_pos this]
  exact mkL_val
theorem rep_len {xs : List D} {n : Nat} : (Hr.rep xs (n : Int)).length = xs.length * n := by
  unfold Hr.rep
  simp [Nat.mul_comm]
theorem end_W {k : Nat} {h : Hv} {Q : D → Hv → Prop} {E : Exn → Hv → Prop} {a0 a1 a2 a3 a4 a5 a6 a7 a8 a9 a10 a11 a12 a13 a14 : Option D}
    (q : Q (.bl true) []) : (execs ⟨callF G F (k + 5), G, none⟩ (c_law.body.drop 1) [a0, a1, a2, a3, a4, a5, a6, a7, a8, a9, a10, a11, a12, a13, a14] h).W (retP false [] Q E) := by
  have eb : c_law.body.drop 1 = (c_law.body.drop 1).take 4 ++ (c_law.body.drop 5) := rfl
  rw [eb, SW_append]
  have m10 : ∀ h, binD false .Mult (.tup [.int 1]) (.int 10) h = .ok (.tup (List.replicate 10 (.int 1))) h := fun h => mulT (n := 10) (by decide) (by decide)
  have m6 : ∀ h, binD false .Mult (.tup [w10]) (.int 6) h = .ok (.tup (List.replicate 6 w10)) h := fun h => mulT (n := 6) (by decide) (by decide)
  have m7 : ∀ h, binD false .Mult (.tup [w10]) (.int 7) h = .ok (.tup (List.replicate 7 w10)) h := fun h => mulT (n := 7) (by decide) (by decide)
  have ew : D.tup [.tup (List.replicate 10 (.int 1)), .int 0, .str "least"] = w10 := rfl
  have tail : ∀ (b6 b7 b14 : Option D), (execs ⟨callF G F (k + 5), G, none⟩ (c_law.body.drop 5) [a0, a1, some w10, some full, some both, some (.lst [both, full7, full11, full9]), b6, b7, a8, a9, a10, a11, a12, a13, b14] h).W (retP false [] Q E) := fun b6 b7 b14 => by
    have m40 : ∀ h, binD false .Mult (.lst [.tup [.non, .tup [], .tup [], .int 0]]) (.int 40) h = .ok (.lst (List.replicate 40 (.tup [.non, .tup [], .tup [], .int 0]))) h := fun h => by
      have := mulLs (h := h) (xs := [.tup [.non, .tup [], .tup [], .int 0]]) (n := 40) (by decide) (by decide)
      exact this
    simp [c_law, Hr.exec, ev, evs, evc]
    refine comp_idTo (en2 := fun d : D => .tup [d, .int 0]) [both, full7, full11, full9] id trivial (fun x hx => by simp) ?_
    simp
    rw [catLL (by simp), mkL_val, W_ok]
    simp
    refine loop_WD (fun l env h' => h' = h ∧ (∀ d ∈ l, Due d) ∧ ∃ c6 c7, env = [a0, a1, some w10, some full, some both, some (.lst [both, full7, full11, full9]), c6, c7, a8, a9, a10, a11, a12, a13, b14]) (fun _ _ _ _ => trivial) ?_ ?_ _ _ _ ⟨rfl, ?_, _, _, rfl⟩
    · rintro d l env h' ⟨rfl, dl, c6, c7, rfl⟩
      obtain ⟨r, i, rfl, ro, e⟩ := (dl d List.mem_cons_self).mk_
      simp [setT, setTs, Hr.exec, ev, evs]
      refine told_W (by simp) (by simp) (fun x hx => by rw [List.mem_singleton.mp hx]; exact ro) ?_
      rw [e]
      simp [cmpD_ne]
      exact fun d hd => dl d (List.mem_cons_of_mem _ hd)
    · rintro env h' ⟨rfl, _, c6, c7, rfl⟩
      simp [m40, Hr.exec, ev, evs, -List.reduceReplicate]
      refine told_W (by simp) (by simp) (fun x hx => by rw [(List.mem_replicate.mp hx).2]; exact bare_ro) ?_
      rw [n_bare]
      simp [cmpD_eq]
      rw [catLL (by simp), mkL_val, W_ok]
      refine told_W (by simp) (by simp) (fun x hx => ?_) ?_
      · simp only [List.cons_append, List.nil_append, List.mem_cons, List.not_mem_nil, or_false] at hx
        rcases hx with rfl | rfl
        · exact z_ro
        · exact full_ro (by decide) (by decide)
      · rw [show ([D.tup [.str "z", .tup []]] ++ [full]) = [.tup [.str "z", .tup []], full] from rfl, n_z]
        simp [cmpD_eq]
        have e : settle [] (.bl true) h' = .ok (.bl true) [] := by
          rw [settle_pure rfl fun n c e => by simp at e]
          rfl
        rw [e, W_ok]
        exact q
    · intro d hd
      simp only [List.mem_cons, List.not_mem_nil, or_false] at hd
      rcases hd with rfl | rfl | rfl | rfl | rfl
      · exact ⟨_, _, rfl, full_ro (by decide) (by decide), n_full⟩
      · exact ⟨_, _, rfl, both_ro, n_both⟩
      · exact ⟨_, _, rfl, full_ro (by decide) (by decide), n_full7⟩
      · exact ⟨_, _, rfl, full_ro (by decide) (by decide), n_full11⟩
      · exact ⟨_, _, rfl, full_ro (by decide) (by decide), n_full9⟩
  generalize c_law.body.drop 5 = tl at tail ⊢
  simp [c_law, Hr.exec, ev, evs, evc, evo, optI, asI, m10, -List.reduceReplicate]
  simp [ew, m6, m7, -List.reduceReplicate]
  have e1 : D.tup [.tup [.str "a", .tup [.int 9]], .tup [.tup [.str "a", .tup [.int 0]], .tup [.str "a", .tup [.int 8]]], .tup (List.replicate 6 w10), .int 10] = full := rfl
  have c2 : cutB [D.tup [.str "a", .tup [.int 9]], .tup [.tup [.str "a", .tup [.int 0]], .tup [.str "a", .tup [.int 8]]], .tup (List.replicate 6 w10), .int 10] none (some 2) = [p9, .tup b89] := rfl
  have c3 : cutB [D.tup [.str "a", .tup [.int 9]], .tup [.tup [.str "a", .tup [.int 0]], .tup [.str "a", .tup [.int 8]]], .tup (List.replicate 6 w10), .int 10] none (some 3) = [p9, .tup b89, .tup (List.replicate 6 w10)] := rfl
  rw [c2, c3]
  rw [addTT (by simp)]
  simp
  rw [addTT (by simp)]
  simp
  rw [addTT (by simp)]
  simp
  exact tail _ _ _
end Lw
set_option maxHeartbeats 8000000
namespace Lw
open PySem Hr
theorem pool_W {k : Nat} {ns : List Int} {i : Nat} {h : Hv} {Q : D → Hv → Prop} {E : Exn → Hv → Prop} (hi : i < 64) (hl : ns.length ≤ 63) (q : ∀ a b, Q (.ref h.length) (h ++ [.lst [.int a, .int b]])) : (callF G F (k + 1) i__law_pool true [.ro (ns.map .int), .int i] h).W Q E := by
  refine call_W (fc := c__law_pool) rfl rfl ?_
  have sz : ns.length ≤ sizeLine := size_of (by omega)
  have pw : intOp .Pow 10 18 = some (10 ^ 18) := by
    have c : powOk 10 18 := ⟨by decide, by decide, by decide⟩
    show (if powOk 10 18 then some ((10 : Int) ^ (18 : Int).toNat) else none) = _
    rw [if_pos c]
    rfl
  have m1 : mulOk 7919 (i : Int) := mulOk_l (by decide)
  have m2 : mulOk (7919 * (i : Int)) i := mulOk_r (by omega)
  have m3 : mulOk 31 (i : Int) := mulOk_l (by decide)
  have m4 : ∀ x : Int, intOp .Mult x 48271 = some (x * 48271) := fun x => op_mul (mulOk_r (by decide))
  have m5 : ∀ (z : Int) (c : Prop) [Decidable c], intOp .Mult z (if c then 1 else 0) = some (z * if c then 1 else 0) := fun z c _ => op_mul (mulOk_r (by split <;> decide))
  have f1 : ∀ x : Int, intOp .Mod x 2147483629 = some (x.fmod 2147483629) := fun x => op_fmod (by decide)
  have f2 : ∀ x : Int, intOp .Mod x 2147483647 = some (x.fmod 2147483647) := fun x => op_fmod (by decide)
  simp [c__law_pool, Hr.exec, ev, evs, startE, sz]
  by_cases c : i < ns.length
  · have ix : idxD h (.ro (ns.map .int)) (.int i) = some (.int (ns[i]'c)) := by
      rw [idx_seq (show asS h (.ro (ns.map .int)) = some (ns.map .int) from rfl)]
      show L2.atI (ns.map D.int) i = _
      unfold L2.atI
      rw [show L2.ixN (ns.map D.int).length (i : Int) = some i from by
        unfold L2.ixN
        simp [c]]
      simp [c]
    simp [c, ix, f1, f2, op_mul m1, op_mul m2, op_mul m3, m4, m5, pw]
    exact q _ _
  · have m0 : intOp .Mult 0 0 = some 0 := by simpa using op_mul (i := 0) (j := 0) (mulOk_l (by decide))
    simp [c, f1, f2, op_mul m1, op_mul m2, op_mul m3, m4, m5, m0, pw]
    exact q _ _
def oddsL (cl : List D) : List D := [.non, .lst [], .tup [], .tup cl, .str "rows", .dct [] [], .int 5, .lst (cutB (Hr.rep cl 41) none (some 41))]
theorem oddsL_no {cl : List D} (b : belows 0 cl = true) (l1 : 1 ≤ cl.length) (l7 : cl.length ≤ 7) : ∀ d ∈ oddsL cl, NoR d := fun d hd => by
  have rl : (Hr.rep cl 41).length = cl.length * 41 := rep_len (n := 41)
  have cl41 : (cutB (Hr.rep cl 41) none (some 41)).length = 41 := by
    rw [show (some (41 : Int)) = some ((41 : Nat) : Int) from rfl, cut_pre, List.length_take, rl]
    omega
  have mem : ∀ x ∈ cutB (Hr.rep cl 41) none (some 41), below 0 x = true := fun x hx => by
    have hx := cut_mem x hx
    unfold Hr.rep at hx
    obtain ⟨l, hl, hx⟩ := List.mem_flatten.mp hx
    rw [(List.mem_replicate.mp hl).2] at hx
    exact below_mem b x hx
  unfold oddsL at hd
  generalize cutB (Hr.rep cl 41) none (some 41) = c at cl41 mem hd
  simp only [List.mem_cons, List.not_mem_nil, or_false] at hd
  rcases hd with rfl | rfl | rfl | rfl | rfl | rfl | rfl | rfl
  · exact ⟨rfl, (fun _ e => nomatch e), (fun _ e => nomatch e)⟩
  · exact ⟨rfl, (fun _ e => nomatch e), (fun _ e => by injection e with e; subst e; decide)⟩
  · exact ⟨rfl, (fun _ e => nomatch e), (fun _ e => nomatch e)⟩
  · exact ⟨b, (fun _ e => nomatch e), (fun _ e => nomatch e)⟩
  · exact ⟨rfl, (fun _ e => nomatch e), (fun _ e => nomatch e)⟩
  · exact ⟨rfl, (fun _ e => nomatch e), (fun _ e => nomatch e)⟩
  · exact ⟨rfl, (fun _ e => nomatch e), (fun _ e => nomatch e)⟩
  · exact ⟨belows_of mem, (fun _ e => nomatch e), fun _ e => by injection e with e; subst e; omega⟩
theorem body_W {k n : Nat} {h : Hv} {rs : List Rw} {P : Po} {a0 a1 a2 a3 a4 a5 a6 a7 a10 a11 a12 a13 a14 : Option D} (p : PoolAt n h) (l1 : 1 ≤ rs.length) (l7 : rs.length ≤ 7) (ok : ∀ r ∈ rs, okR r)
    (q : ∀ env h', PoolAt n h' → (∃ b5 b6 b10 b11 b12 b13, env = [a0, a1, a2, a3, a4, b5, b6, a7, some (.ref n), some (.lst (rs.map rwD)), b10, b11, b12, b13, a14]) → P.nx env h') :
    (execs ⟨callF G F (k + 5), G, none⟩ (lawB.drop 2) [a0, a1, a2, a3, a4, a5, a6, a7, some (.ref n), some (.lst (rs.map rwD)), a10, a11, a12, a13, a14] h).W P := by
  have hn := pool_lt p
  have rF := rows_F ok
  have e2 : lawB.drop 2 = (lawB.drop 2).take 1 ++ lawB.drop 3 := rfl
  have e3 : lawB.drop 3 = [.for_ (.rng1 (.lit (.int 5))) (.nm 10) turnB] ++ lawB.drop 4 := rfl
  rw [e2, SW_append]
  have end5 : ∀ (b5 b10 b11 b12 b13 : Option D) h0, PoolAt n h0 → (execs ⟨callF G F (k + 5), G, none⟩ (lawB.drop 5) [a0, a1, a2, a3, a4, b5, a6, a7, some (.ref n), some (.lst (rs.map rwD)), b10, b11, b12, b13, a14] h0).W P := fun b5 b10 b11 b12 b13 h0 p0 => by
    simp [lawB, bodyOf, c_law, Hr.exec, ev, evs, evc]
    refine comp_idP (rs.map rwD) (fun _ => false) trivial (fun x hx => ?_) ?_
    · obtain ⟨r, hr, rfl⟩ := List.mem_map.mp hx
      simp
      refine isrow_W (rF _ hx).ro ?_
      rw [row_is (ok r hr)]
      simp [sameB, isNon]
    · rw [show List.filter (fun _ : D => false) (rs.map rwD) = [] from List.filter_eq_nil_iff.mpr fun _ _ => by simp]
      simp [cmpD_ne, eqD_nilG, permD]
      refine isrow_W (d := .non) (no_row rfl fun _ e => nomatch e) ?_
      simp [permD, rowD, sameB, isNon]
      exact q _ _ p0 ⟨_, _, _, _, _, _, rfl⟩
  have odd4 : ∀ (b5 b10 b11 b12 b13 : Option D) h0, PoolAt n h0 → (execs ⟨callF G F (k + 5), G, none⟩ (lawB.drop 4) [a0, a1, a2, a3, a4, b5, a6, a7, some (.ref n), some (.lst (rs.map rwD)), b10, b11, b12, b13, a14] h0).W P := fun b5 b10 b11 b12 b13 h0 p0 => by
    have e4 : lawB.drop 4 = (lawB.drop 4).take 1 ++ lawB.drop 5 := rfl
    rw [e4, SW_append]
    have od := fun (P : Po) a5 (l : List D) hl q => odds_W (k := k) (n := n) (h := h0) (P := P) (a0 := a0) (a1 := a1) (a2 := a2) (a3 := a3) (a4 := a4) (a5 := a5) (a6 := a6) (a7 := a7) (a9 := some (.lst (rs.map rwD))) (a10 := b10) (a11 := b11) (a12 := b12) (a13 := b13) (a14 := a14) (l := l) p0 hl q
    have eT : (lawB.drop 4).take 1 = [.for_ (.seq (.lst false [.lit .non, .lst false [], .tup [], .bi false .tuple [.var 9], .lit (.str "rows"), .dnew false, .lit (.int 5), .cut false (.bin false .Mult (.var 9) (.lit (.int 41))) none (some (.lit (.int 41)))])) (.nm 5) oddB] := rfl
    rw [eT]
    have lr : (rs.map rwD).length = rs.length := List.length_map _
    have m41 : ∀ h, binD false .Mult (.lst (rs.map rwD)) (.int 41) h = .ok (.lst (Hr.rep (rs.map rwD) 41)) h := fun h => mulLs (n := 41) (by omega) (by decide)
    have bl : belows 0 (rs.map rwD) = true := rws_below rs
    generalize lawB.drop 5 = tl at end5 ⊢
    generalize oddB = ob at od ⊢
    simp [Hr.exec, ev, evs, evc, evo, optI, asI, m41]
    refine od _ _ _ (oddsL_no bl (by omega) (by omega)) fun env h1 p1 ⟨b5, e⟩ => ?_
    subst e
    exact end5 _ _ _ _ _ h1 p1
  have turns : ∀ h0, PoolAt n h0 → (execs ⟨callF G F (k + 5), G, none⟩ (lawB.drop 3) [a0, a1, a2, a3, a4, a5, a6, a7, some (.ref n), some (.lst (rs.map rwD)), a10, a11, a12, a13, a14] h0).W P := fun h0 p0 => by
    rw [e3, SW_append]
    generalize lawB.drop 4 = tl at odd4 ⊢
    have tu := fun (P : Po) a5 a10 a11 a12 a13 h0 p q => turn_W (k := k) (n := n) (h := h0) (rs := rs) (P := P) (a0 := a0) (a1 := a1) (a2 := a2) (a3 := a3) (a4 := a4) (a5 := a5) (a6 := a6) (a7 := a7) (a10 := a10) (a11 := a11) (a12 := a12) (a13 := a13) (a14 := a14) p l1 l7 ok q
    generalize turnB = tb at tu ⊢
    simp [Hr.exec, ev, evs, evc]
    rw [show (5 : Int) = ((5 : Nat) : Int) from rfl, rng_nat (by decide)]
    simp only [W_ok]
    refine loop_W (l := List.range 5) (enc := fun x : Nat => D.int (x : Int)) (fun l env h' => PoolAt n h' ∧ ∃ b5 b10 b11 b12 b13, env = [a0, a1, a2, a3, a4, b5, a6, a7, some (.ref n), some (.lst (rs.map rwD)), b10, b11, b12, b13, a14]) (fun _ _ _ _ => trivial) ?_ ?_ _ _ ⟨p0, _, _, _, _, _, rfl⟩
    · rintro x l env h' ⟨p', b5, b10, b11, b12, b13, rfl⟩
      simp
      exact tu _ _ _ _ _ _ h' p' fun env h2 p2 ⟨c5, c11, c12, c13, e⟩ => ⟨p2, _, _, _, _, _, e⟩
    · rintro env h' ⟨p', b5, b10, b11, b12, b13, rfl⟩
      exact odd4 _ _ _ _ _ h' p'
  generalize lawB.drop 3 = tl at turns ⊢
  simp [lawB, bodyOf, c_law, Hr.exec, ev, evs, evc]
  refine told_rows l1 l7 ok ?_
  simp [cmpD_ne, permD]
  refine look_W (by rw [List.length_map]; exact l1) (by rw [List.length_map]; omega) (fun d hd => (rF d hd).ro) ?_ ?_
  · intro e
    simp
    exact turns h p
  · intro i e
    have := good_N ok
    unfold badN at this
    rw [e] at this
    exact absurd this (by simp)
theorem law_W {ns : List Int} (hl : ns.length ≤ 63) : (callF G F 16 i_law false [.ro (ns.map .int)] []).W (fun d h => d = .bl true ∧ h = []) (fun _ _ => False) := by
  refine call_W (fc := c_law) rfl rfl ?_
  have sz : ns.length ≤ sizeLine := size_of (by omega)
  have e : c_law.body = [.for_ (.rng1 (.bi false .max [.lit (.int 1), .bi false .min [.bi false .len [.var 0], .lit (.int 20)]])) (.nm 1) lawB] ++ c_law.body.drop 1 := rfl
  rw [e, SW_append]
  have fin := fun h a0 a1 a2 a3 a4 a5 a6 a7 a8 a9 a10 a11 a12 a13 a14 => end_W (k := 10) (h := h) (Q := fun d h => d = .bl true ∧ h = []) (E := fun _ _ => False) (a0 := a0) (a1 := a1) (a2 := a2) (a3 := a3) (a4 := a4) (a5 := a5) (a6 := a6) (a7 := a7) (a8 := a8) (a9 := a9) (a10 := a10) (a11 := a11) (a12 := a12) (a13 := a13) (a14 := a14) ⟨rfl, rfl⟩
  generalize c_law.body.drop 1 = tl at fin ⊢
  simp [c_law, Hr.exec, ev, evs, evc, startE, sz]
  obtain ⟨c, hc, hc2⟩ : ∃ c : Nat, ((if 1 < (if (20 : Int) < (ns.length : Int) then 20 else (ns.length : Int)) then (if (20 : Int) < (ns.length : Int) then 20 else (ns.length : Int)) else 1) = (c : Int)) ∧ c < 64 := by
    by_cases c1 : (20 : Int) < (ns.length : Int)
    · rw [if_pos c1]
      exact ⟨20, by rfl, by omega⟩
    · rw [if_neg c1]
      by_cases c2 : 1 < (ns.length : Int)
      · exact ⟨ns.length, by rw [if_pos c2], by omega⟩
      · exact ⟨1, by rw [if_neg c2]; rfl, by omega⟩
  rw [hc, rng_nat (by omega)]
  simp only [W_ok]
  refine loop_W (l := List.range c) (enc := fun x : Nat => D.int (x : Int)) (fun l env h' => (∀ x ∈ l, x < 64) ∧ ∃ (b1 b2 b3 b4 b5 b6 b7 b8 b9 b10 b11 b12 b13 b14 : Option D), env = [some (.ro (ns.map .int)), b1, b2, b3, b4, b5, b6, b7, b8, b9, b10, b11, b12, b13, b14]) (fun _ _ _ _ => trivial) ?_ ?_ _ _ ⟨fun x hx => by have := List.mem_range.mp hx; omega, _, _, _, _, _, _, _, _, _, _, _, _, _, _, rfl⟩
  · rintro x l env h ⟨hx, b1, b2, b3, b4, b5, b6, b7, b8, b9, b10, b11, b12, b13, b14, rfl⟩
    have x64 := hx x List.mem_cons_self
    have hx' : ∀ y ∈ l, y < 64 := fun y hy => hx y (List.mem_cons_of_mem _ hy)
    have eb : lawB = lawB.take 2 ++ lawB.drop 2 := rfl
    have rest := fun (n : Nat) (h0 : Hv) (rs : List Rw) P a1 a2 a3 a4 a5 a6 a7 a10 a11 a12 a13 a14 p l1 l7 ok q => body_W (k := 10) (n := n) (h := h0) (rs := rs) (P := P) (a0 := some (.ro (ns.map .int))) (a1 := a1) (a2 := a2) (a3 := a3) (a4 := a4) (a5 := a5) (a6 := a6) (a7 := a7) (a10 := a10) (a11 := a11) (a12 := a12) (a13 := a13) (a14 := a14) p l1 l7 ok q
    rw [eb, SW_append]
    generalize lawB.drop 2 = tl at rest ⊢
    simp [lawB, bodyOf, c_law, Hr.exec, ev, evs, evc]
    refine pool_W x64 hl fun a b => ?_
    have p0 : PoolAt h.length (h ++ [.lst [.int a, .int b]]) := ⟨a, b, by simp⟩
    generalize (h ++ [.lst [.int a, .int b]] : Hv) = h0 at p0 ⊢
    generalize h.length = n at p0 ⊢
    refine rows_W p0 fun rs h1 s1 lh1 r0 r7 ok => ?_
    exact rest n h1 rs _ _ _ _ _ _ _ _ _ _ _ _ _ s1.pool r0 r7 ok fun env h' p' ⟨c5, c6, c10, c11, c12, c13, e⟩ => ⟨hx', _, _, _, _, _, _, _, _, _, _, _, _, _, _, e⟩
  · rintro env h ⟨_, b1, b2, b3, b4, b5, b6, b7, b8, b9, b10, b11, b12, b13, b14, rfl⟩
    exact fin h _ _ _ _ _ _ _ _ _ _ _ _ _ _ _
theorem law_val : ∀ ns : List Int, ns.length ≤ 63 → callF G F 16 i_law false [.ro (ns.map D.int)] [] = .ok (.bl true) [] := fun ns hl => (law_W hl).eq
end Lw
set_option maxHeartbeats 0
namespace Lw
open PySem PySem.Spec PyProof.Rows L2 Hr
def top (i : Nat) : Stmt := PySem.Challenge.pw_hornroads_k10_rows_looked_at.main.body.getD i (.Pass ⟨0, 0, 0, 0⟩)
def dd (x : Str) (i : Nat) (df : List He.Dv := []) : He.DefD := ⟨(x, none), x, x, defArgs (top i), defBody (top i), defScope (top i), df, []⟩
def clsIt (s : Stmt) (j : Nat) : Stmt := match s with
  | .ClassDef _ _ _ body _ _ _ _ _ _ _ => body.getD j (.Pass ⟨0, 0, 0, 0⟩)
  | s => s
def ddm (x m : Str) (i j : Nat) : He.DefD := ⟨(x, some m), m, x ++ "." ++ m, defArgs (clsIt (top i) j), defBody (clsIt (top i) j), defScope (clsIt (top i) j), [], []⟩
def fn : List He.DefD := [dd "is_whole" 5, dd "is_wish" 8, dd "is_name" 17, dd "is_part" 18, dd "is_row" 19, dd "parts_of" 20, dd "fits_known" 21, dd "look_at_rows" 22, dd "_law_draw" 24, dd "_law_pool" 25, dd "_law_arity" 26, dd "_law_letters" 27, dd "_law_part_in" 28, dd "_law_wish" 29, dd "_law_wishes" 30, dd "_law_one_row" 31, dd "_law_rows" 32, dd "_law_whole" 33, dd "_law_name_so" 34, dd "_law_part_so" 35, dd "_law_wish_so" 36, dd "_law_row_so" 37, dd "_law_first_bad" 38, dd "_law_odd_part" 39, dd "_law_odd_wish" 40, dd "_law_bent_row" 41, dd "_law_told" 42, dd "law" 43, ddm "NoRows" "__init__" 1 0, ddm "NoText" "__init__" 3 0]
def fa : List He.Fa := [.glo "is_whole", .glo "is_wish", .glo "is_name", .glo "is_part", .glo "is_row", .glo "parts_of", .glo "fits_known", .glo "look_at_rows", .glo "_law_draw", .glo "_law_pool", .glo "_law_arity", .glo "_law_letters", .glo "_law_part_in", .glo "_law_wish", .glo "_law_wishes", .glo "_law_one_row", .glo "_law_rows", .glo "_law_whole", .glo "_law_name_so", .glo "_law_part_so", .glo "_law_wish_so", .glo "_law_row_so", .glo "_law_first_bad", .glo "_law_odd_part", .glo "_law_odd_wish", .glo "_law_bent_row", .glo "_law_told", .glo "law", .free "ValueError", .free "all", .free "bool", .free "enumerate", .free "int", .free "isinstance", .free "len", .free "list", .free "max", .free "min", .free "range", .free "repr", .free "set", .free "str", .free "tuple", .glo "WORDS", .str "SIGNS" "abcdefghijklmnopqrstuvwxyz", .int "LONGEST" 8, .int "MOST_LETTERS" 10, .int "MOST_PLACES" 4, .int "MOST_BODY" 2, .int "MOST_WISHES" 6, .int "MOST_ROWS" 40, .glo "NoRows", .glo "NoRow", .glo "NoText"]
def ex (K : PySem.W.Frag) : Bool := (He.tupB K "WORDS" [.str "least", .str "above"] && true) && (xcsB K ct && (iniB K "NoRows" "number" && (iniB K "NoText" "row" && true)))
section
variable {P : Program} {w : World} {K : PySem.W.Frag} {mg : Str → Option Value} {T : Tb}
abbrev Sk (P : Program) (w : World) (T : Tb) (k : Nat) (N : List Str) : St0 := mkS P w T F G gn blt ct k N
theorem sc_0 : FnScope ["thing"] ["thing"] (defScope (top 5)) := ⟨rfl, rfl, rfl, by decide +kernel, rfl, by decide +kernel, by decide +kernel⟩
theorem ck_0 (k : Nat) : chkSs (Sk P w T k ["thing"]) (defScope (top 5)) c_is_whole.body (defBody (top 5)) = true := by kernel_rfl
theorem bi_0 {f : Addr} {fd : FuncData} (FD : FunD K "is_whole" "is_whole" (defArgs (top 5)) (defBody (top 5)) (defScope (top 5)) [] [] f fd) : Binds K fd ["thing"] [] := FD.bindsN fun _ _ _ _ _ _ us hl => match us, hl with | [_], _ => rfl
theorem df_0 {f : Addr} {fd : FuncData} (FD : FunD K "is_whole" "is_whole" (defArgs (top 5)) (defBody (top 5)) (defScope (top 5)) [] [] f fd) : ∀ j, j ≤ 0 → ∃ dvs dss, Vals dvs dss ∧ Binds K fd ["thing"] dss ∧ ∀ N m H, RepL T N m H (([] : List D).drop j) dvs := fun j hj => ⟨[], [], .nil, bi_0 FD, fun N m H => by rw [List.drop_nil]; rfl⟩
theorem sc_1 : FnScope ["many", "thing", "factors", "plain", "word", "one"] ["many", "thing"] (defScope (top 8)) := ⟨rfl, rfl, rfl, by decide +kernel, rfl, by decide +kernel, by decide +kernel⟩
theorem ck_1 (k : Nat) : chkSs (Sk P w T k ["many", "thing", "factors", "plain", "word", "one"]) (defScope (top 8)) c_is_wish.body (defBody (top 8)) = true := by kernel_rfl
theorem bi_1 {f : Addr} {fd : FuncData} (FD : FunD K "is_wish" "is_wish" (defArgs (top 8)) (defBody (top 8)) (defScope (top 8)) [] [] f fd) : Binds K fd ["many", "thing"] [] := FD.bindsN fun _ _ _ _ _ _ us hl => match us, hl with | [_, _], _ => rfl
theorem df_1 {f : Addr} {fd : FuncData} (FD : FunD K "is_wish" "is_wish" (defArgs (top 8)) (defBody (top 8)) (defScope (top 8)) [] [] f fd) : ∀ j, j ≤ 0 → ∃ dvs dss, Vals dvs dss ∧ Binds K fd ["many", "thing"] dss ∧ ∀ N m H, RepL T N m H (([] : List D).drop j) dvs := fun j hj => ⟨[], [], .nil, bi_1 FD, fun N m H => by rw [List.drop_nil]; rfl⟩
theorem sc_2 : FnScope ["thing", "sign"] ["thing"] (defScope (top 17)) := ⟨rfl, rfl, rfl, by decide +kernel, rfl, by decide +kernel, by decide +kernel⟩
theorem ck_2 (k : Nat) : chkSs (Sk P w T k ["thing", "sign"]) (defScope (top 17)) c_is_name.body (defBody (top 17)) = true := by kernel_rfl
theorem bi_2 {f : Addr} {fd : FuncData} (FD : FunD K "is_name" "is_name" (defArgs (top 17)) (defBody (top 17)) (defScope (top 17)) [] [] f fd) : Binds K fd ["thing"] [] := FD.bindsN fun _ _ _ _ _ _ us hl => match us, hl with | [_], _ => rfl
theorem df_2 {f : Addr} {fd : FuncData} (FD : FunD K "is_name" "is_name" (defArgs (top 17)) (defBody (top 17)) (defScope (top 17)) [] [] f fd) : ∀ j, j ≤ 0 → ∃ dvs dss, Vals dvs dss ∧ Binds K fd ["thing"] dss ∧ ∀ N m H, RepL T N m H (([] : List D).drop j) dvs := fun j hj => ⟨[], [], .nil, bi_2 FD, fun N m H => by rw [List.drop_nil]; rfl⟩
theorem sc_3 : FnScope ["thing", "many", "letters", "one"] ["thing", "many"] (defScope (top 18)) := ⟨rfl, rfl, rfl, by decide +kernel, rfl, by decide +kernel, by decide +kernel⟩
theorem ck_3 (k : Nat) : chkSs (Sk P w T k ["thing", "many", "letters", "one"]) (defScope (top 18)) c_is_part.body (defBody (top 18)) = true := by kernel_rfl
theorem bi_3 {f : Addr} {fd : FuncData} (FD : FunD K "is_part" "is_part" (defArgs (top 18)) (defBody (top 18)) (defScope (top 18)) [] [] f fd) : Binds K fd ["thing", "many"] [] := FD.bindsN fun _ _ _ _ _ _ us hl => match us, hl with | [_, _], _ => rfl
theorem df_3 {f : Addr} {fd : FuncData} (FD : FunD K "is_part" "is_part" (defArgs (top 18)) (defBody (top 18)) (defScope (top 18)) [] [] f fd) : ∀ j, j ≤ 0 → ∃ dvs dss, Vals dvs dss ∧ Binds K fd ["thing", "many"] dss ∧ ∀ N m H, RepL T N m H (([] : List D).drop j) dvs := fun j hj => ⟨[], [], .nil, bi_3 FD, fun N m H => by rw [List.drop_nil]; rfl⟩
theorem sc_4 : FnScope ["thing", "head", "body", "wishes", "many", "parts", "wish", "part"] ["thing"] (defScope (top 19)) := ⟨rfl, rfl, rfl, by decide +kernel, rfl, by decide +kernel, by decide +kernel⟩
theorem ck_4 (k : Nat) : chkSs (Sk P w T k ["thing", "head", "body", "wishes", "many", "parts", "wish", "part"]) (defScope (top 19)) c_is_row.body (defBody (top 19)) = true := by kernel_rfl
theorem bi_4 {f : Addr} {fd : FuncData} (FD : FunD K "is_row" "is_row" (defArgs (top 19)) (defBody (top 19)) (defScope (top 19)) [] [] f fd) : Binds K fd ["thing"] [] := FD.bindsN fun _ _ _ _ _ _ us hl => match us, hl with | [_], _ => rfl
theorem df_4 {f : Addr} {fd : FuncData} (FD : FunD K "is_row" "is_row" (defArgs (top 19)) (defBody (top 19)) (defScope (top 19)) [] [] f fd) : ∀ j, j ≤ 0 → ∃ dvs dss, Vals dvs dss ∧ Binds K fd ["thing"] dss ∧ ∀ N m H, RepL T N m H (([] : List D).drop j) dvs := fun j hj => ⟨[], [], .nil, bi_4 FD, fun N m H => by rw [List.drop_nil]; rfl⟩
theorem sc_5 : FnScope ["row", "head", "body", "wishes", "many"] ["row"] (defScope (top 20)) := ⟨rfl, rfl, rfl, by decide +kernel, rfl, by decide +kernel, by decide +kernel⟩
theorem ck_5 (k : Nat) : chkSs (Sk P w T k ["row", "head", "body", "wishes", "many"]) (defScope (top 20)) c_parts_of.body (defBody (top 20)) = true := by kernel_rfl
theorem bi_5 {f : Addr} {fd : FuncData} (FD : FunD K "parts_of" "parts_of" (defArgs (top 20)) (defBody (top 20)) (defScope (top 20)) [] [] f fd) : Binds K fd ["row"] [] := FD.bindsN fun _ _ _ _ _ _ us hl => match us, hl with | [_], _ => rfl
theorem df_5 {f : Addr} {fd : FuncData} (FD : FunD K "parts_of" "parts_of" (defArgs (top 20)) (defBody (top 20)) (defScope (top 20)) [] [] f fd) : ∀ j, j ≤ 0 → ∃ dvs dss, Vals dvs dss ∧ Binds K fd ["row"] dss ∧ ∀ N m H, RepL T N m H (([] : List D).drop j) dvs := fun j hj => ⟨[], [], .nil, bi_5 FD, fun N m H => by rw [List.drop_nil]; rfl⟩
theorem sc_6 : FnScope ["known", "row", "name", "letters"] ["known", "row"] (defScope (top 21)) := ⟨rfl, rfl, rfl, by decide +kernel, rfl, by decide +kernel, by decide +kernel⟩
theorem ck_6 (k : Nat) : chkSs (Sk P w T k ["known", "row", "name", "letters"]) (defScope (top 21)) c_fits_known.body (defBody (top 21)) = true := by kernel_rfl
theorem bi_6 {f : Addr} {fd : FuncData} (FD : FunD K "fits_known" "fits_known" (defArgs (top 21)) (defBody (top 21)) (defScope (top 21)) [] [] f fd) : Binds K fd ["known", "row"] [] := FD.bindsN fun _ _ _ _ _ _ us hl => match us, hl with | [_, _], _ => rfl
theorem df_6 {f : Addr} {fd : FuncData} (FD : FunD K "fits_known" "fits_known" (defArgs (top 21)) (defBody (top 21)) (defScope (top 21)) [] [] f fd) : ∀ j, j ≤ 0 → ∃ dvs dss, Vals dvs dss ∧ Binds K fd ["known", "row"] dss ∧ ∀ N m H, RepL T N m H (([] : List D).drop j) dvs := fun j hj => ⟨[], [], .nil, bi_6 FD, fun N m H => by rw [List.drop_nil]; rfl⟩
theorem sc_7 : FnScope ["thing", "known", "number", "row"] ["thing"] (defScope (top 22)) := ⟨rfl, rfl, rfl, by decide +kernel, rfl, by decide +kernel, by decide +kernel⟩
theorem ck_7 (k : Nat) : chkSs (Sk P w T k ["thing", "known", "number", "row"]) (defScope (top 22)) c_look_at_rows.body (defBody (top 22)) = true := by kernel_rfl
theorem bi_7 {f : Addr} {fd : FuncData} (FD : FunD K "look_at_rows" "look_at_rows" (defArgs (top 22)) (defBody (top 22)) (defScope (top 22)) [] [] f fd) : Binds K fd ["thing"] [] := FD.bindsN fun _ _ _ _ _ _ us hl => match us, hl with | [_], _ => rfl
theorem df_7 {f : Addr} {fd : FuncData} (FD : FunD K "look_at_rows" "look_at_rows" (defArgs (top 22)) (defBody (top 22)) (defScope (top 22)) [] [] f fd) : ∀ j, j ≤ 0 → ∃ dvs dss, Vals dvs dss ∧ Binds K fd ["thing"] dss ∧ ∀ N m H, RepL T N m H (([] : List D).drop j) dvs := fun j hj => ⟨[], [], .nil, bi_7 FD, fun N m H => by rw [List.drop_nil]; rfl⟩
theorem sc_8 : FnScope ["_law_pool_here", "_law_many", "_law_found"] ["_law_pool_here", "_law_many"] (defScope (top 24)) := ⟨rfl, rfl, rfl, by decide +kernel, rfl, by decide +kernel, by decide +kernel⟩
theorem ck_8 (k : Nat) : chkSs (Sk P w T k ["_law_pool_here", "_law_many", "_law_found"]) (defScope (top 24)) c__law_draw.body (defBody (top 24)) = true := by kernel_rfl
theorem bi_8 {f : Addr} {fd : FuncData} (FD : FunD K "_law_draw" "_law_draw" (defArgs (top 24)) (defBody (top 24)) (defScope (top 24)) [] [] f fd) : Binds K fd ["_law_pool_here", "_law_many"] [] := FD.bindsN fun _ _ _ _ _ _ us hl => match us, hl with | [_, _], _ => rfl
theorem df_8 {f : Addr} {fd : FuncData} (FD : FunD K "_law_draw" "_law_draw" (defArgs (top 24)) (defBody (top 24)) (defScope (top 24)) [] [] f fd) : ∀ j, j ≤ 0 → ∃ dvs dss, Vals dvs dss ∧ Binds K fd ["_law_pool_here", "_law_many"] dss ∧ ∀ N m H, RepL T N m H (([] : List D).drop j) dvs := fun j hj => ⟨[], [], .nil, bi_8 FD, fun N m H => by rw [List.drop_nil]; rfl⟩
theorem sc_9 : FnScope ["_law_script", "_law_k", "_law_cell", "_law_tall", "_law_mixed"] ["_law_script", "_law_k"] (defScope (top 25)) := ⟨rfl, rfl, rfl, by decide +kernel, rfl, by decide +kernel, by decide +kernel⟩
theorem ck_9 (k : Nat) : chkSs (Sk P w T k ["_law_script", "_law_k", "_law_cell", "_law_tall", "_law_mixed"]) (defScope (top 25)) c__law_pool.body (defBody (top 25)) = true := by kernel_rfl
theorem bi_9 {f : Addr} {fd : FuncData} (FD : FunD K "_law_pool" "_law_pool" (defArgs (top 25)) (defBody (top 25)) (defScope (top 25)) [] [] f fd) : Binds K fd ["_law_script", "_law_k"] [] := FD.bindsN fun _ _ _ _ _ _ us hl => match us, hl with | [_, _], _ => rfl
theorem df_9 {f : Addr} {fd : FuncData} (FD : FunD K "_law_pool" "_law_pool" (defArgs (top 25)) (defBody (top 25)) (defScope (top 25)) [] [] f fd) : ∀ j, j ≤ 0 → ∃ dvs dss, Vals dvs dss ∧ Binds K fd ["_law_script", "_law_k"] dss ∧ ∀ N m H, RepL T N m H (([] : List D).drop j) dvs := fun j hj => ⟨[], [], .nil, bi_9 FD, fun N m H => by rw [List.drop_nil]; rfl⟩
theorem sc_10 : FnScope ["_law_own_name"] ["_law_own_name"] (defScope (top 26)) := ⟨rfl, rfl, rfl, by decide +kernel, rfl, by decide +kernel, by decide +kernel⟩
theorem ck_10 (k : Nat) : chkSs (Sk P w T k ["_law_own_name"]) (defScope (top 26)) c__law_arity.body (defBody (top 26)) = true := by kernel_rfl
theorem bi_10 {f : Addr} {fd : FuncData} (FD : FunD K "_law_arity" "_law_arity" (defArgs (top 26)) (defBody (top 26)) (defScope (top 26)) [] [] f fd) : Binds K fd ["_law_own_name"] [] := FD.bindsN fun _ _ _ _ _ _ us hl => match us, hl with | [_], _ => rfl
theorem df_10 {f : Addr} {fd : FuncData} (FD : FunD K "_law_arity" "_law_arity" (defArgs (top 26)) (defBody (top 26)) (defScope (top 26)) [] [] f fd) : ∀ j, j ≤ 0 → ∃ dvs dss, Vals dvs dss ∧ Binds K fd ["_law_own_name"] dss ∧ ∀ N m H, RepL T N m H (([] : List D).drop j) dvs := fun j hj => ⟨[], [], .nil, bi_10 FD, fun N m H => by rw [List.drop_nil]; rfl⟩
theorem sc_11 : FnScope ["_law_pool_here", "_law_many", "_law_tall", "_law_left", "_law_turn"] ["_law_pool_here", "_law_many", "_law_tall"] (defScope (top 27)) := ⟨rfl, rfl, rfl, by decide +kernel, rfl, by decide +kernel, by decide +kernel⟩
theorem ck_11 (k : Nat) : chkSs (Sk P w T k ["_law_pool_here", "_law_many", "_law_tall", "_law_left", "_law_turn"]) (defScope (top 27)) c__law_letters.body (defBody (top 27)) = true := by kernel_rfl
theorem bi_11 {f : Addr} {fd : FuncData} (FD : FunD K "_law_letters" "_law_letters" (defArgs (top 27)) (defBody (top 27)) (defScope (top 27)) [] [] f fd) : Binds K fd ["_law_pool_here", "_law_many", "_law_tall"] [] := FD.bindsN fun _ _ _ _ _ _ us hl => match us, hl with | [_, _, _], _ => rfl
theorem df_11 {f : Addr} {fd : FuncData} (FD : FunD K "_law_letters" "_law_letters" (defArgs (top 27)) (defBody (top 27)) (defScope (top 27)) [] [] f fd) : ∀ j, j ≤ 0 → ∃ dvs dss, Vals dvs dss ∧ Binds K fd ["_law_pool_here", "_law_many", "_law_tall"] dss ∧ ∀ N m H, RepL T N m H (([] : List D).drop j) dvs := fun j hj => ⟨[], [], .nil, bi_11 FD, fun N m H => by rw [List.drop_nil]; rfl⟩
theorem sc_12 : FnScope ["_law_pool_here", "_law_many", "_law_some", "_law_own_name"] ["_law_pool_here", "_law_many"] (defScope (top 28)) := ⟨rfl, rfl, rfl, by decide +kernel, rfl, by decide +kernel, by decide +kernel⟩
theorem ck_12 (k : Nat) : chkSs (Sk P w T k ["_law_pool_here", "_law_many", "_law_some", "_law_own_name"]) (defScope (top 28)) c__law_part_in.body (defBody (top 28)) = true := by kernel_rfl
theorem bi_12 {f : Addr} {fd : FuncData} (FD : FunD K "_law_part_in" "_law_part_in" (defArgs (top 28)) (defBody (top 28)) (defScope (top 28)) [] [] f fd) : Binds K fd ["_law_pool_here", "_law_many"] [] := FD.bindsN fun _ _ _ _ _ _ us hl => match us, hl with | [_, _], _ => rfl
theorem df_12 {f : Addr} {fd : FuncData} (FD : FunD K "_law_part_in" "_law_part_in" (defArgs (top 28)) (defBody (top 28)) (defScope (top 28)) [] [] f fd) : ∀ j, j ≤ 0 → ∃ dvs dss, Vals dvs dss ∧ Binds K fd ["_law_pool_here", "_law_many"] dss ∧ ∀ N m H, RepL T N m H (([] : List D).drop j) dvs := fun j hj => ⟨[], [], .nil, bi_12 FD, fun N m H => by rw [List.drop_nil]; rfl⟩
theorem sc_13 : FnScope ["_law_pool_here", "_law_many", "_law_factors", "_law_turn"] ["_law_pool_here", "_law_many"] (defScope (top 29)) := ⟨rfl, rfl, rfl, by decide +kernel, rfl, by decide +kernel, by decide +kernel⟩
theorem ck_13 (k : Nat) : chkSs (Sk P w T k ["_law_pool_here", "_law_many", "_law_factors", "_law_turn"]) (defScope (top 29)) c__law_wish.body (defBody (top 29)) = true := by kernel_rfl
theorem bi_13 {f : Addr} {fd : FuncData} (FD : FunD K "_law_wish" "_law_wish" (defArgs (top 29)) (defBody (top 29)) (defScope (top 29)) [] [] f fd) : Binds K fd ["_law_pool_here", "_law_many"] [] := FD.bindsN fun _ _ _ _ _ _ us hl => match us, hl with | [_, _], _ => rfl
theorem df_13 {f : Addr} {fd : FuncData} (FD : FunD K "_law_wish" "_law_wish" (defArgs (top 29)) (defBody (top 29)) (defScope (top 29)) [] [] f fd) : ∀ j, j ≤ 0 → ∃ dvs dss, Vals dvs dss ∧ Binds K fd ["_law_pool_here", "_law_many"] dss ∧ ∀ N m H, RepL T N m H (([] : List D).drop j) dvs := fun j hj => ⟨[], [], .nil, bi_13 FD, fun N m H => by rw [List.drop_nil]; rfl⟩
theorem sc_14 : FnScope ["_law_pool_here", "_law_many", "_law_most", "_law_turn"] ["_law_pool_here", "_law_many", "_law_most"] (defScope (top 30)) := ⟨rfl, rfl, rfl, by decide +kernel, rfl, by decide +kernel, by decide +kernel⟩
theorem ck_14 (k : Nat) : chkSs (Sk P w T k ["_law_pool_here", "_law_many", "_law_most", "_law_turn"]) (defScope (top 30)) c__law_wishes.body (defBody (top 30)) = true := by kernel_rfl
theorem bi_14 {f : Addr} {fd : FuncData} (FD : FunD K "_law_wishes" "_law_wishes" (defArgs (top 30)) (defBody (top 30)) (defScope (top 30)) [] [] f fd) : Binds K fd ["_law_pool_here", "_law_many", "_law_most"] [] := FD.bindsN fun _ _ _ _ _ _ us hl => match us, hl with | [_, _, _], _ => rfl
theorem df_14 {f : Addr} {fd : FuncData} (FD : FunD K "_law_wishes" "_law_wishes" (defArgs (top 30)) (defBody (top 30)) (defScope (top 30)) [] [] f fd) : ∀ j, j ≤ 0 → ∃ dvs dss, Vals dvs dss ∧ Binds K fd ["_law_pool_here", "_law_many", "_law_most"] dss ∧ ∀ N m H, RepL T N m H (([] : List D).drop j) dvs := fun j hj => ⟨[], [], .nil, bi_14 FD, fun N m H => by rw [List.drop_nil]; rfl⟩
theorem sc_15 : FnScope ["_law_pool_here", "_law_most", "_law_many", "_law_head", "_law_body", "_law_turn"] ["_law_pool_here", "_law_most"] (defScope (top 31)) := ⟨rfl, rfl, rfl, by decide +kernel, rfl, by decide +kernel, by decide +kernel⟩
theorem ck_15 (k : Nat) : chkSs (Sk P w T k ["_law_pool_here", "_law_most", "_law_many", "_law_head", "_law_body", "_law_turn"]) (defScope (top 31)) c__law_one_row.body (defBody (top 31)) = true := by kernel_rfl
theorem bi_15 {f : Addr} {fd : FuncData} (FD : FunD K "_law_one_row" "_law_one_row" (defArgs (top 31)) (defBody (top 31)) (defScope (top 31)) [] [] f fd) : Binds K fd ["_law_pool_here", "_law_most"] [] := FD.bindsN fun _ _ _ _ _ _ us hl => match us, hl with | [_, _], _ => rfl
theorem df_15 {f : Addr} {fd : FuncData} (FD : FunD K "_law_one_row" "_law_one_row" (defArgs (top 31)) (defBody (top 31)) (defScope (top 31)) [] [] f fd) : ∀ j, j ≤ 0 → ∃ dvs dss, Vals dvs dss ∧ Binds K fd ["_law_pool_here", "_law_most"] dss ∧ ∀ N m H, RepL T N m H (([] : List D).drop j) dvs := fun j hj => ⟨[], [], .nil, bi_15 FD, fun N m H => by rw [List.drop_nil]; rfl⟩
theorem sc_16 : FnScope ["_law_pool_here", "_law_most", "_law_found", "_law_turn"] ["_law_pool_here", "_law_most"] (defScope (top 32)) := ⟨rfl, rfl, rfl, by decide +kernel, rfl, by decide +kernel, by decide +kernel⟩
theorem ck_16 (k : Nat) : chkSs (Sk P w T k ["_law_pool_here", "_law_most", "_law_found", "_law_turn"]) (defScope (top 32)) c__law_rows.body (defBody (top 32)) = true := by kernel_rfl
theorem bi_16 {f : Addr} {fd : FuncData} (FD : FunD K "_law_rows" "_law_rows" (defArgs (top 32)) (defBody (top 32)) (defScope (top 32)) [] [] f fd) : Binds K fd ["_law_pool_here", "_law_most"] [] := FD.bindsN fun _ _ _ _ _ _ us hl => match us, hl with | [_, _], _ => rfl
theorem df_16 {f : Addr} {fd : FuncData} (FD : FunD K "_law_rows" "_law_rows" (defArgs (top 32)) (defBody (top 32)) (defScope (top 32)) [] [] f fd) : ∀ j, j ≤ 0 → ∃ dvs dss, Vals dvs dss ∧ Binds K fd ["_law_pool_here", "_law_most"] dss ∧ ∀ N m H, RepL T N m H (([] : List D).drop j) dvs := fun j hj => ⟨[], [], .nil, bi_16 FD, fun N m H => by rw [List.drop_nil]; rfl⟩
theorem sc_17 : FnScope ["_law_what", "_law_low", "_law_high"] ["_law_what", "_law_low", "_law_high"] (defScope (top 33)) := ⟨rfl, rfl, rfl, by decide +kernel, rfl, by decide +kernel, by decide +kernel⟩
theorem ck_17 (k : Nat) : chkSs (Sk P w T k ["_law_what", "_law_low", "_law_high"]) (defScope (top 33)) c__law_whole.body (defBody (top 33)) = true := by kernel_rfl
theorem bi_17 {f : Addr} {fd : FuncData} (FD : FunD K "_law_whole" "_law_whole" (defArgs (top 33)) (defBody (top 33)) (defScope (top 33)) [] [] f fd) : Binds K fd ["_law_what", "_law_low", "_law_high"] [] := FD.bindsN fun _ _ _ _ _ _ us hl => match us, hl with | [_, _, _], _ => rfl
theorem df_17 {f : Addr} {fd : FuncData} (FD : FunD K "_law_whole" "_law_whole" (defArgs (top 33)) (defBody (top 33)) (defScope (top 33)) [] [] f fd) : ∀ j, j ≤ 0 → ∃ dvs dss, Vals dvs dss ∧ Binds K fd ["_law_what", "_law_low", "_law_high"] dss ∧ ∀ N m H, RepL T N m H (([] : List D).drop j) dvs := fun j hj => ⟨[], [], .nil, bi_17 FD, fun N m H => by rw [List.drop_nil]; rfl⟩
theorem sc_18 : FnScope ["_law_what", "_law_sign"] ["_law_what"] (defScope (top 34)) := ⟨rfl, rfl, rfl, by decide +kernel, rfl, by decide +kernel, by decide +kernel⟩
theorem ck_18 (k : Nat) : chkSs (Sk P w T k ["_law_what", "_law_sign"]) (defScope (top 34)) c__law_name_so.body (defBody (top 34)) = true := by kernel_rfl
theorem bi_18 {f : Addr} {fd : FuncData} (FD : FunD K "_law_name_so" "_law_name_so" (defArgs (top 34)) (defBody (top 34)) (defScope (top 34)) [] [] f fd) : Binds K fd ["_law_what"] [] := FD.bindsN fun _ _ _ _ _ _ us hl => match us, hl with | [_], _ => rfl
theorem df_18 {f : Addr} {fd : FuncData} (FD : FunD K "_law_name_so" "_law_name_so" (defArgs (top 34)) (defBody (top 34)) (defScope (top 34)) [] [] f fd) : ∀ j, j ≤ 0 → ∃ dvs dss, Vals dvs dss ∧ Binds K fd ["_law_what"] dss ∧ ∀ N m H, RepL T N m H (([] : List D).drop j) dvs := fun j hj => ⟨[], [], .nil, bi_18 FD, fun N m H => by rw [List.drop_nil]; rfl⟩
theorem sc_19 : FnScope ["_law_what", "_law_many", "_law_one", "_law_at"] ["_law_what", "_law_many"] (defScope (top 35)) := ⟨rfl, rfl, rfl, by decide +kernel, rfl, by decide +kernel, by decide +kernel⟩
theorem ck_19 (k : Nat) : chkSs (Sk P w T k ["_law_what", "_law_many", "_law_one", "_law_at"]) (defScope (top 35)) c__law_part_so.body (defBody (top 35)) = true := by kernel_rfl
theorem bi_19 {f : Addr} {fd : FuncData} (FD : FunD K "_law_part_so" "_law_part_so" (defArgs (top 35)) (defBody (top 35)) (defScope (top 35)) [] [] f fd) : Binds K fd ["_law_what", "_law_many"] [] := FD.bindsN fun _ _ _ _ _ _ us hl => match us, hl with | [_, _], _ => rfl
theorem df_19 {f : Addr} {fd : FuncData} (FD : FunD K "_law_part_so" "_law_part_so" (defArgs (top 35)) (defBody (top 35)) (defScope (top 35)) [] [] f fd) : ∀ j, j ≤ 0 → ∃ dvs dss, Vals dvs dss ∧ Binds K fd ["_law_what", "_law_many"] dss ∧ ∀ N m H, RepL T N m H (([] : List D).drop j) dvs := fun j hj => ⟨[], [], .nil, bi_19 FD, fun N m H => by rw [List.drop_nil]; rfl⟩
theorem sc_20 : FnScope ["_law_what", "_law_many", "_law_one"] ["_law_what", "_law_many"] (defScope (top 36)) := ⟨rfl, rfl, rfl, by decide +kernel, rfl, by decide +kernel, by decide +kernel⟩
theorem ck_20 (k : Nat) : chkSs (Sk P w T k ["_law_what", "_law_many", "_law_one"]) (defScope (top 36)) c__law_wish_so.body (defBody (top 36)) = true := by kernel_rfl
theorem bi_20 {f : Addr} {fd : FuncData} (FD : FunD K "_law_wish_so" "_law_wish_so" (defArgs (top 36)) (defBody (top 36)) (defScope (top 36)) [] [] f fd) : Binds K fd ["_law_what", "_law_many"] [] := FD.bindsN fun _ _ _ _ _ _ us hl => match us, hl with | [_, _], _ => rfl
theorem df_20 {f : Addr} {fd : FuncData} (FD : FunD K "_law_wish_so" "_law_wish_so" (defArgs (top 36)) (defBody (top 36)) (defScope (top 36)) [] [] f fd) : ∀ j, j ≤ 0 → ∃ dvs dss, Vals dvs dss ∧ Binds K fd ["_law_what", "_law_many"] dss ∧ ∀ N m H, RepL T N m H (([] : List D).drop j) dvs := fun j hj => ⟨[], [], .nil, bi_20 FD, fun N m H => by rw [List.drop_nil]; rfl⟩
theorem sc_21 : FnScope ["_law_what", "_law_head", "_law_body", "_law_wishes_here", "_law_many", "_law_parts", "_law_part", "_law_wish_here"] ["_law_what"] (defScope (top 37)) := ⟨rfl, rfl, rfl, by decide +kernel, rfl, by decide +kernel, by decide +kernel⟩
theorem ck_21 (k : Nat) : chkSs (Sk P w T k ["_law_what", "_law_head", "_law_body", "_law_wishes_here", "_law_many", "_law_parts", "_law_part", "_law_wish_here"]) (defScope (top 37)) c__law_row_so.body (defBody (top 37)) = true := by kernel_rfl
theorem bi_21 {f : Addr} {fd : FuncData} (FD : FunD K "_law_row_so" "_law_row_so" (defArgs (top 37)) (defBody (top 37)) (defScope (top 37)) [] [] f fd) : Binds K fd ["_law_what"] [] := FD.bindsN fun _ _ _ _ _ _ us hl => match us, hl with | [_], _ => rfl
theorem df_21 {f : Addr} {fd : FuncData} (FD : FunD K "_law_row_so" "_law_row_so" (defArgs (top 37)) (defBody (top 37)) (defScope (top 37)) [] [] f fd) : ∀ j, j ≤ 0 → ∃ dvs dss, Vals dvs dss ∧ Binds K fd ["_law_what"] dss ∧ ∀ N m H, RepL T N m H (([] : List D).drop j) dvs := fun j hj => ⟨[], [], .nil, bi_21 FD, fun N m H => by rw [List.drop_nil]; rfl⟩
theorem sc_22 : FnScope ["_law_claims", "_law_known", "_law_at_row", "_law_row", "_law_name", "_law_letters_here"] ["_law_claims"] (defScope (top 38)) := ⟨rfl, rfl, rfl, by decide +kernel, rfl, by decide +kernel, by decide +kernel⟩
theorem ck_22 (k : Nat) : chkSs (Sk P w T k ["_law_claims", "_law_known", "_law_at_row", "_law_row", "_law_name", "_law_letters_here"]) (defScope (top 38)) c__law_first_bad.body (defBody (top 38)) = true := by kernel_rfl
theorem bi_22 {f : Addr} {fd : FuncData} (FD : FunD K "_law_first_bad" "_law_first_bad" (defArgs (top 38)) (defBody (top 38)) (defScope (top 38)) [] [] f fd) : Binds K fd ["_law_claims"] [] := FD.bindsN fun _ _ _ _ _ _ us hl => match us, hl with | [_], _ => rfl
theorem df_22 {f : Addr} {fd : FuncData} (FD : FunD K "_law_first_bad" "_law_first_bad" (defArgs (top 38)) (defBody (top 38)) (defScope (top 38)) [] [] f fd) : ∀ j, j ≤ 0 → ∃ dvs dss, Vals dvs dss ∧ Binds K fd ["_law_claims"] dss ∧ ∀ N m H, RepL T N m H (([] : List D).drop j) dvs := fun j hj => ⟨[], [], .nil, bi_22 FD, fun N m H => by rw [List.drop_nil]; rfl⟩
theorem sc_23 : FnScope ["_law_pool_here", "_law_many", "_law_some"] ["_law_pool_here", "_law_many"] (defScope (top 39)) := ⟨rfl, rfl, rfl, by decide +kernel, rfl, by decide +kernel, by decide +kernel⟩
theorem ck_23 (k : Nat) : chkSs (Sk P w T k ["_law_pool_here", "_law_many", "_law_some"]) (defScope (top 39)) c__law_odd_part.body (defBody (top 39)) = true := by kernel_rfl
theorem bi_23 {f : Addr} {fd : FuncData} (FD : FunD K "_law_odd_part" "_law_odd_part" (defArgs (top 39)) (defBody (top 39)) (defScope (top 39)) [] [] f fd) : Binds K fd ["_law_pool_here", "_law_many"] [] := FD.bindsN fun _ _ _ _ _ _ us hl => match us, hl with | [_, _], _ => rfl
theorem df_23 {f : Addr} {fd : FuncData} (FD : FunD K "_law_odd_part" "_law_odd_part" (defArgs (top 39)) (defBody (top 39)) (defScope (top 39)) [] [] f fd) : ∀ j, j ≤ 0 → ∃ dvs dss, Vals dvs dss ∧ Binds K fd ["_law_pool_here", "_law_many"] dss ∧ ∀ N m H, RepL T N m H (([] : List D).drop j) dvs := fun j hj => ⟨[], [], .nil, bi_23 FD, fun N m H => by rw [List.drop_nil]; rfl⟩
theorem sc_24 : FnScope ["_law_pool_here", "_law_many", "_law_good", "_law_some"] ["_law_pool_here", "_law_many"] (defScope (top 40)) := ⟨rfl, rfl, rfl, by decide +kernel, rfl, by decide +kernel, by decide +kernel⟩
theorem ck_24 (k : Nat) : chkSs (Sk P w T k ["_law_pool_here", "_law_many", "_law_good", "_law_some"]) (defScope (top 40)) c__law_odd_wish.body (defBody (top 40)) = true := by kernel_rfl
theorem bi_24 {f : Addr} {fd : FuncData} (FD : FunD K "_law_odd_wish" "_law_odd_wish" (defArgs (top 40)) (defBody (top 40)) (defScope (top 40)) [] [] f fd) : Binds K fd ["_law_pool_here", "_law_many"] [] := FD.bindsN fun _ _ _ _ _ _ us hl => match us, hl with | [_, _], _ => rfl
theorem df_24 {f : Addr} {fd : FuncData} (FD : FunD K "_law_odd_wish" "_law_odd_wish" (defArgs (top 40)) (defBody (top 40)) (defScope (top 40)) [] [] f fd) : ∀ j, j ≤ 0 → ∃ dvs dss, Vals dvs dss ∧ Binds K fd ["_law_pool_here", "_law_many"] dss ∧ ∀ N m H, RepL T N m H (([] : List D).drop j) dvs := fun j hj => ⟨[], [], .nil, bi_24 FD, fun N m H => by rw [List.drop_nil]; rfl⟩
theorem sc_25 : FnScope ["_law_pool_here", "_law_row", "_law_head", "_law_body", "_law_wishes_here", "_law_many", "_law_way"] ["_law_pool_here", "_law_row"] (defScope (top 41)) := ⟨rfl, rfl, rfl, by decide +kernel, rfl, by decide +kernel, by decide +kernel⟩
theorem ck_25 (k : Nat) : chkSs (Sk P w T k ["_law_pool_here", "_law_row", "_law_head", "_law_body", "_law_wishes_here", "_law_many", "_law_way"]) (defScope (top 41)) c__law_bent_row.body (defBody (top 41)) = true := by kernel_rfl
theorem bi_25 {f : Addr} {fd : FuncData} (FD : FunD K "_law_bent_row" "_law_bent_row" (defArgs (top 41)) (defBody (top 41)) (defScope (top 41)) [] [] f fd) : Binds K fd ["_law_pool_here", "_law_row"] [] := FD.bindsN fun _ _ _ _ _ _ us hl => match us, hl with | [_, _], _ => rfl
theorem df_25 {f : Addr} {fd : FuncData} (FD : FunD K "_law_bent_row" "_law_bent_row" (defArgs (top 41)) (defBody (top 41)) (defScope (top 41)) [] [] f fd) : ∀ j, j ≤ 0 → ∃ dvs dss, Vals dvs dss ∧ Binds K fd ["_law_pool_here", "_law_row"] dss ∧ ∀ N m H, RepL T N m H (([] : List D).drop j) dvs := fun j hj => ⟨[], [], .nil, bi_25 FD, fun N m H => by rw [List.drop_nil]; rfl⟩
theorem sc_26 : FnScope ["_law_claims", "_law_kept", "e"] ["_law_claims"] (defScope (top 42)) := ⟨rfl, rfl, rfl, by decide +kernel, rfl, by decide +kernel, by decide +kernel⟩
theorem ck_26 (k : Nat) : chkSs (Sk P w T k ["_law_claims", "_law_kept", "e"]) (defScope (top 42)) c__law_told.body (defBody (top 42)) = true := by kernel_rfl
theorem bi_26 {f : Addr} {fd : FuncData} (FD : FunD K "_law_told" "_law_told" (defArgs (top 42)) (defBody (top 42)) (defScope (top 42)) [] [] f fd) : Binds K fd ["_law_claims"] [] := FD.bindsN fun _ _ _ _ _ _ us hl => match us, hl with | [_], _ => rfl
theorem df_26 {f : Addr} {fd : FuncData} (FD : FunD K "_law_told" "_law_told" (defArgs (top 42)) (defBody (top 42)) (defScope (top 42)) [] [] f fd) : ∀ j, j ≤ 0 → ∃ dvs dss, Vals dvs dss ∧ Binds K fd ["_law_claims"] dss ∧ ∀ N m H, RepL T N m H (([] : List D).drop j) dvs := fun j hj => ⟨[], [], .nil, bi_26 FD, fun N m H => by rw [List.drop_nil]; rfl⟩
theorem sc_27 : FnScope ["_law_script", "_law_k", "_law_wish_here", "_law_full", "_law_both", "_law_odd", "_law_row", "_law_due", "_law_pool_here", "_law_claims", "_law_turn", "_law_at", "_law_bent", "_law_kept", "_law_one"] ["_law_script"] (defScope (top 43)) := ⟨rfl, rfl, rfl, by decide +kernel, rfl, by decide +kernel, by decide +kernel⟩
theorem ck_27 (k : Nat) : chkSs (Sk P w T k ["_law_script", "_law_k", "_law_wish_here", "_law_full", "_law_both", "_law_odd", "_law_row", "_law_due", "_law_pool_here", "_law_claims", "_law_turn", "_law_at", "_law_bent", "_law_kept", "_law_one"]) (defScope (top 43)) c_law.body (defBody (top 43)) = true := by kernel_rfl
theorem bi_27 {f : Addr} {fd : FuncData} (FD : FunD K "law" "law" (defArgs (top 43)) (defBody (top 43)) (defScope (top 43)) [] [] f fd) : Binds K fd ["_law_script"] [] := FD.bindsN fun _ _ _ _ _ _ us hl => match us, hl with | [_], _ => rfl
theorem df_27 {f : Addr} {fd : FuncData} (FD : FunD K "law" "law" (defArgs (top 43)) (defBody (top 43)) (defScope (top 43)) [] [] f fd) : ∀ j, j ≤ 0 → ∃ dvs dss, Vals dvs dss ∧ Binds K fd ["_law_script"] dss ∧ ∀ N m H, RepL T N m H (([] : List D).drop j) dvs := fun j hj => ⟨[], [], .nil, bi_27 FD, fun N m H => by rw [List.drop_nil]; rfl⟩
theorem mo {h : Heap} (X : K.In h) (Gn : h.Ns mainGlobals mg) (c : He.SaysD fa fn K) (cx : ex K = true) : Mo P w K mg (tbOf K ct) F G gn blt ct where
  hK := rfl
  hblt := fun x hx => by
    have hx : x ∈ blt := List.contains_iff_mem.mp hx
    simp only [blt, List.mem_cons, List.not_mem_nil, or_false] at hx
    rcases hx with rfl | rfl | rfl | rfl | rfl | rfl | rfl | rfl | rfl | rfl | rfl | rfl | rfl | rfl | rfl
    · exact He.free_ok X Gn (c.fact 28 (f := .free "ValueError") rfl)
    · exact He.free_ok X Gn (c.fact 29 (f := .free "all") rfl)
    · exact He.free_ok X Gn (c.fact 30 (f := .free "bool") rfl)
    · exact He.free_ok X Gn (c.fact 31 (f := .free "enumerate") rfl)
    · exact He.free_ok X Gn (c.fact 32 (f := .free "int") rfl)
    · exact He.free_ok X Gn (c.fact 33 (f := .free "isinstance") rfl)
    · exact He.free_ok X Gn (c.fact 34 (f := .free "len") rfl)
    · exact He.free_ok X Gn (c.fact 35 (f := .free "list") rfl)
    · exact He.free_ok X Gn (c.fact 36 (f := .free "max") rfl)
    · exact He.free_ok X Gn (c.fact 37 (f := .free "min") rfl)
    · exact He.free_ok X Gn (c.fact 38 (f := .free "range") rfl)
    · exact He.free_ok X Gn (c.fact 39 (f := .free "repr") rfl)
    · exact He.free_ok X Gn (c.fact 40 (f := .free "set") rfl)
    · exact He.free_ok X Gn (c.fact 41 (f := .free "str") rfl)
    · exact He.free_ok X Gn (c.fact 42 (f := .free "tuple") rfl)
  glo := fun i x e => match i, e with
    | 0, e => by cases (Option.some.inj e); exact glo_tup (ds := [.str "least", .str "above"]) (vs := [.str "least", .str "above"]) rfl X Gn (c.fact 43 (f := .glo "WORDS") rfl) (He.ba (He.ba cx).1).1 fun N m H => ⟨_, _, rfl, rfl, ⟨_, _, rfl, rfl, rfl⟩⟩
    | 1, e => by cases (Option.some.inj e); exact glo_str X Gn (c.fact 44 (f := .str "SIGNS" "abcdefghijklmnopqrstuvwxyz") rfl)
    | 2, e => by cases (Option.some.inj e); exact glo_int X Gn (c.fact 45 (f := .int "LONGEST" 8) rfl)
    | 3, e => by cases (Option.some.inj e); exact glo_int X Gn (c.fact 46 (f := .int "MOST_LETTERS" 10) rfl)
    | 4, e => by cases (Option.some.inj e); exact glo_int X Gn (c.fact 47 (f := .int "MOST_PLACES" 4) rfl)
    | 5, e => by cases (Option.some.inj e); exact glo_int X Gn (c.fact 48 (f := .int "MOST_BODY" 2) rfl)
    | 6, e => by cases (Option.some.inj e); exact glo_int X Gn (c.fact 49 (f := .int "MOST_WISHES" 6) rfl)
    | 7, e => by cases (Option.some.inj e); exact glo_int X Gn (c.fact 50 (f := .int "MOST_ROWS" 40) rfl)
    | n + 8, e => by cases e
  cls := fun c h => absurd h (Nat.not_lt_zero _)
  noat := fun c f h => absurd h (Nat.not_lt_zero _)
  xcs := rfl
  xi := rfl
  xc := xcsB_ok (He.ba (He.ba cx).2).1
  mks := fun c h => by cases h
  xmg := fun k x e => match k, e with
    | 0, e => by cases (Option.some.inj e); exact He.glo_ok X Gn (c.fact 51 (f := .glo "NoRows") rfl)
    | 1, e => by cases (Option.some.inj e); exact He.glo_ok X Gn (c.fact 52 (f := .glo "NoRow") rfl)
    | 2, e => by cases (Option.some.inj e); exact He.glo_ok X Gn (c.fact 53 (f := .glo "NoText") rfl)
    | n + 3, e => by cases e
  xi1 := fun base k f e => match k, e with
    | 0, e => by
      cases (Option.some.inj e)
      obtain ⟨O, h2, h3, h4⟩ := iniB_ok (He.ba (He.ba (He.ba cx).2).2).1
      obtain ⟨fd, FD⟩ := c.def_ 28 (d := ddm "NoRows" "__init__" 1 0) rfl
      exact ⟨O, _, fd, ["self", "number"], h2, h3, fnG_init (self := "self") (p := "number") (f := "number") (text := "no rows") FD ⟨rfl, rfl, rfl, by decide +kernel, rfl, by decide +kernel, by decide +kernel⟩ (by kernel_rfl) ⟨by decide +kernel, by decide +kernel, by kernel_rfl, by kernel_rfl, by decide +kernel⟩ (by kernel_rfl) (He.free_ok X Gn (c.fact 28 (f := .free "ValueError") rfl)) findCls_ve O h4, FD.bindsN fun _ _ _ _ _ _ us hl => match us, hl with | [_, _], _ => rfl⟩
    | 2, e => by
      cases (Option.some.inj e)
      obtain ⟨O, h2, h3, h4⟩ := iniB_ok (He.ba (He.ba (He.ba (He.ba cx).2).2).2).1
      obtain ⟨fd, FD⟩ := c.def_ 29 (d := ddm "NoText" "__init__" 3 0) rfl
      exact ⟨O, _, fd, ["self", "row"], h2, h3, fnG_init (self := "self") (p := "row") (f := "row") (text := "no text of rows") FD ⟨rfl, rfl, rfl, by decide +kernel, rfl, by decide +kernel, by decide +kernel⟩ (by kernel_rfl) ⟨by decide +kernel, by decide +kernel, by kernel_rfl, by kernel_rfl, by decide +kernel⟩ (by kernel_rfl) (He.free_ok X Gn (c.fact 28 (f := .free "ValueError") rfl)) findCls_ve O h4, FD.bindsN fun _ _ _ _ _ _ us hl => match us, hl with | [_, _], _ => rfl⟩
    | 1, e => by cases e
    | n + 3, e => by cases e
  fns := fun i fc hf => match i, hf with
  | 0, hf => by
    cases (Option.some.inj hf)
    obtain ⟨fd, FD⟩ := c.def_ 0 (d := dd "is_whole" 5) rfl
    exact ⟨_, fd, ["thing"], _, _, _, _, _, FD, atF_fn rfl (He.glo_ok X Gn (c.fact 0 (f := .glo "is_whole") rfl)) FD.kp, rfl, sc_0, ck_0, df_0 FD, fun ks pm h => by
      have h : (0, ks, pm) ∈ ct.kw := List.contains_iff_mem.mp h
      simp only [ct, List.mem_cons, List.not_mem_nil, or_false, Prod.mk.injEq] at h
      exact absurd h (by simp)⟩
  | 1, hf => by
    cases (Option.some.inj hf)
    obtain ⟨fd, FD⟩ := c.def_ 1 (d := dd "is_wish" 8) rfl
    exact ⟨_, fd, ["many", "thing"], _, _, _, _, _, FD, atF_fn rfl (He.glo_ok X Gn (c.fact 1 (f := .glo "is_wish") rfl)) FD.kp, rfl, sc_1, ck_1, df_1 FD, fun ks pm h => by
      have h : (1, ks, pm) ∈ ct.kw := List.contains_iff_mem.mp h
      simp only [ct, List.mem_cons, List.not_mem_nil, or_false, Prod.mk.injEq] at h
      exact absurd h (by simp)⟩
  | 2, hf => by
    cases (Option.some.inj hf)
    obtain ⟨fd, FD⟩ := c.def_ 2 (d := dd "is_name" 17) rfl
    exact ⟨_, fd, ["thing"], _, _, _, _, _, FD, atF_fn rfl (He.glo_ok X Gn (c.fact 2 (f := .glo "is_name") rfl)) FD.kp, rfl, sc_2, ck_2, df_2 FD, fun ks pm h => by
      have h : (2, ks, pm) ∈ ct.kw := List.contains_iff_mem.mp h
      simp only [ct, List.mem_cons, List.not_mem_nil, or_false, Prod.mk.injEq] at h
      exact absurd h (by simp)⟩
  | 3, hf => by
    cases (Option.some.inj hf)
    obtain ⟨fd, FD⟩ := c.def_ 3 (d := dd "is_part" 18) rfl
    exact ⟨_, fd, ["thing", "many"], _, _, _, _, _, FD, atF_fn rfl (He.glo_ok X Gn (c.fact 3 (f := .glo "is_part") rfl)) FD.kp, rfl, sc_3, ck_3, df_3 FD, fun ks pm h => by
      have h : (3, ks, pm) ∈ ct.kw := List.contains_iff_mem.mp h
      simp only [ct, List.mem_cons, List.not_mem_nil, or_false, Prod.mk.injEq] at h
      exact absurd h (by simp)⟩
  | 4, hf => by
    cases (Option.some.inj hf)
    obtain ⟨fd, FD⟩ := c.def_ 4 (d := dd "is_row" 19) rfl
    exact ⟨_, fd, ["thing"], _, _, _, _, _, FD, atF_fn rfl (He.glo_ok X Gn (c.fact 4 (f := .glo "is_row") rfl)) FD.kp, rfl, sc_4, ck_4, df_4 FD, fun ks pm h => by
      have h : (4, ks, pm) ∈ ct.kw := List.contains_iff_mem.mp h
      simp only [ct, List.mem_cons, List.not_mem_nil, or_false, Prod.mk.injEq] at h
      have h : (ks = (["thing"] : List Str) ∧ pm = ([0] : List Nat)) := by simpa using h
      rcases h with ⟨rfl, rfl⟩
      · exact kwB_def FD fun _ _ _ _ _ _ ws us hl hp => match ws, hl, hp with | [_], _, hp => by cases hp; rfl⟩
  | 5, hf => by
    cases (Option.some.inj hf)
    obtain ⟨fd, FD⟩ := c.def_ 5 (d := dd "parts_of" 20) rfl
    exact ⟨_, fd, ["row"], _, _, _, _, _, FD, atF_fn rfl (He.glo_ok X Gn (c.fact 5 (f := .glo "parts_of") rfl)) FD.kp, rfl, sc_5, ck_5, df_5 FD, fun ks pm h => by
      have h : (5, ks, pm) ∈ ct.kw := List.contains_iff_mem.mp h
      simp only [ct, List.mem_cons, List.not_mem_nil, or_false, Prod.mk.injEq] at h
      exact absurd h (by simp)⟩
  | 6, hf => by
    cases (Option.some.inj hf)
    obtain ⟨fd, FD⟩ := c.def_ 6 (d := dd "fits_known" 21) rfl
    exact ⟨_, fd, ["known", "row"], _, _, _, _, _, FD, atF_fn rfl (He.glo_ok X Gn (c.fact 6 (f := .glo "fits_known") rfl)) FD.kp, rfl, sc_6, ck_6, df_6 FD, fun ks pm h => by
      have h : (6, ks, pm) ∈ ct.kw := List.contains_iff_mem.mp h
      simp only [ct, List.mem_cons, List.not_mem_nil, or_false, Prod.mk.injEq] at h
      exact absurd h (by simp)⟩
  | 7, hf => by
    cases (Option.some.inj hf)
    obtain ⟨fd, FD⟩ := c.def_ 7 (d := dd "look_at_rows" 22) rfl
    exact ⟨_, fd, ["thing"], _, _, _, _, _, FD, atF_fn rfl (He.glo_ok X Gn (c.fact 7 (f := .glo "look_at_rows") rfl)) FD.kp, rfl, sc_7, ck_7, df_7 FD, fun ks pm h => by
      have h : (7, ks, pm) ∈ ct.kw := List.contains_iff_mem.mp h
      simp only [ct, List.mem_cons, List.not_mem_nil, or_false, Prod.mk.injEq] at h
      have h : (ks = (["thing"] : List Str) ∧ pm = ([0] : List Nat)) := by simpa using h
      rcases h with ⟨rfl, rfl⟩
      · exact kwB_def FD fun _ _ _ _ _ _ ws us hl hp => match ws, hl, hp with | [_], _, hp => by cases hp; rfl⟩
  | 8, hf => by
    cases (Option.some.inj hf)
    obtain ⟨fd, FD⟩ := c.def_ 8 (d := dd "_law_draw" 24) rfl
    exact ⟨_, fd, ["_law_pool_here", "_law_many"], _, _, _, _, _, FD, atF_fn rfl (He.glo_ok X Gn (c.fact 8 (f := .glo "_law_draw") rfl)) FD.kp, rfl, sc_8, ck_8, df_8 FD, fun ks pm h => by
      have h : (8, ks, pm) ∈ ct.kw := List.contains_iff_mem.mp h
      simp only [ct, List.mem_cons, List.not_mem_nil, or_false, Prod.mk.injEq] at h
      exact absurd h (by simp)⟩
  | 9, hf => by
    cases (Option.some.inj hf)
    obtain ⟨fd, FD⟩ := c.def_ 9 (d := dd "_law_pool" 25) rfl
    exact ⟨_, fd, ["_law_script", "_law_k"], _, _, _, _, _, FD, atF_fn rfl (He.glo_ok X Gn (c.fact 9 (f := .glo "_law_pool") rfl)) FD.kp, rfl, sc_9, ck_9, df_9 FD, fun ks pm h => by
      have h : (9, ks, pm) ∈ ct.kw := List.contains_iff_mem.mp h
      simp only [ct, List.mem_cons, List.not_mem_nil, or_false, Prod.mk.injEq] at h
      exact absurd h (by simp)⟩
  | 10, hf => by
    cases (Option.some.inj hf)
    obtain ⟨fd, FD⟩ := c.def_ 10 (d := dd "_law_arity" 26) rfl
    exact ⟨_, fd, ["_law_own_name"], _, _, _, _, _, FD, atF_fn rfl (He.glo_ok X Gn (c.fact 10 (f := .glo "_law_arity") rfl)) FD.kp, rfl, sc_10, ck_10, df_10 FD, fun ks pm h => by
      have h : (10, ks, pm) ∈ ct.kw := List.contains_iff_mem.mp h
      simp only [ct, List.mem_cons, List.not_mem_nil, or_false, Prod.mk.injEq] at h
      exact absurd h (by simp)⟩
  | 11, hf => by
    cases (Option.some.inj hf)
    obtain ⟨fd, FD⟩ := c.def_ 11 (d := dd "_law_letters" 27) rfl
    exact ⟨_, fd, ["_law_pool_here", "_law_many", "_law_tall"], _, _, _, _, _, FD, atF_fn rfl (He.glo_ok X Gn (c.fact 11 (f := .glo "_law_letters") rfl)) FD.kp, rfl, sc_11, ck_11, df_11 FD, fun ks pm h => by
      have h : (11, ks, pm) ∈ ct.kw := List.contains_iff_mem.mp h
      simp only [ct, List.mem_cons, List.not_mem_nil, or_false, Prod.mk.injEq] at h
      exact absurd h (by simp)⟩
  | 12, hf => by
    cases (Option.some.inj hf)
    obtain ⟨fd, FD⟩ := c.def_ 12 (d := dd "_law_part_in" 28) rfl
    exact ⟨_, fd, ["_law_pool_here", "_law_many"], _, _, _, _, _, FD, atF_fn rfl (He.glo_ok X Gn (c.fact 12 (f := .glo "_law_part_in") rfl)) FD.kp, rfl, sc_12, ck_12, df_12 FD, fun ks pm h => by
      have h : (12, ks, pm) ∈ ct.kw := List.contains_iff_mem.mp h
      simp only [ct, List.mem_cons, List.not_mem_nil, or_false, Prod.mk.injEq] at h
      exact absurd h (by simp)⟩
  | 13, hf => by
    cases (Option.some.inj hf)
    obtain ⟨fd, FD⟩ := c.def_ 13 (d := dd "_law_wish" 29) rfl
    exact ⟨_, fd, ["_law_pool_here", "_law_many"], _, _, _, _, _, FD, atF_fn rfl (He.glo_ok X Gn (c.fact 13 (f := .glo "_law_wish") rfl)) FD.kp, rfl, sc_13, ck_13, df_13 FD, fun ks pm h => by
      have h : (13, ks, pm) ∈ ct.kw := List.contains_iff_mem.mp h
      simp only [ct, List.mem_cons, List.not_mem_nil, or_false, Prod.mk.injEq] at h
      exact absurd h (by simp)⟩
  | 14, hf => by
    cases (Option.some.inj hf)
    obtain ⟨fd, FD⟩ := c.def_ 14 (d := dd "_law_wishes" 30) rfl
    exact ⟨_, fd, ["_law_pool_here", "_law_many", "_law_most"], _, _, _, _, _, FD, atF_fn rfl (He.glo_ok X Gn (c.fact 14 (f := .glo "_law_wishes") rfl)) FD.kp, rfl, sc_14, ck_14, df_14 FD, fun ks pm h => by
      have h : (14, ks, pm) ∈ ct.kw := List.contains_iff_mem.mp h
      simp only [ct, List.mem_cons, List.not_mem_nil, or_false, Prod.mk.injEq] at h
      exact absurd h (by simp)⟩
  | 15, hf => by
    cases (Option.some.inj hf)
    obtain ⟨fd, FD⟩ := c.def_ 15 (d := dd "_law_one_row" 31) rfl
    exact ⟨_, fd, ["_law_pool_here", "_law_most"], _, _, _, _, _, FD, atF_fn rfl (He.glo_ok X Gn (c.fact 15 (f := .glo "_law_one_row") rfl)) FD.kp, rfl, sc_15, ck_15, df_15 FD, fun ks pm h => by
      have h : (15, ks, pm) ∈ ct.kw := List.contains_iff_mem.mp h
      simp only [ct, List.mem_cons, List.not_mem_nil, or_false, Prod.mk.injEq] at h
      exact absurd h (by simp)⟩
  | 16, hf => by
    cases (Option.some.inj hf)
    obtain ⟨fd, FD⟩ := c.def_ 16 (d := dd "_law_rows" 32) rfl
    exact ⟨_, fd, ["_law_pool_here", "_law_most"], _, _, _, _, _, FD, atF_fn rfl (He.glo_ok X Gn (c.fact 16 (f := .glo "_law_rows") rfl)) FD.kp, rfl, sc_16, ck_16, df_16 FD, fun ks pm h => by
      have h : (16, ks, pm) ∈ ct.kw := List.contains_iff_mem.mp h
      simp only [ct, List.mem_cons, List.not_mem_nil, or_false, Prod.mk.injEq] at h
      exact absurd h (by simp)⟩
  | 17, hf => by
    cases (Option.some.inj hf)
    obtain ⟨fd, FD⟩ := c.def_ 17 (d := dd "_law_whole" 33) rfl
    exact ⟨_, fd, ["_law_what", "_law_low", "_law_high"], _, _, _, _, _, FD, atF_fn rfl (He.glo_ok X Gn (c.fact 17 (f := .glo "_law_whole") rfl)) FD.kp, rfl, sc_17, ck_17, df_17 FD, fun ks pm h => by
      have h : (17, ks, pm) ∈ ct.kw := List.contains_iff_mem.mp h
      simp only [ct, List.mem_cons, List.not_mem_nil, or_false, Prod.mk.injEq] at h
      exact absurd h (by simp)⟩
  | 18, hf => by
    cases (Option.some.inj hf)
    obtain ⟨fd, FD⟩ := c.def_ 18 (d := dd "_law_name_so" 34) rfl
    exact ⟨_, fd, ["_law_what"], _, _, _, _, _, FD, atF_fn rfl (He.glo_ok X Gn (c.fact 18 (f := .glo "_law_name_so") rfl)) FD.kp, rfl, sc_18, ck_18, df_18 FD, fun ks pm h => by
      have h : (18, ks, pm) ∈ ct.kw := List.contains_iff_mem.mp h
      simp only [ct, List.mem_cons, List.not_mem_nil, or_false, Prod.mk.injEq] at h
      exact absurd h (by simp)⟩
  | 19, hf => by
    cases (Option.some.inj hf)
    obtain ⟨fd, FD⟩ := c.def_ 19 (d := dd "_law_part_so" 35) rfl
    exact ⟨_, fd, ["_law_what", "_law_many"], _, _, _, _, _, FD, atF_fn rfl (He.glo_ok X Gn (c.fact 19 (f := .glo "_law_part_so") rfl)) FD.kp, rfl, sc_19, ck_19, df_19 FD, fun ks pm h => by
      have h : (19, ks, pm) ∈ ct.kw := List.contains_iff_mem.mp h
      simp only [ct, List.mem_cons, List.not_mem_nil, or_false, Prod.mk.injEq] at h
      exact absurd h (by simp)⟩
  | 20, hf => by
    cases (Option.some.inj hf)
    obtain ⟨fd, FD⟩ := c.def_ 20 (d := dd "_law_wish_so" 36) rfl
    exact ⟨_, fd, ["_law_what", "_law_many"], _, _, _, _, _, FD, atF_fn rfl (He.glo_ok X Gn (c.fact 20 (f := .glo "_law_wish_so") rfl)) FD.kp, rfl, sc_20, ck_20, df_20 FD, fun ks pm h => by
      have h : (20, ks, pm) ∈ ct.kw := List.contains_iff_mem.mp h
      simp only [ct, List.mem_cons, List.not_mem_nil, or_false, Prod.mk.injEq] at h
      exact absurd h (by simp)⟩
  | 21, hf => by
    cases (Option.some.inj hf)
    obtain ⟨fd, FD⟩ := c.def_ 21 (d := dd "_law_row_so" 37) rfl
    exact ⟨_, fd, ["_law_what"], _, _, _, _, _, FD, atF_fn rfl (He.glo_ok X Gn (c.fact 21 (f := .glo "_law_row_so") rfl)) FD.kp, rfl, sc_21, ck_21, df_21 FD, fun ks pm h => by
      have h : (21, ks, pm) ∈ ct.kw := List.contains_iff_mem.mp h
      simp only [ct, List.mem_cons, List.not_mem_nil, or_false, Prod.mk.injEq] at h
      exact absurd h (by simp)⟩
  | 22, hf => by
    cases (Option.some.inj hf)
    obtain ⟨fd, FD⟩ := c.def_ 22 (d := dd "_law_first_bad" 38) rfl
    exact ⟨_, fd, ["_law_claims"], _, _, _, _, _, FD, atF_fn rfl (He.glo_ok X Gn (c.fact 22 (f := .glo "_law_first_bad") rfl)) FD.kp, rfl, sc_22, ck_22, df_22 FD, fun ks pm h => by
      have h : (22, ks, pm) ∈ ct.kw := List.contains_iff_mem.mp h
      simp only [ct, List.mem_cons, List.not_mem_nil, or_false, Prod.mk.injEq] at h
      exact absurd h (by simp)⟩
  | 23, hf => by
    cases (Option.some.inj hf)
    obtain ⟨fd, FD⟩ := c.def_ 23 (d := dd "_law_odd_part" 39) rfl
    exact ⟨_, fd, ["_law_pool_here", "_law_many"], _, _, _, _, _, FD, atF_fn rfl (He.glo_ok X Gn (c.fact 23 (f := .glo "_law_odd_part") rfl)) FD.kp, rfl, sc_23, ck_23, df_23 FD, fun ks pm h => by
      have h : (23, ks, pm) ∈ ct.kw := List.contains_iff_mem.mp h
      simp only [ct, List.mem_cons, List.not_mem_nil, or_false, Prod.mk.injEq] at h
      exact absurd h (by simp)⟩
  | 24, hf => by
    cases (Option.some.inj hf)
    obtain ⟨fd, FD⟩ := c.def_ 24 (d := dd "_law_odd_wish" 40) rfl
    exact ⟨_, fd, ["_law_pool_here", "_law_many"], _, _, _, _, _, FD, atF_fn rfl (He.glo_ok X Gn (c.fact 24 (f := .glo "_law_odd_wish") rfl)) FD.kp, rfl, sc_24, ck_24, df_24 FD, fun ks pm h => by
      have h : (24, ks, pm) ∈ ct.kw := List.contains_iff_mem.mp h
      simp only [ct, List.mem_cons, List.not_mem_nil, or_false, Prod.mk.injEq] at h
      exact absurd h (by simp)⟩
  | 25, hf => by
    cases (Option.some.inj hf)
    obtain ⟨fd, FD⟩ := c.def_ 25 (d := dd "_law_bent_row" 41) rfl
    exact ⟨_, fd, ["_law_pool_here", "_law_row"], _, _, _, _, _, FD, atF_fn rfl (He.glo_ok X Gn (c.fact 25 (f := .glo "_law_bent_row") rfl)) FD.kp, rfl, sc_25, ck_25, df_25 FD, fun ks pm h => by
      have h : (25, ks, pm) ∈ ct.kw := List.contains_iff_mem.mp h
      simp only [ct, List.mem_cons, List.not_mem_nil, or_false, Prod.mk.injEq] at h
      exact absurd h (by simp)⟩
  | 26, hf => by
    cases (Option.some.inj hf)
    obtain ⟨fd, FD⟩ := c.def_ 26 (d := dd "_law_told" 42) rfl
    exact ⟨_, fd, ["_law_claims"], _, _, _, _, _, FD, atF_fn rfl (He.glo_ok X Gn (c.fact 26 (f := .glo "_law_told") rfl)) FD.kp, rfl, sc_26, ck_26, df_26 FD, fun ks pm h => by
      have h : (26, ks, pm) ∈ ct.kw := List.contains_iff_mem.mp h
      simp only [ct, List.mem_cons, List.not_mem_nil, or_false, Prod.mk.injEq] at h
      exact absurd h (by simp)⟩
  | 27, hf => by
    cases (Option.some.inj hf)
    obtain ⟨fd, FD⟩ := c.def_ 27 (d := dd "law" 43) rfl
    exact ⟨_, fd, ["_law_script"], _, _, _, _, _, FD, atF_fn rfl (He.glo_ok X Gn (c.fact 27 (f := .glo "law") rfl)) FD.kp, rfl, sc_27, ck_27, df_27 FD, fun ks pm h => by
      have h : (27, ks, pm) ∈ ct.kw := List.contains_iff_mem.mp h
      simp only [ct, List.mem_cons, List.not_mem_nil, or_false, Prod.mk.injEq] at h
      exact absurd h (by simp)⟩
  | n + 28, hf => by cases hf
end
end Lw
namespace Lw
open PySem PySem.Spec PyProof.Rows L2 Hr
abbrev R : PySem.W.OpenRow := PySem.W.OpenLaw.row PySem.Challenge.rw_hornroads_k10_rows_looked_at
abbrev hk : PySem.W.Hook := hookE 6 fa fn ex
def ob (s : PySem.W.SharedT) : He.AlD × Bool := obsE 6 fa fn ex (HandSHeadRun.getT s)
theorem ob_eq (s : PySem.W.SharedT) : ob s = hk.obs s.abs := obsE_eq 6 fa fn ex (HandSHeadRun.getT_eq s)
theorem run (w : World) : HandSHeadRun.RunEq R (PySem.W.view R.prog [43]) hk ob 3000 ("NoRows" :: "NoRow" :: "NoText" :: "is_whole" :: "is_wish" :: "is_name" :: "is_part" :: "is_row" :: "parts_of" :: "fits_known" :: "look_at_rows" :: "_law_draw" :: "_law_pool" :: "_law_arity" :: "_law_letters" :: "_law_part_in" :: "_law_wish" :: "_law_wishes" :: "_law_one_row" :: "_law_rows" :: "_law_whole" :: "_law_name_so" :: "_law_part_so" :: "_law_wish_so" :: "_law_row_so" :: "_law_first_bad" :: "_law_odd_part" :: "_law_odd_wish" :: "_law_bent_row" :: "_law_told" :: "WORDS" :: "SIGNS" :: "LONGEST" :: "MOST_LETTERS" :: "MOST_PLACES" :: "MOST_BODY" :: "MOST_WISHES" :: "MOST_ROWS" :: ([] : List PySem.Str)) w := by
  intro os
  kernel_rfl
end Lw
open PySem PySem.W PySem.Calls PyProof.Rows Hr
set_option maxHeartbeats 0
open PySem PySem.W PySem.Calls PyProof.Rows Hr
theorem PySem.Challenge.cw_hornroads_k10_rows_looked_at_holds : PySem.Challenge.rw_hornroads_k10_rows_looked_at.Holds := by
  w_on; o_law
  refine HandSHeadRun.head_any (r := OpenLaw.row PySem.Challenge.rw_hornroads_k10_rows_looked_at) (q := view (OpenLaw.row PySem.Challenge.rw_hornroads_k10_rows_looked_at).prog [43]) (H := Lw.hk) (ob := Lw.ob) (M := 3000) (loose := ("NoRows" :: "NoRow" :: "NoText" :: "is_whole" :: "is_wish" :: "is_name" :: "is_part" :: "is_row" :: "parts_of" :: "fits_known" :: "look_at_rows" :: "_law_draw" :: "_law_pool" :: "_law_arity" :: "_law_letters" :: "_law_part_in" :: "_law_wish" :: "_law_wishes" :: "_law_one_row" :: "_law_rows" :: "_law_whole" :: "_law_name_so" :: "_law_part_so" :: "_law_wish_so" :: "_law_row_so" :: "_law_first_bad" :: "_law_odd_part" :: "_law_odd_wish" :: "_law_bent_row" :: "_law_told" :: "WORDS" :: "SIGNS" :: "LONGEST" :: "MOST_LETTERS" :: "MOST_PLACES" :: "MOST_BODY" :: "MOST_WISHES" :: "MOST_ROWS" :: ([] : List PySem.Str))) (d := HandSHeadRun.topDef (OpenLaw.row PySem.Challenge.rw_hornroads_k10_rows_looked_at).prog 43) (kwd := []) Lw.ob_eq
    (by kernel_rfl) (fun s => by kernel_rfl) Lw.run (by kernel_rfl) (by kernel_rfl) (by kernel_rfl) (by rfl) (by first | assumption | decide +kernel) (by decide +kernel) ⟨rfl, rfl, rfl, rfl, rfl, by decide +kernel⟩ ?hw ?hc
  case hw => w_witness2
  case hc =>
    refine Hr.walk_ofG (l := PySem.Challenge.rw_hornroads_k10_rows_looked_at) (n := 63) (k := 33) (x := "_law_script") (CX := fun w => L2N.CX PySem.Challenge.pw_hornroads_k10_rows_looked_at w) rfl (by decide) (by kernel_rfl) ⟨rfl, by decide, by decide⟩ ?F (fun w H s e s' z => Hr.cx_never _ _ _ _ _ z)
    intro w mg fa h Y G hmg0
    obtain ⟨K, KX, c, cx⟩ := Y
    have hmg : mg ("law" : PySem.Str) = some (.ref fa) := by
      have e : (HandSHeadRun.topDef (OpenLaw.row PySem.Challenge.rw_hornroads_k10_rows_looked_at).prog 43).name = ("law" : PySem.Str) := by kernel_rfl
      rw [← e]
      exact hmg0
    have M := Lw.mo (P := PySem.Challenge.pw_hornroads_k10_rows_looked_at) (w := w) KX G c cx
    obtain ⟨fd, FD⟩ := c.def_ 27 (d := Lw.dd "law" 43) rfl
    have e := hmg.symm.trans (He.glo_ok KX G (c.fact 27 (f := .glo "law") rfl))
    cases e
    have b := L2.FunD.bindsA (ps := ["_law_script"]) FD fun _ _ _ _ _ _ us hl => match us, hl with | [_], _ => rfl
    refine ⟨K, fd, spF (mkS PySem.Challenge.pw_hornroads_k10_rows_looked_at w (Hr.tbOf K Lw.ct) Lw.F Lw.G Lw.gn Lw.blt Lw.ct 16 []) 27 false, KX, fun s v => b s [v] rfl, fun H a ns hl _ hS => law_sp (i := 27) rfl rfl hS (Lw.law_val ns hl), fun base _ _ => ?_⟩
    exact law_fn (base := base) M (k := 16) (i := 27) (fc := Lw.c_law) rfl rfl (He.glo_ok KX G (c.fact 27 (f := .glo "law") rfl)) FD
