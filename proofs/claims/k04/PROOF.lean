import PyProof.Rows.All
import Wide.All
import OpenK.AllK
import Wide.FinOn
import HandS.ForMost
import HandS.ForExc
import HandS.Wide
import HandS.Flow
import HandS.Style
import HandS.TupLe
import HandS.Text
import HandS.DeepEq
import PyProof.ReprReads
import HandS.Defaults
import HandS.ExcOwn
import HandS.IsInst
import HandS.Property
import HandS.AnyAll
import HandS.SortInts
import HandS.Small
import HandS.StrMore
import HandS.SetFor
import HandS.TupAny
import HandS.Iter
import HandS.Comp
import HandS.ExcIs
import HandS.ExcInit
import HandS.ExcField
import KE.KStateDown
import HandS.Ends
import HandS.More
import HandS.Words
import HandS.WordsExc
import HandS.MakeKwOnly
import HandS.Head0
import HandS.Head1
import HandS.Head2
import HandS.HeadEnd
import HandS.HeadHook1
import HandS.HeadHook2
import PyProof.StrLawsRepr
import PyProof.Rows.RegStrFacts
import PySem.Challenge.RW_latermeet_k04_whole_algebra_of_sets
section
set_option Elab.async false
set_option linter.all false
set_option maxRecDepth 100000
/-! G: plain data, a small core language, its evaluator. -/
namespace G
open PySem
abbrev Key := L2.Key
/-- plain data; .scr: the script, read alone; .cel k: the k-th cell of the store -/
inductive D where
  | non
  | bl (b : Bool)
  | int (i : Int)
  | str (x : Str)
  | tup (ds : List D)
  | lst (ds : List D)
  | scr (ds : List D)
  | dic (kvs : List (Key × D))
  | ins (c : Nat) (fs : List (Str × D))
  | cel (k : Nat)
/-- a slot: empty, a settled datum, a list, dict or instance that this def alone holds, a caught error -/
inductive EV where
  | no
  | val (d : D)
  | own (d : D)
  | exc (c : Nat) (fs : List (Str × D))
abbrev En := List EV
abbrev Mu := List D
inductive R (α : Type) where
  | ok (a : α) (e : En) (m : Mu)
  | ex (c : Nat) (fs : List (Str × D)) (e : En) (m : Mu)
  | no
inductive R0 where
  | ok (d : D) (m : Mu)
  | ex (c : Nat) (fs : List (Str × D)) (m : Mu)
  | no
inductive RS where
  | nx (e : En) (m : Mu)
  | ret (d : D) (e : En) (m : Mu)
  | brk (e : En) (m : Mu)
  | cnt (e : En) (m : Mu)
  | ex (c : Nat) (fs : List (Str × D)) (e : En) (m : Mu)
  | no
def R.bind {α β : Type} : R α → (α → En → Mu → R β) → R β
  | .ok a e m, f => f a e m
  | .ex c fs e m, _ => .ex c fs e m
  | .no, _ => .no
def R.bindS {α : Type} : R α → (α → En → Mu → RS) → RS
  | .ok a e m, f => f a e m
  | .ex c fs e m, _ => .ex c fs e m
  | .no, _ => .no
def RS.bind : RS → (En → Mu → RS) → RS
  | .nx e m, f => f e m
  | r, _ => r
def R0.lift (e : En) : R0 → R D
  | .ok d m => .ok d e m
  | .ex c fs m => .ex c fs e m
  | .no => .no
/-- a datum or nothing -/
def R.opt {α : Type} (o : Option α) (e : En) (m : Mu) : R α := match o with
  | some d => .ok d e m
  | none => .no
section
variable {α β : Type}
@[simp] theorem R.bind_ok {a : α} {e m} {f : α → En → Mu → R β} : (R.ok a e m).bind f = f a e m := rfl
@[simp] theorem R.bind_ex {c fs e m} {f : α → En → Mu → R β} : (R.ex c fs e m : R α).bind f = .ex c fs e m := rfl
@[simp] theorem R.bind_no {f : α → En → Mu → R β} : (R.no : R α).bind f = .no := rfl
@[simp] theorem R.bindS_ok {a : α} {e m} {f : α → En → Mu → RS} : (R.ok a e m).bindS f = f a e m := rfl
@[simp] theorem R.bindS_ex {c fs e m} {f : α → En → Mu → RS} : (R.ex c fs e m : R α).bindS f = .ex c fs e m := rfl
@[simp] theorem R.bindS_no {f : α → En → Mu → RS} : (R.no : R α).bindS f = .no := rfl
@[simp] theorem RS.bind_nx {e m} {f : En → Mu → RS} : (RS.nx e m).bind f = f e m := rfl
@[simp] theorem RS.bind_ret {d e m} {f : En → Mu → RS} : (RS.ret d e m).bind f = .ret d e m := rfl
@[simp] theorem RS.bind_brk {e m} {f : En → Mu → RS} : (RS.brk e m).bind f = .brk e m := rfl
@[simp] theorem RS.bind_cnt {e m} {f : En → Mu → RS} : (RS.cnt e m).bind f = .cnt e m := rfl
@[simp] theorem RS.bind_ex {c fs e m} {f : En → Mu → RS} : (RS.ex c fs e m).bind f = .ex c fs e m := rfl
@[simp] theorem RS.bind_no {f : En → Mu → RS} : RS.no.bind f = .no := rfl
@[simp] theorem R0.lift_ok {e d m} : (R0.ok d m).lift e = .ok d e m := rfl
@[simp] theorem R0.lift_ex {e c fs m} : (R0.ex c fs m).lift e = .ex c fs e m := rfl
@[simp] theorem R.opt_some {a : α} {e m} : R.opt (some a) e m = .ok a e m := rfl
@[simp] theorem R.opt_none {e m} : R.opt (none : Option α) e m = .no := rfl
end

/-! ### the core language -/
inductive Ty where
  | b (n : String)
  | c (i : Nat)
inductive B1 where
  | len | abs | int | bool | list | tuple | all | any | sum | sorted | repr | max | min | str | ord | set
inductive B2 where
  | max | min
inductive M0 where
  | upper | keys
inductive M1 where
  | count | join | startswith | strip | rstrip | index
inductive MU where
  | append | extend | clear | pop
/-- one parameter's place in a call: the i-th value that was written, or a default -/
inductive Ar where
  | w (i : Nat)
  | d (x : D)
inductive Tg where
  | nm (i : Nat)
  | nil
  | cons (t ts : Tg)
inductive C where
  | cst (d : D)
  | loc (i : Nat)
  | pk (i : Nat)
  | glb (x : Nat)
  | bin (op : Operator) (a b : C)
  | un (op : UnaryOp) (a : C)
  | cmp (op : CmpOp) (a b : C)
  | chn (o1 o2 : CmpOp) (a b c : C)
  | dget (a b : C)
  | isN (neg : Bool) (a : C)
  | isB (neg : Bool) (v : Bool) (a : C)
  | and_ (a b : C)
  | or_ (a b : C)
  | not_ (a : C)
  | ite (c a b : C)
  | tup (as : C)
  | lst (as : C)
  | dic (ks : List Str) (as : C)
  | newc (a : C)
  | nil
  | cons (a as : C)
  | call (fo : Nat) (as ks : C)
  | make (fo : Nat) (as ks : C)
  | meth (o : C) (m : Str) (as : C)
  | att (o : C) (f : Str)
  | b1 (f : B1) (a : C)
  | b2 (f : B2) (a b : C)
  | m0 (f : M0) (o : C)
  | m1 (f : M1) (o a : C)
  | ix (a b : C)
  | sl (a lo hi : C)
  | sno
  | tru (a : C)
  | wk (a : C)
  | isi (a : C) (ts : List Ty)
  | efld (i : Nat) (f : Str)
  | eisi (i : Nat) (ts : List Ty)
  | rng (a b s : C)
  | enum (a : C)
  | zip (a b : C)
  | items (a : C)
  | lc (elt : C) (t : Tg) (it cond : C) (own : List Nat)
  | lc2 (elt : C) (t : Tg) (it : C) (t2 : Tg) (it2 cond : C) (own own2 : List Nat)
inductive S where
  | skip
  | stuck
  | seq (a b : S)
  | ex (c : C)
  | asg (t : Tg) (c : C)
  | own (i : Nat) (c : C)
  | par (i j : Nat) (a b : C)
  | aug (i : Nat) (op : Operator) (c : C)
  | mut (o : C) (f : MU) (as : C)
  | seti (o i v : C)
  | fld (i : Nat) (f : Str) (c : C)
  | ret (c : C)
  | retN
  | if_ (c : C) (a b : S)
  | for_ (t : Tg) (it : C) (b : S)
  | wh (c : C) (b : S)
  | brk
  | cnt
  | raise (c : Nat) (as : C)
  | try_ (b : S) (c : Nat) (i : Nat) (s : S)

/-! ### data -/
def deref (m : Mu) : D → D
  | .cel k => (m[k]?).getD .non
  | d => d
def kD : Key → D
  | .inl i => .int i
  | .inr x => .str x
def b2i (b : Bool) : Int := if b then 1 else 0
mutual
/-- == of data without dicts and instances -/
def eqD : D → D → Option Bool
  | .non, .non => some true
  | .bl a, .bl b => some (a == b)
  | .bl a, .int b => some (b2i a == b)
  | .int a, .bl b => some (a == b2i b)
  | .int a, .int b => some (a == b)
  | .str a, .str b => some (a == b)
  | .tup a, .tup b => if a.length = b.length then eqL a b else some false
  | .lst a, .lst b => if a.length = b.length then eqL a b else some false
  | .ins _ _, _ => none
  | _, .ins _ _ => none
  | .dic _, _ => none
  | _, .dic _ => none
  | .cel _, _ => none
  | _, .cel _ => none
  | .scr _, _ => none
  | _, .scr _ => none
  | _, _ => some false
def eqL : List D → List D → Option Bool
  | [], [] => some true
  | a :: as, b :: bs => match eqD a b with
    | some true => eqL as bs
    | some false => some false
    | none => none
  | _, _ => some false
end
mutual
/-- data without dicts and instances, at most so deep -/
def plain : D → Nat → Bool
  | .non, _ => true
  | .bl _, _ => true
  | .int _, _ => true
  | .str x, _ => PyData.strOk x
  | .tup ds, n + 1 => plainL ds n
  | .lst ds, n + 1 => plainL ds n
  | _, _ => false
def plainL : List D → Nat → Bool
  | [], _ => true
  | d :: ds, n => plain d n && plainL ds n
end
/-- flat data -/
def flat : D → Bool
  | .non => true
  | .bl _ => true
  | .int _ => true
  | .str _ => true
  | _ => false
/-- < of ints and of texts -/
def lt1 : D → D → Option Bool
  | .int a, .int b => some (decide (a < b))
  | .bl a, .bl b => some (decide (b2i a < b2i b))
  | .str a, .str b => some (decide (a.cps.toList < b.cps.toList))
  | _, _ => none
/-- < of tuples of ints and texts -/
def ltL : List D → List D → Option Bool
  | [], [] => some false
  | [], _ :: _ => some true
  | _ :: _, [] => some false
  | a :: as, b :: bs => if flat a && flat b then match eqD a b with
    | some true => ltL as bs
    | some false => lt1 a b
    | none => none
    else none
def ltD : D → D → Option Bool
  | .tup a, .tup b => ltL a b
  | a, b => lt1 a b
def leL : List D → List D → Option Bool
  | [], _ => some true
  | _ :: _, [] => some false
  | a :: as, b :: bs => if flat a && flat b then match eqD a b with
    | some true => leL as bs
    | some false => lt1 a b
    | none => none
    else none
def le1 : D → D → Option Bool
  | .int a, .int b => some (decide (a ≤ b))
  | .bl a, .bl b => some (decide (b2i a ≤ b2i b))
  | .str a, .str b => some (decide (a.cps.toList ≤ b.cps.toList))
  | _, _ => none
def leD : D → D → Option Bool
  | .tup a, .tup b => leL a b
  | a, b => le1 a b
def inL (x : D) : List D → Option Bool
  | [] => some false
  | y :: ys => if flat x && flat y then match eqD y x with
    | some true => some true
    | some false => inL x ys
    | none => none
    else none
def sizeL : Nat := 16777216
/-- the widest divisor -/
def wideI : Int := 2 ^ 200
def small (i : Int) : Bool := decide (-(2 ^ 64) < i) && decide (i < 2 ^ 64)
/-- a op b of built-in data -/
def binD (op : Operator) (x y : D) : Option D := match op, x, y with
  | .Add, .int i, .int j => some (.int (i + j))
  | .Sub, .int i, .int j => some (.int (i - j))
  | .Mult, .int i, .int j => if small i || small j then some (.int (i * j)) else none
  | .FloorDiv, .int i, .int j => if decide (0 < j) && decide (j < wideI) then some (.int (i / j)) else if decide (j < 0) && decide (-(2 ^ 29) < j) then some (.int (i.fdiv j)) else none
  | .Mod, .int i, .int j => if 0 < j then some (.int (i % j)) else none
  | .Pow, .int i, .int j => if decide (0 ≤ j) && decide (j ≤ 1000) && small i then some (.int (i ^ j.toNat)) else none
  | .LShift, .int i, .int j => if decide (0 ≤ j) && decide (j ≤ 1000) && small i then some (.int (i * 2 ^ j.toNat)) else none
  | .RShift, .int i, .int j => if 0 ≤ j then some (.int (i / 2 ^ j.toNat)) else none
  | .BitAnd, .int i, .int j => some (.int (Builtin.bitAnd i j))
  | .BitOr, .int i, .int j => some (.int (Builtin.bitOr i j))
  | .BitXor, .int i, .int j => some (.int (Builtin.bitXor i j))
  | .Add, .str a, .str b => if a.length + b.length ≤ sizeL then some (.str (a ++ b)) else none
  | .Add, .scr a, .lst b => if a.length + b.length ≤ sizeL then some (.lst (a ++ b)) else none
  | .Add, .lst a, .lst b => if a.length + b.length ≤ sizeL then some (.lst (a ++ b)) else none
  | .Add, .tup a, .tup b => if !a.isEmpty && decide (a.length + b.length ≤ sizeL) then some (.tup (a ++ b)) else none
  | .Mult, .lst a, .int k => if decide (-(2 ^ 63) ≤ k) && decide (k < 2 ^ 63) && decide (a.length * k.toNat ≤ sizeL) then some (.lst (List.replicate k.toNat a).flatten) else none
  | _, _, _ => none
def dun : Operator → Option Str
  | .BitAnd => some "__and__"
  | .BitOr => some "__or__"
  | .BitXor => some "__xor__"
  | .Sub => some "__sub__"
  | _ => none
def lkK : List (Key × D) → Key → Option D
  | [], _ => none
  | (j, d) :: r, k => if j = k then some d else lkK r k
/-- == of dicts of flat data -/
def eqK (b : List (Key × D)) : List (Key × D) → Option Bool
  | [] => some true
  | (k, v) :: r => match lkK b k with
    | none => some false
    | some y => if flat v && flat y then match eqD v y, eqK b r with
        | some e, some t => some (e && t)
        | _, _ => none
      else none
def isS : D → Bool
  | .str _ => true
  | _ => false
def eqT (x y : D) : Option Bool := match x, y with
  | .dic a, .dic b => if a.length = b.length then eqK b a else some false
  | x, y => if isS x && isS y || plain x 60 && plain y 60 then eqD x y else none
/-- a == b, a < b .. of built-in data -/
def cmpD (op : CmpOp) (x y : D) : Option Bool := match op with
  | .Eq => eqT x y
  | .NotEq => if isS x && isS y || plain x 60 && plain y 60 then (eqD x y).map (!·) else none
  | .Lt => ltD x y
  | .LtE => leD x y
  | .Gt => ltD y x
  | .GtE => match x, y with
    | .int i, .int j => some (decide (j ≤ i))
    | _, _ => none
  | .In => match y with
    | .lst ys => if flat x && ys.all flat then inL x ys else none
    | .tup ys => if flat x && ys.all flat then inL x ys else none
    | _ => none
  | .NotIn => match y with
    | .lst ys => if flat x && ys.all flat then (inL x ys).map (!·) else none
    | .tup ys => if flat x && ys.all flat then (inL x ys).map (!·) else none
    | _ => none
  | _ => none
def truD : D → Option Bool
  | .non => some false
  | .bl b => some b
  | .int i => some (i != 0)
  | .str x => if x.length ≤ sizeL then some ((x.length : Int) != 0) else none
  | .tup ds => some (!ds.isEmpty)
  | .lst ds => some (!ds.isEmpty)
  | _ => none
def isTy (x : D) (t : Ty) : Option Bool := match x, t with
  | .non, .b "int" => some false
  | .non, .b "bool" => some false
  | .non, .b "str" => some false
  | .non, .b "tuple" => some false
  | .non, .b "list" => some false
  | .non, .b "dict" => some false
  | .bl _, .b "int" => some true
  | .bl _, .b "bool" => some true
  | .bl _, .b "str" => some false
  | .bl _, .b "tuple" => some false
  | .bl _, .b "list" => some false
  | .bl _, .b "dict" => some false
  | .int _, .b "int" => some true
  | .int _, .b "bool" => some false
  | .int _, .b "str" => some false
  | .int _, .b "tuple" => some false
  | .int _, .b "list" => some false
  | .int _, .b "dict" => some false
  | .str _, .b "int" => some false
  | .str _, .b "bool" => some false
  | .str _, .b "str" => some true
  | .str _, .b "tuple" => some false
  | .str _, .b "list" => some false
  | .str _, .b "dict" => some false
  | .tup _, .b "int" => some false
  | .tup _, .b "bool" => some false
  | .tup _, .b "str" => some false
  | .tup _, .b "tuple" => some true
  | .tup _, .b "list" => some false
  | .tup _, .b "dict" => some false
  | .lst _, .b "int" => some false
  | .lst _, .b "bool" => some false
  | .lst _, .b "str" => some false
  | .lst _, .b "tuple" => some false
  | .lst _, .b "list" => some true
  | .lst _, .b "dict" => some false
  | .dic _, .b "int" => some false
  | .dic _, .b "bool" => some false
  | .dic _, .b "str" => some false
  | .dic _, .b "tuple" => some false
  | .dic _, .b "list" => some false
  | .dic _, .b "dict" => some true
  | .ins _ _, .b "int" => some false
  | .ins _ _, .b "bool" => some false
  | .ins _ _, .b "str" => some false
  | .ins _ _, .b "tuple" => some false
  | .ins _ _, .b "list" => some false
  | .ins _ _, .b "dict" => some false
  | .ins c _, .c i => some (c == i)
  | .cel _, _ => none
  | .scr _, _ => none
  | _, .c _ => some false
  | _, _ => none
def isTys (x : D) : List Ty → Option Bool
  | [] => some false
  | t :: ts => match isTy x t with
    | some true => some true
    | some false => isTys x ts
    | none => none
end G
end
section
set_option Elab.async false
set_option linter.all false
set_option maxRecDepth 100000
set_option maxHeartbeats 2000000
/-! G: the order of tuples: the pairs ahead of the first unequal one are looked at, that one is compared, no other. (printed by gen_lex.py) -/
namespace GL
open PySem PySem.SeqAt Ob
open PySem.AutoSeq1 (wpAny_loadPart')
open PySem.MeetsSeq PySem.MeetsSeq2 PySem.MeetsSeq3
/-- z: what the lengths tell -/
inductive Lx (op : CmpOp) (A : Around) (s : Shared) (z : Bool) : List Value → List Value → Bool → Prop where
  | l {ys : List Value} : Lx op A s z [] ys z
  | r {xs : List Value} : Lx op A s z xs [] z
  | eq {a b : Value} {xs ys : List Value} {k : Bool} : EqAt A s a b true → Lx op A s z xs ys k → Lx op A s z (a :: xs) (b :: ys) k
  | ne {a b : Value} {xs ys : List Value} {k : Bool} : EqAt A s a b false → RcOp op A s a b k → Lx op A s z (a :: xs) (b :: ys) k
theorem body_lt (p q : Addr) (us vs : Array Value) (n n' : Nat) (d1 d2 : Option Addr) (s1 s2 : Array (Option Value)) (k : Bool) :
    Meets (Builtin.«tuple.__lt__» ⟨[.ref p, .ref q], []⟩)
      (fun A R s => s.heap.get? p = some { cls := .type "tuple", dict := d1, data := .seq us n, slots := s1 } ∧ s.heap.get? q = some { cls := .type "tuple", dict := d2, data := .seq vs n', slots := s2 } ∧
        Lx .Lt A.in1 s (decide (us.size < vs.size)) us.toList vs.toList k ∧ R (.ok (.ret (.bool k))) s) :=
  .of_wp fun prog w A R s h => by
    obtain ⟨hp, g, dr, tk, os⟩ := s
    obtain ⟨hl, hb, hx, hR⟩ := h
    have sub := AutoSeq1.sub_tuple_tuple
    wp_walk using wpAny_loadPart' hl, wpAny_loadPart' hb, wpAny_forIn_list _ (fun rest c s' => c.1 = none ∧ s' = ⟨hp, g, dr, tk, os⟩ ∧ ∃ xs ys : List Value, rest = xs.zip ys ∧ Lx .Lt A.in1 ⟨hp, g, dr, tk, os⟩ (decide (us.size < vs.size)) xs ys k) _
    case turn =>
      rintro ⟨y, x⟩ rest c s' ⟨hc, rfl, xs, ys, hz, hL⟩
      cases hL with
      | l => rw [List.zip_nil_left] at hz; cases hz
      | r => rw [List.zip_nil_right] at hz; cases hz
      | eq e1 t =>
        rw [List.zip_cons_cons] at hz
        injection hz with h1 h2
        injection h1 with h3 h4
        subst h3 h4
        refine wpAny_bind (e1 prog w _ _ ?_)
        wp_walk
        exact ⟨rfl, rfl, _, _, h2, t⟩
      | ne e1 t =>
        rw [List.zip_cons_cons] at hz
        injection hz with h1 h2
        injection h1 with h3 h4
        subst h3 h4
        refine wpAny_bind (e1 prog w _ _ ?_)
        have go := t prog w
        wp_walk using go
        exact ⟨_, rfl, by simpa using hR⟩
    case fin =>
      rintro ⟨c1, c2⟩ s' ⟨hc, rfl, xs, ys, hz, hL⟩
      simp only at hc
      subst hc
      have hk : k = decide (us.size < vs.size) := by
        cases hL with
        | l => rfl
        | r => rfl
        | eq _ _ => rw [List.zip_cons_cons] at hz; cases hz
        | ne _ _ => rw [List.zip_cons_cons] at hz; cases hz
      rw [hk] at hR
      wp_walk
      exact ⟨_, rfl, by simpa [Builtin.Tuple.tupleCompareSizes] using hR⟩
    case h => exact ⟨rfl, rfl, us.toList, vs.toList, rfl, hx⟩
theorem tup_lt {A : Around} {s : Shared} {p q : Addr} {us vs : Array Value} {k : Bool} (hl : s.heap.IsTuple p us) (hb : s.heap.IsTuple q vs) (hu : A.units < cLine)
    (h : Lx .Lt A.in1 s (decide (us.size < vs.size)) us.toList vs.toList k) : RcOp .Lt A s (.ref p) (.ref q) k := fun prog w E Q hq => by
  obtain ⟨⟨c1, d1, dt1, s1⟩, ho1, hc1, n, hd1⟩ := id hl
  obtain ⟨⟨c2, d2, dt2, s2⟩, ho2, hc2, n', hd2⟩ := id hb
  simp only at hc1 hd1 hc2 hd2
  subst hc1 hd1 hc2 hd2
  exact richCompare_meets_room (op := .Lt) ⟨_, ho1, rfl⟩ ⟨_, ho2, rfl⟩ F.slot_tuple_lt F.entry_tuple_lt (F.args_tuple_lt_2 _ _) (body_lt p q us vs n n' d1 d2 s1 s2 k)
    ⟨ho1, ho2, h, ⟨(fun z => nomatch z), hq⟩⟩ hu
theorem body_le (p q : Addr) (us vs : Array Value) (n n' : Nat) (d1 d2 : Option Addr) (s1 s2 : Array (Option Value)) (k : Bool) :
    Meets (Builtin.«tuple.__le__» ⟨[.ref p, .ref q], []⟩)
      (fun A R s => s.heap.get? p = some { cls := .type "tuple", dict := d1, data := .seq us n, slots := s1 } ∧ s.heap.get? q = some { cls := .type "tuple", dict := d2, data := .seq vs n', slots := s2 } ∧
        Lx .LtE A.in1 s (decide (us.size ≤ vs.size)) us.toList vs.toList k ∧ R (.ok (.ret (.bool k))) s) :=
  .of_wp fun prog w A R s h => by
    obtain ⟨hp, g, dr, tk, os⟩ := s
    obtain ⟨hl, hb, hx, hR⟩ := h
    have sub := AutoSeq1.sub_tuple_tuple
    wp_walk using wpAny_loadPart' hl, wpAny_loadPart' hb, wpAny_forIn_list _ (fun rest c s' => c.1 = none ∧ s' = ⟨hp, g, dr, tk, os⟩ ∧ ∃ xs ys : List Value, rest = xs.zip ys ∧ Lx .LtE A.in1 ⟨hp, g, dr, tk, os⟩ (decide (us.size ≤ vs.size)) xs ys k) _
    case turn =>
      rintro ⟨y, x⟩ rest c s' ⟨hc, rfl, xs, ys, hz, hL⟩
      cases hL with
      | l => rw [List.zip_nil_left] at hz; cases hz
      | r => rw [List.zip_nil_right] at hz; cases hz
      | eq e1 t =>
        rw [List.zip_cons_cons] at hz
        injection hz with h1 h2
        injection h1 with h3 h4
        subst h3 h4
        refine wpAny_bind (e1 prog w _ _ ?_)
        wp_walk
        exact ⟨rfl, rfl, _, _, h2, t⟩
      | ne e1 t =>
        rw [List.zip_cons_cons] at hz
        injection hz with h1 h2
        injection h1 with h3 h4
        subst h3 h4
        refine wpAny_bind (e1 prog w _ _ ?_)
        have go := t prog w
        wp_walk using go
        exact ⟨_, rfl, by simpa using hR⟩
    case fin =>
      rintro ⟨c1, c2⟩ s' ⟨hc, rfl, xs, ys, hz, hL⟩
      simp only at hc
      subst hc
      have hk : k = decide (us.size ≤ vs.size) := by
        cases hL with
        | l => rfl
        | r => rfl
        | eq _ _ => rw [List.zip_cons_cons] at hz; cases hz
        | ne _ _ => rw [List.zip_cons_cons] at hz; cases hz
      rw [hk] at hR
      wp_walk
      exact ⟨_, rfl, by simpa [Builtin.Tuple.tupleCompareSizes] using hR⟩
    case h => exact ⟨rfl, rfl, us.toList, vs.toList, rfl, hx⟩
theorem tup_le {A : Around} {s : Shared} {p q : Addr} {us vs : Array Value} {k : Bool} (hl : s.heap.IsTuple p us) (hb : s.heap.IsTuple q vs) (hu : A.units < cLine)
    (h : Lx .LtE A.in1 s (decide (us.size ≤ vs.size)) us.toList vs.toList k) : RcOp .LtE A s (.ref p) (.ref q) k := fun prog w E Q hq => by
  obtain ⟨⟨c1, d1, dt1, s1⟩, ho1, hc1, n, hd1⟩ := id hl
  obtain ⟨⟨c2, d2, dt2, s2⟩, ho2, hc2, n', hd2⟩ := id hb
  simp only at hc1 hd1 hc2 hd2
  subst hc1 hd1 hc2 hd2
  exact richCompare_meets_room (op := .LtE) ⟨_, ho1, rfl⟩ ⟨_, ho2, rfl⟩ F.slot_tuple_le F.entry_tuple_le (F.args_tuple_le_2 _ _) (body_le p q us vs n n' d1 d2 s1 s2 k)
    ⟨ho1, ho2, h, ⟨(fun z => nomatch z), hq⟩⟩ hu
theorem body_gt (p q : Addr) (us vs : Array Value) (n n' : Nat) (d1 d2 : Option Addr) (s1 s2 : Array (Option Value)) (k : Bool) :
    Meets (Builtin.«tuple.__gt__» ⟨[.ref p, .ref q], []⟩)
      (fun A R s => s.heap.get? p = some { cls := .type "tuple", dict := d1, data := .seq us n, slots := s1 } ∧ s.heap.get? q = some { cls := .type "tuple", dict := d2, data := .seq vs n', slots := s2 } ∧
        Lx .Gt A.in1 s (decide (us.size > vs.size)) us.toList vs.toList k ∧ R (.ok (.ret (.bool k))) s) :=
  .of_wp fun prog w A R s h => by
    obtain ⟨hp, g, dr, tk, os⟩ := s
    obtain ⟨hl, hb, hx, hR⟩ := h
    have sub := AutoSeq1.sub_tuple_tuple
    wp_walk using wpAny_loadPart' hl, wpAny_loadPart' hb, wpAny_forIn_list _ (fun rest c s' => c.1 = none ∧ s' = ⟨hp, g, dr, tk, os⟩ ∧ ∃ xs ys : List Value, rest = xs.zip ys ∧ Lx .Gt A.in1 ⟨hp, g, dr, tk, os⟩ (decide (us.size > vs.size)) xs ys k) _
    case turn =>
      rintro ⟨y, x⟩ rest c s' ⟨hc, rfl, xs, ys, hz, hL⟩
      cases hL with
      | l => rw [List.zip_nil_left] at hz; cases hz
      | r => rw [List.zip_nil_right] at hz; cases hz
      | eq e1 t =>
        rw [List.zip_cons_cons] at hz
        injection hz with h1 h2
        injection h1 with h3 h4
        subst h3 h4
        refine wpAny_bind (e1 prog w _ _ ?_)
        wp_walk
        exact ⟨rfl, rfl, _, _, h2, t⟩
      | ne e1 t =>
        rw [List.zip_cons_cons] at hz
        injection hz with h1 h2
        injection h1 with h3 h4
        subst h3 h4
        refine wpAny_bind (e1 prog w _ _ ?_)
        have go := t prog w
        wp_walk using go
        exact ⟨_, rfl, by simpa using hR⟩
    case fin =>
      rintro ⟨c1, c2⟩ s' ⟨hc, rfl, xs, ys, hz, hL⟩
      simp only at hc
      subst hc
      have hk : k = decide (us.size > vs.size) := by
        cases hL with
        | l => rfl
        | r => rfl
        | eq _ _ => rw [List.zip_cons_cons] at hz; cases hz
        | ne _ _ => rw [List.zip_cons_cons] at hz; cases hz
      rw [hk] at hR
      wp_walk
      exact ⟨_, rfl, by simpa [Builtin.Tuple.tupleCompareSizes] using hR⟩
    case h => exact ⟨rfl, rfl, us.toList, vs.toList, rfl, hx⟩
theorem tup_gt {A : Around} {s : Shared} {p q : Addr} {us vs : Array Value} {k : Bool} (hl : s.heap.IsTuple p us) (hb : s.heap.IsTuple q vs) (hu : A.units < cLine)
    (h : Lx .Gt A.in1 s (decide (us.size > vs.size)) us.toList vs.toList k) : RcOp .Gt A s (.ref p) (.ref q) k := fun prog w E Q hq => by
  obtain ⟨⟨c1, d1, dt1, s1⟩, ho1, hc1, n, hd1⟩ := id hl
  obtain ⟨⟨c2, d2, dt2, s2⟩, ho2, hc2, n', hd2⟩ := id hb
  simp only at hc1 hd1 hc2 hd2
  subst hc1 hd1 hc2 hd2
  exact richCompare_meets_room (op := .Gt) ⟨_, ho1, rfl⟩ ⟨_, ho2, rfl⟩ F.slot_tuple_gt F.entry_tuple_gt (F.args_tuple_gt_2 _ _) (body_gt p q us vs n n' d1 d2 s1 s2 k)
    ⟨ho1, ho2, h, ⟨(fun z => nomatch z), hq⟩⟩ hu
theorem body_ge (p q : Addr) (us vs : Array Value) (n n' : Nat) (d1 d2 : Option Addr) (s1 s2 : Array (Option Value)) (k : Bool) :
    Meets (Builtin.«tuple.__ge__» ⟨[.ref p, .ref q], []⟩)
      (fun A R s => s.heap.get? p = some { cls := .type "tuple", dict := d1, data := .seq us n, slots := s1 } ∧ s.heap.get? q = some { cls := .type "tuple", dict := d2, data := .seq vs n', slots := s2 } ∧
        Lx .GtE A.in1 s (decide (us.size ≥ vs.size)) us.toList vs.toList k ∧ R (.ok (.ret (.bool k))) s) :=
  .of_wp fun prog w A R s h => by
    obtain ⟨hp, g, dr, tk, os⟩ := s
    obtain ⟨hl, hb, hx, hR⟩ := h
    have sub := AutoSeq1.sub_tuple_tuple
    wp_walk using wpAny_loadPart' hl, wpAny_loadPart' hb, wpAny_forIn_list _ (fun rest c s' => c.1 = none ∧ s' = ⟨hp, g, dr, tk, os⟩ ∧ ∃ xs ys : List Value, rest = xs.zip ys ∧ Lx .GtE A.in1 ⟨hp, g, dr, tk, os⟩ (decide (us.size ≥ vs.size)) xs ys k) _
    case turn =>
      rintro ⟨y, x⟩ rest c s' ⟨hc, rfl, xs, ys, hz, hL⟩
      cases hL with
      | l => rw [List.zip_nil_left] at hz; cases hz
      | r => rw [List.zip_nil_right] at hz; cases hz
      | eq e1 t =>
        rw [List.zip_cons_cons] at hz
        injection hz with h1 h2
        injection h1 with h3 h4
        subst h3 h4
        refine wpAny_bind (e1 prog w _ _ ?_)
        wp_walk
        exact ⟨rfl, rfl, _, _, h2, t⟩
      | ne e1 t =>
        rw [List.zip_cons_cons] at hz
        injection hz with h1 h2
        injection h1 with h3 h4
        subst h3 h4
        refine wpAny_bind (e1 prog w _ _ ?_)
        have go := t prog w
        wp_walk using go
        exact ⟨_, rfl, by simpa using hR⟩
    case fin =>
      rintro ⟨c1, c2⟩ s' ⟨hc, rfl, xs, ys, hz, hL⟩
      simp only at hc
      subst hc
      have hk : k = decide (us.size ≥ vs.size) := by
        cases hL with
        | l => rfl
        | r => rfl
        | eq _ _ => rw [List.zip_cons_cons] at hz; cases hz
        | ne _ _ => rw [List.zip_cons_cons] at hz; cases hz
      rw [hk] at hR
      wp_walk
      exact ⟨_, rfl, by simpa [Builtin.Tuple.tupleCompareSizes] using hR⟩
    case h => exact ⟨rfl, rfl, us.toList, vs.toList, rfl, hx⟩
theorem tup_ge {A : Around} {s : Shared} {p q : Addr} {us vs : Array Value} {k : Bool} (hl : s.heap.IsTuple p us) (hb : s.heap.IsTuple q vs) (hu : A.units < cLine)
    (h : Lx .GtE A.in1 s (decide (us.size ≥ vs.size)) us.toList vs.toList k) : RcOp .GtE A s (.ref p) (.ref q) k := fun prog w E Q hq => by
  obtain ⟨⟨c1, d1, dt1, s1⟩, ho1, hc1, n, hd1⟩ := id hl
  obtain ⟨⟨c2, d2, dt2, s2⟩, ho2, hc2, n', hd2⟩ := id hb
  simp only at hc1 hd1 hc2 hd2
  subst hc1 hd1 hc2 hd2
  exact richCompare_meets_room (op := .GtE) ⟨_, ho1, rfl⟩ ⟨_, ho2, rfl⟩ F.slot_tuple_ge F.entry_tuple_ge (F.args_tuple_ge_2 _ _) (body_ge p q us vs n n' d1 d2 s1 s2 k)
    ⟨ho1, ho2, h, ⟨(fun z => nomatch z), hq⟩⟩ hu
end GL
end
section
set_option Elab.async false
set_option linter.all false
set_option maxRecDepth 100000
/-! G: the evaluator. -/
namespace G
open PySem
/-- what a body may call: a def by its number, a class by its number; the module's constants; fuel of a while -/
structure Cl where
  name : Str
  init : Nat
  meths : List (Str × Nat)
  props : List (Str × Nat)
  flds : List Str
structure Exc where
  name : Str
  fields : List Str
  up : List Nat
/-- a form of a call: whom, how many values are written, the keywords (of the last ones), the parameters' values -/
structure Fo where
  f : Nat
  nw : Nat
  ks : List Str
  ar : List Ar
structure Par where
  call : Nat → List D → Mu → R0
  make : Nat → List D → Mu → R0
  gl : List D
  cls : List Cl
  exc : List Exc
  fos : List Fo
  mfos : List Fo
  fuel : Nat
def Par.meth (P : Par) (c : Nat) (m : Str) : Option Nat := (P.cls[c]?).bind fun k => k.meths.lookup m
def Par.prop (P : Par) (c : Nat) (m : Str) : Option Nat := (P.cls[c]?).bind fun k => k.props.lookup m
def Par.insOk (P : Par) (d : D) : Bool := match d with
  | .ins c _ => (P.cls[c]?).isSome
  | _ => true
def Par.fld (P : Par) (c : Nat) (f : Str) : Bool := match P.cls[c]? with
  | some k => decide (f ∈ k.flds)
  | none => false
def Par.sub (P : Par) (c : Nat) (t : Ty) : Option Bool := match t with
  | .b "ValueError" => some true
  | .b _ => none
  | .c i => (P.exc[c]?).map fun x => c == i || x.up.contains i
def Par.subs (P : Par) (c : Nat) : List Ty → Option Bool
  | [] => some false
  | t :: ts => match P.sub c t with
    | some true => some true
    | some false => P.subs c ts
    | none => none
/-- the arguments in the parameters' order -/
def arr (ds : List D) : List Ar → Option (List D)
  | [] => some []
  | .w i :: r => (ds[i]?).bind fun d => (arr ds r).map (d :: ·)
  | .d x :: r => (arr ds r).map (x :: ·)
def arrN (nw : Nat) (ds : List D) (ar : List Ar) : Option (List D) := if ds.length = nw then arr ds ar else none
/-- .. with the keywords' values -/
def arrK (fo : Fo) (ds zs : List D) : Option (List D) := if zs.length = fo.ks.length then arrN fo.nw (ds ++ zs) fo.ar else none
/-- a name read as a datum -/
def rdLoc (i : Nat) (e : En) (m : Mu) : R D := match e[i]? with
  | some (.val d) => .ok d e m
  | some (.own d) => .ok d (e.set i (.val d)) m
  | _ => .no
/-- .. only looked at -/
def rdPk (i : Nat) (e : En) (m : Mu) : R D := match e[i]? with
  | some (.val d) => .ok d e m
  | some (.own d) => .ok d e m
  | _ => .no
/-- the object behind an operand, as it stands now -/
def objOf (c : C) (d : D) (e : En) (m : Mu) : Option D := match c with
  | .pk i => match e[i]? with
    | some (.val d) => some (deref m d)
    | some (.own d) => some d
    | _ => none
  | _ => some (deref m d)
/-- set a target -/
def setT : Tg → D → En → Option En
  | .nm i, d, e => if i < e.length then some (e.set i (.val d)) else none
  | .nil, .tup [], e => some e
  | .cons t ts, .tup (d :: ds), e => (setT t d e).bind fun e1 => setT ts (.tup ds) e1
  | _, _, _ => none
/-- the items of what is walked -/
def itemsOf : D → Option (List D)
  | .lst ds => some ds
  | .tup ds => some ds
  | .str x => some (x.cps.toList.map fun c => .str ⟨#[c]⟩)
  | _ => none
def rInts (lo : Int) (n : Nat) (s : Int) : List D := (List.range n).map fun (i : Nat) => D.int (lo + (i : Int) * s)
/-- range(a, b, s) -/
def rangeD (a b s : Int) : Option (List D) :=
  if decide (-(2 ^ 61) < a) && decide (a < 2 ^ 61) && decide (-(2 ^ 61) < b) && decide (b < 2 ^ 61) then
    if s = 1 then some (rInts a (b - a).toNat 1) else if s = 2 then some (rInts a ((b - a + 1) / 2).toNat 2) else if s = -1 then some (rInts a (a - b).toNat (-1)) else none
  else none
def enumL (ds : List D) : Nat → List D := fun k => match ds with
  | [] => []
  | d :: r => .tup [.int k, d] :: enumL r (k + 1)
def zipL : List D → List D → List D
  | a :: as, b :: bs => .tup [a, b] :: zipL as bs
  | _, _ => []
def isNon : D → Bool
  | .non => true
  | _ => false
def unT : D → Option Bool
  | .bl b => some b
  | _ => none
def toInts : List D → Option (List Int)
  | [] => some []
  | .int i :: r => (toInts r).map (i :: ·)
  | _ => none
def toStrs : List D → Option (List Str)
  | [] => some []
  | .str i :: r => (toStrs r).map (i :: ·)
  | _ => none
def toBls : List D → Option (List Bool)
  | [] => some []
  | .bl i :: r => (toBls r).map (i :: ·)
  | _ => none
def insertI (x : Int) : List Int → List Int
  | [] => [x]
  | y :: r => if x ≤ y then x :: y :: r else y :: insertI x r
def sortI : List Int → List Int
  | [] => []
  | x :: r => insertI x (sortI r)
def atD (ds : List D) (i : Int) : Option D := L2.atI ds i
def lookK (kvs : List (Key × D)) (k : D) : Option D := match k with
  | .int i => lkK kvs (.inl i)
  | .str x => lkK kvs (.inr x)
  | _ => none
/-- o[i] -/
def ixD (x y : D) : Option D := match x, y with
  | .lst ds, .int i => atD ds i
  | .tup ds, .int i => atD ds i
  | .str z, .int i => if z.length ≤ sizeL then (L2.atI z.cps.toList i).map fun c => .str ⟨#[c]⟩ else none
  | _, _ => none
def cutD {α : Type} (xs : List α) (lo hi : Option Int) : List α := (xs.drop (HT.sIx xs.length 0 lo)).take (HT.sIx xs.length xs.length hi - HT.sIx xs.length 0 lo)
/-- o[i:j] -/
def slD (x : D) (lo hi : Option Int) : Option D := match x with
  | .lst ds => some (.lst (cutD ds lo hi))
  | .tup ds => some (.tup (cutD ds lo hi))
  | .str z => if z.length ≤ sizeL then some (.str ⟨(cutD z.cps.toList lo hi).toArray⟩) else none
  | _ => none
def partD : C → D → Option (Option Int) := fun c d => match c with
  | .sno => some none
  | _ => match d with
    | .int i => some (some i)
    | _ => none
def fwd (ds : List D) (f : List Int → Option D) : Option D := (toInts ds).bind f
/-! data as the library's data -/
mutual
def toPy : D → PyData
  | .bl b => .bool b
  | .int i => .int i
  | .str x => .str x
  | .tup ds => .tuple (toPyL ds)
  | .lst ds => .list (toPyL ds)
  | _ => .none
def toPyL : List D → List PyData
  | [] => []
  | d :: ds => toPy d :: toPyL ds
end
/-- repr(x) -/
def reprD (x : D) : Option Str := if plain x 60 && (toPy x).showable && decide ((toPy x).shown.length ≤ sizeL) then some (toPy x).shown else none
/-- built-in functions of one argument, by the object behind it -/
def b1D (f : B1) (x : D) : Option D := match f, x with
  | .len, .lst ds => some (.int ds.length)
  | .len, .scr ds => some (.int ds.length)
  | .len, .tup ds => some (.int ds.length)
  | .len, .str z => if z.length ≤ sizeL then some (.int z.length) else none
  | .abs, .int i => some (.int (if i < 0 then -i else i))
  | .int, .int i => some (.int i)
  | .int, .bl b => some (.int (b2i b))
  | .bool, .bl b => some (.bl b)
  | .bool, .tup ds => some (.bl (!ds.isEmpty))
  | .bool, .lst ds => some (.bl (!ds.isEmpty))
  | .list, .lst ds => some (.lst ds)
  | .list, .scr ds => some (.lst ds)
  | .list, .tup ds => some (.lst ds)
  | .tuple, .lst ds => some (.tup ds)
  | .tuple, .tup ds => some (.tup ds)
  | .all, .lst ds => (toBls ds).map fun bs => .bl (bs.all fun b => b)
  | .any, .lst ds => (toBls ds).map fun bs => .bl (bs.any fun b => b)
  | .sum, .lst ds => (toInts ds).map fun ns => .int ns.sum
  | .sorted, .lst ds => (toInts ds).map fun ns => .lst ((sortI ns).map .int)
  | .repr, x => (reprD x).map .str
  | _, _ => none
def b2D (f : B2) (x y : D) : Option D := match f, x, y with
  | .max, .int i, .int j => some (.int (if j > i then j else i))
  | .min, .int i, .int j => some (.int (if j < i then j else i))
  | _, _, _ => none
def m0D (f : M0) (x : D) : Option D := match f, x with
  | .upper, .str z => if z.length ≤ 5592405 then some (.str (Txt.upper z)) else none
  | _, _ => none
def m1D (f : M1) (x y : D) : Option D := match f, x, y with
  | .startswith, .str a, .str b => some (.bl (Txt.startswith a b))
  | .strip, .str a, .str b => if a.length ≤ sizeL then some (.str (Txt.stripChars a b)) else none
  | .join, .str a, .lst ds => (toStrs ds).bind fun ys => if (ys.map (·.length)).sum + ys.length * a.length ≤ 16777216 then some (.str (Txt.join a ys)) else none
  | .count, .lst ds, .bl b => (toBls ds).map fun bs => .int (bs.count b : Nat)
  | _, _, _ => none
def m1Ok (f : M1) (x : D) : Bool := match f, x with
  | .count, .lst _ => true
  | .count, _ => false
  | _, .str _ => true
  | _, _ => false
def isLst : Option D → Bool
  | some (.lst _) => true
  | _ => false
def muD (f : MU) (x : D) (ds : List D) : Option D := match f, x, ds with
  | .append, .lst xs, [d] => if xs.length < sizeL then some (.lst (xs ++ [d])) else none
  | .clear, .lst xs, [] => some (.lst [])
  | _, _, _ => none
def setK (k : Key) (d : D) (kvs : List (Key × D)) : List (Key × D) :=
  if (kvs.any fun kv => decide (kv.1 = k)) = true then kvs.map (fun kv => if kv.1 = k then (kv.1, d) else kv) else kvs ++ [(k, d)]
def keyOf : D → Option Key
  | .int i => some (.inl i)
  | .str x => some (.inr x)
  | _ => none
def setiD (o i v : D) : Option D := match o with
  | .lst xs => match i with
    | .int k => (L2.ixN xs.length k).map fun j => .lst (xs.set j v)
    | _ => none
  | .dic kvs => (keyOf i).bind fun k => if kvs.length < sizeL then some (.dic (setK k v kvs)) else none
  | _ => none
def putF (f : Str) (v : D) : List (Str × D) → List (Str × D)
  | [] => [(f, v)]
  | (g, x) :: r => if g = f then (f, v) :: r else (g, x) :: putF f v r
/-- an object is written back: a slot's own, a cell -/
def wrO (c : C) (raw new : D) (e : En) (m : Mu) : Option (En × Mu) := match c with
  | .pk i => match e[i]? with
    | some (.own _) => some (e.set i (.own new), m)
    | some (.val (.cel k)) => if k < m.length then some (e, m.set k new) else none
    | _ => none
  | _ => match raw with
    | .cel k => if k < m.length then some (e, m.set k new) else none
    | _ => none
def restore : List Nat → En → En → En
  | [], _, e => e
  | i :: r, e0, e => restore r e0 (e.set i (match e0[i]? with
    | some (.val d) => .val d
    | _ => .no))
def wipeE : List Nat → En → En
  | [], e => e
  | i :: r, e => (wipeE r e).set i .no
/-- within a comprehension nothing is raised -/
def R.nox {α : Type} : R α → R α
  | .ok a e m => .ok a e m
  | _ => .no
/-- the turns of a comprehension -/
def foldR (f : D → List D → En → Mu → R (List D)) : List D → List D → En → Mu → R (List D)
  | [], acc, e, m => .ok acc e m
  | d :: ds, acc, e, m => (f d acc e m).bind fun acc1 e1 m1 => foldR f ds acc1 e1 m1
def pushR (own : List Nat) (acc : List D) (y : D) (e : En) (m : Mu) : R (List D) := if acc.length < sizeL then .ok (acc ++ [y]) (wipeE own e) m else .no
def forL (f : D → En → Mu → RS) : List D → En → Mu → RS
  | [], e, m => .nx e m
  | d :: ds, e, m => match f d e m with
      | .nx e1 m1 => forL f ds e1 m1
      | .cnt e1 m1 => forL f ds e1 m1
      | .brk e1 m1 => .nx e1 m1
      | r => r
def whL (t : En → Mu → R Bool) (f : En → Mu → RS) : Nat → En → Mu → RS
  | 0, _, _ => .no
  | n + 1, e, m => (t e m).bindS fun b e1 m1 => if b then match f e1 m1 with
      | .nx e2 m2 => whL t f n e2 m2
      | .cnt e2 m2 => whL t f n e2 m2
      | .brk e2 m2 => .nx e2 m2
      | r => r
    else .nx e1 m1
/-- truth, by an own __bool__ too -/
def C.isPk : C → Bool
  | .pk _ => true
  | _ => false
def Par.tru (P : Par) (pk : Bool) (raw : D) (o : Option D) (e : En) (m : Mu) : R Bool := match o with
  | some (.ins c _) => if pk then .no else match P.meth c "__bool__" with
    | some f => ((P.call f [raw] m).lift e).bind fun d e1 m1 => .opt (unT d) e1 m1
    | none => .no
  | some d => .opt (truD d) e m
  | none => .no
/-- a op b -/
def Par.bin (P : Par) (op : Operator) (x y : D) (ox oy : Option D) (e : En) (m : Mu) : R D := match ox, oy with
  | some (.ins c fs), some oy => match (dun op).bind (P.meth c) with
    | some f => match oy with
      | .ins c' _ => if c' = c then (P.call f [x, y] m).lift e else .no
      | _ => .no
    | none => .no
  | some a, some b => .opt (binD op a b) e m
  | _, _ => .no
/-- an own comparison: by its method's name, turned about or not; the first one is the method's object -/
def dunC : CmpOp → Option (Str × Bool)
  | .Eq => some ("__eq__", false)
  | .LtE => some ("__le__", false)
  | .Lt => some ("__lt__", false)
  | .NotEq => some ("__eq__", true)
  | _ => none
def notR (t : Bool) : D → Option D
  | .bl b => some (.bl (t != b))
  | _ => none
/-- a op b, a comparison -/
def Par.cmp (P : Par) (op : CmpOp) (x y : D) (ox oy : Option D) (e : En) (m : Mu) : R D := match ox, oy with
  | some (.ins c _), some (.ins c' _) => match dunC op with
    | some (nm, t) => match P.meth c nm with
      | some f => if c' = c then ((P.call f [x, y] m).lift e).bind fun d e1 m1 => .opt (notR t d) e1 m1 else .no
      | none => .no
    | none => .no
  | some a, some (.ins c _) => match op with
    | .In => match P.meth c "__contains__" with
      | some f => ((P.call f [y, x] m).lift e).bind fun d e1 m1 => .opt (notR false d) e1 m1
      | none => .no
    | .NotIn => match P.meth c "__contains__" with
      | some f => ((P.call f [y, x] m).lift e).bind fun d e1 m1 => .opt (notR true d) e1 m1
      | none => .no
    | _ => .no
  | some (.ins _ _), some _ => .no
  | some a, some b => .opt ((cmpD op a b).map .bl) e m
  | _, _ => .no
mutual
def evE (P : Par) : C → En → Mu → R D
  | .cst d, e, m => .ok d e m
  | .loc i, e, m => rdLoc i e m
  | .pk i, e, m => rdPk i e m
  | .glb x, e, m => .opt (P.gl[x]?) e m
  | .bin op a b, e, m => (evE P a e m).bind fun x e1 m1 => (evE P b e1 m1).bind fun y e2 m2 => P.bin op x y (objOf a x e2 m2) (objOf b y e2 m2) e2 m2
  | .un op a, e, m => (evE P a e m).bind fun x e1 m1 => match op, objOf a x e1 m1 with
    | .USub, some (.int i) => .ok (.int (-i)) e1 m1
    | .Invert, some (.int i) => .ok (.int (Builtin.bitNot i)) e1 m1
    | .Invert, some (.ins c _) => match P.meth c "__invert__" with
      | some f => (P.call f [x] m1).lift e1
      | none => .no
    | _, _ => .no
  | .cmp op a b, e, m => (evE P a e m).bind fun x e1 m1 => (evE P b e1 m1).bind fun y e2 m2 => P.cmp op x y (objOf a x e2 m2) (objOf b y e2 m2) e2 m2
  | .chn o1 o2 a b c, e, m => (evE P a e m).bind fun x e1 m1 => (evE P b e1 m1).bind fun y e2 m2 => match cmpD o1 (deref m2 x) (deref m2 y) with
    | some true => (evE P c e2 m2).bind fun z e3 m3 => .opt ((cmpD o2 (deref m3 y) (deref m3 z)).map .bl) e3 m3
    | some false => .ok (.bl false) e2 m2
    | none => .no
  | .dget a b, e, m => (evE P a e m).bind fun x e1 m1 => (evE P b e1 m1).bind fun y e2 m2 => match objOf a x e2 m2 with
    | some (.dic kvs) => .opt (lookK kvs y) e2 m2
    | _ => .no
  | .isN neg a, e, m => (evE P a e m).bind fun x e1 m1 => .ok (.bl (neg != isNon x)) e1 m1
  | .isB neg v a, e, m => (evE P a e m).bind fun x e1 m1 => match x with
    | .bl b => .ok (.bl (neg != (b == v))) e1 m1
    | _ => .no
  | .and_ a b, e, m => (evE P a e m).bind fun x e1 m1 => (P.tru a.isPk x (objOf a x e1 m1) e1 m1).bind fun t e2 m2 => if t then evE P b e2 m2 else .ok x e2 m2
  | .or_ a b, e, m => (evE P a e m).bind fun x e1 m1 => (P.tru a.isPk x (objOf a x e1 m1) e1 m1).bind fun t e2 m2 => if t then .ok x e2 m2 else evE P b e2 m2
  | .not_ a, e, m => (evE P a e m).bind fun x e1 m1 => (P.tru a.isPk x (objOf a x e1 m1) e1 m1).bind fun t e2 m2 => .ok (.bl (!t)) e2 m2
  | .ite c a b, e, m => (evT P c e m).bind fun t e1 m1 => if t then evE P a e1 m1 else evE P b e1 m1
  | .tup as, e, m => (evA P as e m).bind fun ds e1 m1 => if ds.length ≤ sizeL then .ok (.tup ds) e1 m1 else .no
  | .lst as, e, m => (evA P as e m).bind fun ds e1 m1 => if ds.length ≤ sizeL then .ok (.lst ds) e1 m1 else .no
  | .dic ks as, e, m => (evA P as e m).bind fun ds e1 m1 => .ok (.dic ((ks.map .inr).zip ds)) e1 m1
  | .newc as, e, m => (evA P as e m).bind fun ds e1 m1 => if ds.length ≤ sizeL then .ok (.cel m1.length) e1 (m1 ++ [.lst ds]) else .no
  | .call fi as ks, e, m => (evA P as e m).bind fun ds e1 m1 => (evA P ks e1 m1).bind fun zs e2 m2 => match P.fos[fi]? with
    | some fo => match arrK fo ds zs with
      | some vs => (P.call fo.f vs m2).lift e2
      | none => .no
    | none => .no
  | .make fi as ks, e, m => (evA P as e m).bind fun ds e1 m1 => (evA P ks e1 m1).bind fun zs e2 m2 => match P.mfos[fi]? with
    | some fo => match arrK fo ds zs with
      | some vs => (P.make fo.f vs m2).lift e2
      | none => .no
    | none => .no
  | .meth o f as, e, m => (evE P o e m).bind fun x e1 m1 => match objOf o x e1 m1 with
    | some (.ins c fs) => if o.isPk then .no else match P.meth c f with
      | some g => if (fs.lookup f).isSome then .no else (evA P as e1 m1).bind fun ds e2 m2 => (P.call g (x :: ds) m2).lift e2
      | none => .no
    | _ => .no
  | .att o f, e, m => (evE P o e m).bind fun x e1 m1 => match objOf o x e1 m1 with
    | some (.ins c fs) => match P.prop c f with
      | some g => if o.isPk then .no else ((P.call g [x] m1).lift e1).nox
      | none => if P.fld c f then .opt (fs.lookup f) e1 m1 else .no
    | _ => .no
  | .b1 f a, e, m => (evE P a e m).bind fun x e1 m1 => match objOf a x e1 m1 with
    | some d => .opt (b1D f d) e1 m1
    | none => .no
  | .b2 f a b, e, m => (evE P a e m).bind fun x e1 m1 => (evE P b e1 m1).bind fun y e2 m2 => .opt (b2D f x y) e2 m2
  | .m0 f o, e, m => (evE P o e m).bind fun x e1 m1 => .opt (m0D f x) e1 m1
  | .m1 f o a, e, m => (evE P o e m).bind fun x e1 m1 => if m1Ok f x then (evE P a e1 m1).bind fun y e2 m2 => match objOf a y e2 m2 with
    | some d2 => .opt (m1D f x d2) e2 m2
    | none => .no
    else .no
  | .ix a b, e, m => (evE P a e m).bind fun x e1 m1 => (evE P b e1 m1).bind fun y e2 m2 => match objOf a x e2 m2 with
    | some d => .opt (ixD d y) e2 m2
    | none => .no
  | .sl a lo hi, e, m => (evE P a e m).bind fun x e1 m1 => (evE P lo e1 m1).bind fun l e2 m2 => match partD lo l with
    | some lo => (evE P hi e2 m2).bind fun h e3 m3 => match objOf a x e3 m3, partD hi h with
      | some d, some hi => .opt (slD d lo hi) e3 m3
      | _, _ => .no
    | none => .no
  | .sno, e, m => .ok .non e m
  | .isi a ts, e, m => (evE P a e m).bind fun x e1 m1 => match objOf a x e1 m1 with
    | some d => if P.insOk d then .opt ((isTys d ts).map .bl) e1 m1 else .no
    | none => .no
  | .efld i f, e, m => match e[i]? with
    | some (.exc _ fs) => .opt (fs.lookup f) e m
    | _ => .no
  | .eisi i ts, e, m => match e[i]? with
    | some (.exc c _) => .opt ((P.subs c ts).map .bl) e m
    | _ => .no
  | .lc elt t it cond own, e, m => (evI P it e m).bind fun w e1 m1 => (foldR (fun d acc e2 m2 => match setT t d e2 with
      | some e3 => (evT P cond e3 m2).bind fun b e4 m4 => if b then (evE P elt e4 m4).bind fun y e5 m5 => pushR own acc y e5 m5 else .ok acc (wipeE own e4) m4
      | none => .no) w [] (wipeE own e1) m1).nox.bind fun ys e6 m6 => .ok (.lst ys) (restore own e1 e6) m6
  | .lc2 elt t it t2 it2 cond own own2, e, m => (evI P it e m).bind fun w e1 m1 => (foldR (fun d acc e2 m2 => match setT t d e2 with
      | some e3 => (evI P it2 e3 m2).bind fun w2 e4 m4 => (foldR (fun d2 acc2 e5 m5 => match setT t2 d2 e5 with
          | some e6 => (evT P cond e6 m5).bind fun b e7 m7 => if b then (evE P elt e7 m7).bind fun y e8 m8 => pushR own2 acc2 y e8 m8 else .ok acc2 (wipeE own2 e7) m7
          | none => .no) w2 acc (wipeE own2 e4) m4).bind fun acc9 e9 m9 => .ok acc9 (wipeE own e9) m9
      | none => .no) w [] (wipeE own e1) m1).nox.bind fun ys e6 m6 => .ok (.lst ys) (restore own e1 e6) m6
  | _, _, _ => .no
def evT (P : Par) : C → En → Mu → R Bool
  | .and_ a b, e, m => (evT P a e m).bind fun t e1 m1 => if t then evT P b e1 m1 else .ok false e1 m1
  | .or_ a b, e, m => (evT P a e m).bind fun t e1 m1 => if t then .ok true e1 m1 else evT P b e1 m1
  | .not_ a, e, m => (evT P a e m).bind fun t e1 m1 => .ok (!t) e1 m1
  | .ite c a b, e, m => (evT P c e m).bind fun t e1 m1 => if t then evT P a e1 m1 else evT P b e1 m1
  | .cmp op a b, e, m => (evE P a e m).bind fun x e1 m1 => (evE P b e1 m1).bind fun y e2 m2 => (P.cmp op x y (objOf a x e2 m2) (objOf b y e2 m2) e2 m2).bind fun d e3 m3 => .opt (unT d) e3 m3
  | .chn o1 o2 a b c, e, m => (evE P a e m).bind fun x e1 m1 => (evE P b e1 m1).bind fun y e2 m2 => match cmpD o1 (deref m2 x) (deref m2 y) with
    | some true => (evE P c e2 m2).bind fun z e3 m3 => .opt (cmpD o2 (deref m3 y) (deref m3 z)) e3 m3
    | some false => .ok false e2 m2
    | none => .no
  | .isN neg a, e, m => (evE P a e m).bind fun x e1 m1 => .ok (neg != isNon x) e1 m1
  | .isB neg v a, e, m => (evE P a e m).bind fun x e1 m1 => match x with
    | .bl b => .ok (neg != (b == v)) e1 m1
    | _ => .no
  | .tru c, e, m => (evE P c e m).bind fun x e1 m1 => P.tru c.isPk x (objOf c x e1 m1) e1 m1
  | _, _, _ => .no
def evA (P : Par) : C → En → Mu → R (List D)
  | .nil, e, m => .ok [] e m
  | .cons a as, e, m => (evE P a e m).bind fun d e1 m1 => (evA P as e1 m1).bind fun ds e2 m2 => .ok (d :: ds) e2 m2
  | _, _, _ => .no
def evI (P : Par) : C → En → Mu → R (List D)
  | .rng a b s, e, m => (evE P a e m).bind fun x e1 m1 => (evE P b e1 m1).bind fun y e2 m2 => (evE P s e2 m2).bind fun z e3 m3 => match x, y, z with
    | .int x, .int y, .int z => .opt (rangeD x y z) e3 m3
    | _, _, _ => .no
  | .enum a, e, m => (evE P a e m).bind fun x e1 m1 => match x with
    | .lst ds => .ok (enumL ds 0) e1 m1
    | _ => .no
  | .zip a b, e, m => (evE P a e m).bind fun x e1 m1 => (evE P b e1 m1).bind fun y e2 m2 => match x, y with
    | .lst ds, .lst ds2 => .ok (zipL ds ds2) e2 m2
    | _, _ => .no
  | .items a, e, m => (evE P a e m).bind fun x e1 m1 => match x with
    | .dic kvs => .ok (kvs.map fun p => .tup [kD p.1, p.2]) e1 m1
    | _ => .no
  | .wk c, e, m => (evE P c e m).bind fun x e1 m1 => .opt (itemsOf x) e1 m1
  | _, _, _ => .no
end
/-- nothing may be called -/
def Par.cold (P : Par) : Par := { P with call := fun _ _ _ => .no, make := fun _ _ _ => .no }
def noExc : En → Bool
  | [] => true
  | .exc _ _ :: _ => false
  | _ :: r => noExc r
def evS : Par → S → En → Mu → RS
  | P, .skip, e, m => .nx e m
  | P, .stuck, _, _ => .no
  | P, .seq a b, e, m => (evS P a e m).bind fun e1 m1 => evS P b e1 m1
  | P, .ex c, e, m => (evE P c e m).bindS fun _ e1 m1 => .nx e1 m1
  | P, .asg t c, e, m => (evE P c e m).bindS fun x e1 m1 => match setT t x e1 with
    | some e2 => .nx e2 m1
    | none => .no
  | P, .own i as, e, m => match as with
    | .dic ks a => (evA P a e m).bindS fun ds e1 m1 => if i < e1.length ∧ 0 < i then .nx (e1.set i (.own (.dic ((ks.map Sum.inr).zip ds)))) m1 else .no
    | .lc _ _ _ _ _ => (evE P as e m).bindS fun d e1 m1 => if i < e1.length ∧ 0 < i then .nx (e1.set i (.own d)) m1 else .no
    | as => (evA P as e m).bindS fun ds e1 m1 => if ds.length ≤ sizeL ∧ i < e1.length ∧ 0 < i then .nx (e1.set i (.own (.lst ds))) m1 else .no
  | P, .par i j a b, e, m => (evE P a e m).bindS fun x e1 m1 => (evE P b e1 m1).bindS fun y e2 m2 => if i < e2.length && j < e2.length then .nx ((e2.set i (.val x)).set j (.val y)) m2 else .no
  | P, .aug i op c, e, m => (rdLoc i e m).bindS fun x e1 m1 => (evE P c e1 m1).bindS fun y e2 m2 => match binD op x y with
    | some (.int z) => .nx (e2.set i (.val (.int z))) m2
    | _ => .no
  | P, .mut o f as, e, m => (evE P o e m).bindS fun x e1 m1 => if isLst (objOf o x e1 m1) then (evA P as e1 m1).bindS fun ds e2 m2 => match objOf o x e2 m2 with
    | some d => match (muD f d ds).bind fun d' => wrO o x d' e2 m2 with
      | some (e3, m3) => .nx e3 m3
      | none => .no
    | none => .no
    else .no
  | P, .seti o i v, e, m => (evE P v e m).bindS fun z e1 m1 => (evE P o e1 m1).bindS fun x e2 m2 => (evE P i e2 m2).bindS fun y e3 m3 => match objOf o x e3 m3 with
    | some d => match (setiD d y z).bind fun d' => wrO o x d' e3 m3 with
      | some (e4, m4) => .nx e4 m4
      | none => .no
    | none => .no
  | P, .fld i f c, e, m => (evE P c e m).bindS fun z e1 m1 => match e1[i]? with
    | some (.own (.ins k fs)) => if decide (fs.length < 900) && P.fld k f then .nx (e1.set i (.own (.ins k (putF f z fs)))) m1 else .no
    | _ => .no
  | P, .ret c, e, m => (evE P c e m).bindS fun x e1 m1 => .ret x e1 m1
  | P, .retN, e, m => .ret .non e m
  | P, .if_ c a b, e, m => (evT P c e m).bindS fun t e1 m1 => if t then evS P a e1 m1 else evS P b e1 m1
  | P, .for_ t it b, e, m => (evI P it e m).bindS fun w e1 m1 => forL (fun d e2 m2 => match setT t d e2 with
    | some e3 => evS P b e3 m2
    | none => .no) w e1 m1
  | P, .wh c b, e, m => whL (evT P c) (evS P b) P.fuel e m
  | P, .brk, e, m => .brk e m
  | P, .cnt, e, m => .cnt e m
  | P, .raise c as, e, m => (evA P as e m).bindS fun ds e1 m1 => match P.exc[c]? with
    | some x => if x.fields.length = ds.length then .ex c (x.fields.zip ds) e1 m1 else .no
    | none => .no
  | P, .try_ b c i s, e, m => match evS P b e m with
    | .ex c' fs e1 m1 => match P.sub c' (.c c) with
      | some true => if i < e1.length then match evS P.cold s (e1.set i (.exc c' fs)) m1 with
          | .nx e2 m2 => if noExc (e2.set i .no) then .nx (e2.set i .no) m2 else .no
          | .ret d e2 m2 => if noExc (e2.set i .no) then .ret d (e2.set i .no) m2 else .no
          | _ => .no
        else .no
      | some false => .ex c' fs e1 m1
      | none => .no
    | r => r
/-! ### the program -/
structure Fn where
  np : Nat
  nn : Nat
  body : S
structure Pg where
  fns : List Fn
  gl : List D
  cls : List Cl
  exc : List Exc
  fos : List Fo
  mfos : List Fo
  fuel : Nat
def Pg.par (G : Pg) (call make : Nat → List D → Mu → R0) : Par := ⟨call, make, G.gl, G.cls, G.exc, G.fos, G.mfos, G.fuel⟩
def ini (vs : List EV) (n : Nat) : En := vs ++ List.replicate (n - vs.length) .no
def RS.fin : RS → R0
  | .nx _ m => .ok .non m
  | .ret d _ m => .ok d m
  | .ex c fs _ m => .ex c fs m
  | _ => .no
/-- an __init__'s end: the instance that it has filled -/
def RS.fin0 : RS → R0
  | .nx e m => match (e.head? : Option EV) with
    | some (EV.own d) => .ok d m
    | _ => .no
  | .ret .non e m => match (e.head? : Option EV) with
    | some (EV.own d) => .ok d m
    | _ => .no
  | .ex c fs _ m => .ex c fs m
  | _ => .no
mutual
def run (G : Pg) : Nat → Nat → List D → Mu → R0
  | 0, _, _, _ => .no
  | n + 1, f, ds, m => match G.fns[f]? with
    | some t => if ds.length = t.np then (evS (G.par (run G n) (mk G n)) t.body (ini (ds.map .val) t.nn) m).fin else .no
    | none => .no
def mk (G : Pg) : Nat → Nat → List D → Mu → R0
  | 0, _, _, _ => .no
  | n + 1, c, ds, m => match G.cls[c]? with
    | some k => match G.fns[k.init]? with
      | some t => if ds.length + 1 = t.np then (evS (G.par (run G n) (mk G n)) t.body (ini (.own (.ins c []) :: ds.map .val) t.nn) m).fin0 else .no
      | none => .no
    | none => .no
end
end G
end
section
set_option Elab.async false
set_option linter.all false
set_option maxRecDepth 100000
/-! G: how data lie in the abstract heap. -/
namespace G
open PySem PySem.Spec PyProof.Rows L2
abbrev St := L2.St
/-- the names of the module's constants, defs, classes, errors -/
structure Tb where
  gn : List Str
  fnm : List Str
  cnm : List Str
  xnm : List Str
/-- what is fixed: the text's program, its written part, where its classes stand -/
structure Ge where
  prog : Program
  w : World
  K : PySem.W.Frag
  mg : Str → Option Value
  base : Heap
  pg : Pg
  cad : Nat → Addr
  fad : Nat → Addr
  fdd : Nat → FuncData
  fps : Nat → List Str
  xad : Nat → Addr
  tb : Tb
def Tb.g (t : Tb) (i : Nat) : Str := (t.gn[i]?).getD Str.empty
def Tb.f (t : Tb) (i : Nat) : Str := (t.fnm[i]?).getD Str.empty
def Tb.c (t : Tb) (i : Nat) : Str := (t.cnm[i]?).getD Str.empty
def Tb.x (t : Tb) (i : Nat) : Str := (t.xnm[i]?).getD Str.empty
def nowhere : Hp := fun _ => none
section
variable (Γ : Ge) (F : Hp) (ι : List Addr)
mutual
inductive Rep : V → D → Prop where
  | non : Rep .non .non
  | bl (b : Bool) : Rep (.bl b) (.bl b)
  | int (i : Int) : Rep (.int i) (.int i)
  | str (x : Str) : Rep (.str x) (.str x)
  | tup {a : Addr} {vs : List V} {ds : List D} : (F a = some (.tup vs) ∨ SqT Γ.K nowhere a vs) → Reps vs ds → Rep (.ref a) (.tup ds)
  | lst {a : Addr} {vs : List V} {ds : List D} : F a = some (.lst vs) → Reps vs ds → Rep (.ref a) (.lst ds)
  | scr {a : Addr} {ob : Obj} {vs : List V} {ds : List D} : F a = some (.frz ob (.lst vs)) → Reps vs ds → Rep (.ref a) (.scr ds)
  | dic {a : Addr} {xs : List (Key × V)} {kvs : List (Key × D)} : F a = some (.dK xs) → RepK xs kvs → Rep (.ref a) (.dic kvs)
  | ins {a dx : Addr} {c : Nat} {xs : List (Str × V)} {fs : List (Str × D)} : F a = some (.ins (Γ.cad c) dx xs) → RepF xs fs → Rep (.ref a) (.ins c fs)
  | cel {a : Addr} {k : Nat} : ι[k]? = some a → Rep (.ref a) (.cel k)
inductive Reps : List V → List D → Prop where
  | nil : Reps [] []
  | cons {v : V} {d : D} {vs : List V} {ds : List D} : Rep v d → Reps vs ds → Reps (v :: vs) (d :: ds)
inductive RepK : List (Key × V) → List (Key × D) → Prop where
  | nil : RepK [] []
  | cons {k : Key} {v : V} {d : D} {vs : List (Key × V)} {ds : List (Key × D)} : Rep v d → RepK vs ds → RepK ((k, v) :: vs) ((k, d) :: ds)
inductive RepF : List (Str × V) → List (Str × D) → Prop where
  | nil : RepF [] []
  | cons {k : Str} {v : V} {d : D} {vs : List (Str × V)} {ds : List (Str × D)} : Rep v d → RepF vs ds → RepF ((k, v) :: vs) ((k, d) :: ds)
end
end
/-- more is frozen, more cells -/
structure Ext (F : Hp) (ι : List Addr) (F' : Hp) (ι' : List Addr) : Prop where
  fr : ∀ a o, F a = some o → F' a = some o
  ce : ∃ ν, ι' = ι ++ ν
theorem Ext.refl (F : Hp) (ι : List Addr) : Ext F ι F ι := ⟨fun _ _ h => h, [], by simp⟩
theorem Ext.trans {F F1 F2 : Hp} {ι ι1 ι2 : List Addr} (a : Ext F ι F1 ι1) (b : Ext F1 ι1 F2 ι2) : Ext F ι F2 ι2 := by
  obtain ⟨n1, e1⟩ := a.ce
  obtain ⟨n2, e2⟩ := b.ce
  exact ⟨fun c o h => b.fr c o (a.fr c o h), n1 ++ n2, by rw [e2, e1, List.append_assoc]⟩
theorem Ext.get {F F1 : Hp} {ι ι1 : List Addr} (x : Ext F ι F1 ι1) {k : Nat} {a : Addr} (h : ι[k]? = some a) : ι1[k]? = some a := by
  obtain ⟨n, e⟩ := x.ce
  rw [e]
  have hk : k < ι.length := (List.getElem?_eq_some_iff.mp h).1
  rw [List.getElem?_append_left hk]
  exact h
section
variable {Γ : Ge} {F F' : Hp} {ι ι' : List Addr}
mutual
theorem Rep.mono (x : Ext F ι F' ι') : ∀ {v : V} {d : D}, Rep Γ F ι v d → Rep Γ F' ι' v d
  | _, _, .non => .non
  | _, _, .bl b => .bl b
  | _, _, .int i => .int i
  | _, _, .str s => .str s
  | _, _, .tup h r => .tup (h.imp (x.fr _ _) id) (Reps.mono x r)
  | _, _, .lst h r => .lst (x.fr _ _ h) (Reps.mono x r)
  | _, _, .scr h r => .scr (x.fr _ _ h) (Reps.mono x r)
  | _, _, .dic h r => .dic (x.fr _ _ h) (RepK.mono x r)
  | _, _, .ins h r => .ins (x.fr _ _ h) (RepF.mono x r)
  | _, _, .cel h => .cel (x.get h)
theorem Reps.mono (x : Ext F ι F' ι') : ∀ {v : List V} {d : List D}, Reps Γ F ι v d → Reps Γ F' ι' v d
  | _, _, .nil => .nil
  | _, _, .cons h r => .cons (Rep.mono x h) (Reps.mono x r)
theorem RepK.mono (x : Ext F ι F' ι') : ∀ {v : List (Key × V)} {d : List (Key × D)}, RepK Γ F ι v d → RepK Γ F' ι' v d
  | _, _, .nil => .nil
  | _, _, .cons h r => .cons (Rep.mono x h) (RepK.mono x r)
theorem RepF.mono (x : Ext F ι F' ι') : ∀ {v : List (Str × V)} {d : List (Str × D)}, RepF Γ F ι v d → RepF Γ F' ι' v d
  | _, _, .nil => .nil
  | _, _, .cons h r => .cons (Rep.mono x h) (RepF.mono x r)
end
theorem Reps.length : ∀ {vs : List V} {ds : List D}, Reps Γ F ι vs ds → vs.length = ds.length
  | _, _, .nil => rfl
  | _, _, .cons _ r => congrArg (· + 1) r.length
theorem Reps.get : ∀ {vs : List V} {ds : List D} {i : Nat} {d : D}, Reps Γ F ι vs ds → ds[i]? = some d → ∃ v, vs[i]? = some v ∧ Rep Γ F ι v d
  | _, _, _, _, .nil, h => by simp at h
  | _, _, 0, _, .cons r _, h => by simp at h; subst h; exact ⟨_, rfl, r⟩
  | _, _, i + 1, d, .cons _ t, h => by
    obtain ⟨v, e, r⟩ := t.get (i := i) (d := d) (by simpa using h)
    exact ⟨v, by simpa using e, r⟩
theorem Reps.getV : ∀ {vs : List V} {ds : List D} {i : Nat} {v : V}, Reps Γ F ι vs ds → vs[i]? = some v → ∃ d, ds[i]? = some d ∧ Rep Γ F ι v d
  | _, _, _, _, .nil, h => by simp at h
  | _, _, 0, _, .cons r _, h => by simp at h; subst h; exact ⟨_, rfl, r⟩
  | _, _, i + 1, d, .cons _ t, h => by
    obtain ⟨v, e, r⟩ := t.getV (i := i) (v := d) (by simpa using h)
    exact ⟨v, by simpa using e, r⟩
theorem Reps.append : ∀ {vs ws : List V} {ds es : List D}, Reps Γ F ι vs ds → Reps Γ F ι ws es → Reps Γ F ι (vs ++ ws) (ds ++ es)
  | _, _, _, _, .nil, q => q
  | _, _, _, _, .cons r t, q => .cons r (t.append q)
theorem Reps.set {v : V} {d : D} (q : Rep Γ F ι v d) : ∀ {vs : List V} {ds : List D} (i : Nat), Reps Γ F ι vs ds → Reps Γ F ι (vs.set i v) (ds.set i d)
  | _, _, _, .nil => .nil
  | _, _, 0, .cons _ t => .cons q t
  | _, _, i + 1, .cons r t => .cons r (t.set q i)
theorem Reps.take : ∀ {vs : List V} {ds : List D} (i : Nat), Reps Γ F ι vs ds → Reps Γ F ι (vs.take i) (ds.take i)
  | _, _, 0, _ => by simpa using Reps.nil
  | _, _, i + 1, .nil => .nil
  | _, _, i + 1, .cons r t => .cons r (t.take i)
theorem Reps.drop : ∀ {vs : List V} {ds : List D} (i : Nat), Reps Γ F ι vs ds → Reps Γ F ι (vs.drop i) (ds.drop i)
  | _, _, 0, r => r
  | _, _, i + 1, .nil => .nil
  | _, _, i + 1, .cons r t => t.drop i
theorem Reps.flat : ∀ {vs : List V} {ds : List D} (k : Nat), Reps Γ F ι vs ds → Reps Γ F ι (List.replicate k vs).flatten (List.replicate k ds).flatten
  | _, _, 0, _ => .nil
  | vs, ds, k + 1, r => by
    rw [List.replicate_succ, List.replicate_succ, List.flatten_cons, List.flatten_cons]
    exact r.append (r.flat k)
theorem RepF.look : ∀ {vs : List (Str × V)} {ds : List (Str × D)} {f : Str}, RepF Γ F ι vs ds → (∀ d, ds.lookup f = some d → ∃ v, vs.lookup f = some v ∧ Rep Γ F ι v d) ∧ (ds.lookup f = none → vs.lookup f = none)
  | _, _, _, .nil => ⟨fun d h => by simp at h, fun _ => rfl⟩
  | _, _, f, .cons (k := k) r t => by
    by_cases e : f = k
    · subst e
      exact ⟨fun d h => by simp [List.lookup] at h; subst h; exact ⟨_, by simp [List.lookup], r⟩, fun h => by simp [List.lookup] at h⟩
    · have q : (f == k) = false := by simpa using e
      have z := t.look (f := f)
      simpa [List.lookup, q] using z
theorem RepF.length : ∀ {vs : List (Str × V)} {ds : List (Str × D)}, RepF Γ F ι vs ds → vs.length = ds.length
  | _, _, .nil => rfl
  | _, _, .cons _ r => congrArg (· + 1) r.length
theorem RepK.length : ∀ {vs : List (Key × V)} {ds : List (Key × D)}, RepK Γ F ι vs ds → vs.length = ds.length
  | _, _, .nil => rfl
  | _, _, .cons _ r => congrArg (· + 1) r.length
end

/-- an object that may change -/
inductive ORep (Γ : Ge) (F : Hp) (ι : List Addr) (H : Hp) (a : Addr) : D → Prop where
  | lst {vs : List V} {ds : List D} : H a = some (.lst vs) → Reps Γ F ι vs ds → ORep Γ F ι H a (.lst ds)
  | dic {xs : List (Key × V)} {kvs : List (Key × D)} : H a = some (.dK xs) → RepK Γ F ι xs kvs → ORep Γ F ι H a (.dic kvs)
  | ins {dx : Addr} {c : Nat} {xs : List (Str × V)} {fs : List (Str × D)} : H a = some (.ins (Γ.cad c) dx xs) → RepF Γ F ι xs fs → ORep Γ F ι H a (.ins c fs)
theorem ORep.mono {Γ : Ge} {F F' H H' : Hp} {ι ι' : List Addr} {a : Addr} {d : D} (r : ORep Γ F ι H a d) (x : Ext F ι F' ι') (h : ∀ o, H a = some o → H' a = some o) : ORep Γ F' ι' H' a d := by
  cases r with
  | lst h1 r => exact .lst (h _ h1) (r.mono x)
  | dic h1 r => exact .dic (h _ h1) (r.mono x)
  | ins h1 r => exact .ins (h _ h1) (r.mono x)
theorem ORep.some {Γ : Ge} {F H : Hp} {ι : List Addr} {a : Addr} {d : D} (r : ORep Γ F ι H a d) : ∃ o, H a = Option.some o := by
  cases r with
  | lst h _ => exact ⟨_, h⟩
  | dic h _ => exact ⟨_, h⟩
  | ins h _ => exact ⟨_, h⟩
inductive Cells (Γ : Ge) (F : Hp) (ι : List Addr) (H : Hp) : List Addr → Mu → Prop where
  | nil : Cells Γ F ι H [] []
  | cons {a : Addr} {d : D} {as : List Addr} {m : Mu} : ORep Γ F ι H a d → Cells Γ F ι H as m → Cells Γ F ι H (a :: as) (d :: m)
section
variable {Γ : Ge} {F F' H H' : Hp} {ι ι' : List Addr}
theorem Cells.mono (x : Ext F ι F' ι') : ∀ {as : List Addr} {m : Mu}, Cells Γ F ι H as m → (∀ a ∈ as, ∀ o, H a = some o → H' a = some o) → Cells Γ F' ι' H' as m
  | _, _, .nil, _ => .nil
  | _, _, .cons r t, h => .cons (r.mono x (h _ List.mem_cons_self)) (t.mono x fun a ha => h a (List.mem_cons_of_mem _ ha))
theorem Cells.length : ∀ {as : List Addr} {m : Mu}, Cells Γ F ι H as m → as.length = m.length
  | _, _, .nil => rfl
  | _, _, .cons _ t => congrArg (· + 1) t.length
theorem Cells.get : ∀ {as : List Addr} {m : Mu} {k : Nat} {d : D}, Cells Γ F ι H as m → m[k]? = some d → ∃ a, as[k]? = some a ∧ ORep Γ F ι H a d
  | _, _, _, _, .nil, h => by simp at h
  | _, _, 0, _, .cons r _, h => by simp at h; subst h; exact ⟨_, rfl, r⟩
  | _, _, k + 1, d, .cons _ t, h => by
    obtain ⟨a, e, r⟩ := t.get (k := k) (d := d) (by simpa using h)
    exact ⟨a, by simpa using e, r⟩
theorem Cells.getA : ∀ {as : List Addr} {m : Mu} {k : Nat} {a : Addr}, Cells Γ F ι H as m → as[k]? = some a → ∃ d, m[k]? = some d ∧ ORep Γ F ι H a d
  | _, _, _, _, .nil, h => by simp at h
  | _, _, 0, _, .cons r _, h => by simp at h; subst h; exact ⟨_, rfl, r⟩
  | _, _, k + 1, d, .cons _ t, h => by
    obtain ⟨a, e, r⟩ := t.getA (k := k) (a := d) (by simpa using h)
    exact ⟨a, by simpa using e, r⟩
theorem Cells.snoc {a : Addr} {d : D} (q : ORep Γ F ι H a d) : ∀ {as : List Addr} {m : Mu}, Cells Γ F ι H as m → Cells Γ F ι H (as ++ [a]) (m ++ [d])
  | _, _, .nil => .cons q .nil
  | _, _, .cons r t => .cons r (t.snoc q)
/-- one cell is written -/
theorem Cells.set {a : Addr} {d : D} (q : ORep Γ F ι H' a d) (hk : ∀ b o, b ≠ a → H b = some o → H' b = some o) : ∀ {as : List Addr} {m : Mu} {k : Nat}, Cells Γ F ι H as m → as.Nodup → as[k]? = some a → Cells Γ F ι H' as (m.set k d)
  | _, _, _, .nil, _, h => by simp at h
  | b :: as, _, 0, .cons r t, nd, h => by
    simp at h; subst h
    have nd' := List.nodup_cons.mp nd
    exact .cons q (t.mono (Ext.refl F ι) fun c hc o e => hk c o (fun z => nd'.1 (z ▸ hc)) e)
  | b :: as, _, k + 1, .cons r t, nd, h => by
    have nd' := List.nodup_cons.mp nd
    have h' : as[k]? = some a := by simpa using h
    have ne : b ≠ a := fun z => nd'.1 (z ▸ List.mem_of_getElem? h')
    exact .cons (r.mono (Ext.refl F ι) fun o e => hk b o ne e) (t.set q hk nd'.2 h')
end
/-- a caught error, as its slot knows it: its address, its class, its dict -/
structure Cau where
  a : Addr
  c : Nat
  dd : Option Addr
/-- an error's fields -/
def RepX (Γ : Ge) (F : Hp) (ι : List Addr) (fs : List (Str × D)) (dd : Option Addr) : Prop :=
  (dd = none ∧ fs = []) ∨ ∃ d xs, dd = some d ∧ F d = some (.xd xs) ∧ ∀ f, (∀ y, fs.lookup f = some y → ∃ v, xs.lookup f = some v ∧ Rep Γ F ι v y)
theorem RepX.mono {Γ : Ge} {F F' : Hp} {ι ι' : List Addr} {fs : List (Str × D)} {dd : Option Addr} (r : RepX Γ F ι fs dd) (x : Ext F ι F' ι') : RepX Γ F' ι' fs dd := by
  rcases r with r | ⟨d, xs, e, h, k⟩
  · exact .inl r
  · refine .inr ⟨d, xs, e, x.fr _ _ h, fun f y z => ?_⟩
    obtain ⟨v, l, q⟩ := k f y z
    exact ⟨v, l, q.mono x⟩
/-- the slots; as: the addresses of what they alone hold -/
inductive EnvR (Γ : Ge) (F : Hp) (ι : List Addr) (H : Hp) (cs : List Cau) : En → St → List Addr → Prop where
  | nil : EnvR Γ F ι H cs [] [] []
  | no {v : Option V} {e : En} {σ : St} {as : List Addr} : EnvR Γ F ι H cs e σ as → EnvR Γ F ι H cs (.no :: e) (v :: σ) as
  | val {v : V} {d : D} {e : En} {σ : St} {as : List Addr} : Rep Γ F ι v d → EnvR Γ F ι H cs e σ as → EnvR Γ F ι H cs (.val d :: e) (some v :: σ) as
  | own {a : Addr} {d : D} {e : En} {σ : St} {as : List Addr} : ORep Γ F ι H a d → EnvR Γ F ι H cs e σ as → EnvR Γ F ι H cs (.own d :: e) (some (.ref a) :: σ) (a :: as)
  | exc {x : Cau} {fs : List (Str × D)} {e : En} {σ : St} {as : List Addr} : x ∈ cs → RepX Γ F ι fs x.dd → EnvR Γ F ι H cs e σ as → EnvR Γ F ι H cs (.exc x.c fs :: e) (some (.ref x.a) :: σ) as
section
variable {Γ : Ge} {F F' H H' : Hp} {ι ι' : List Addr} {cs : List Cau}
theorem EnvR.length : ∀ {e : En} {σ : St} {as : List Addr}, EnvR Γ F ι H cs e σ as → e.length = σ.length
  | _, _, _, .nil => rfl
  | _, _, _, .no t => congrArg (· + 1) t.length
  | _, _, _, .val _ t => congrArg (· + 1) t.length
  | _, _, _, .own _ t => congrArg (· + 1) t.length
  | _, _, _, .exc _ _ t => congrArg (· + 1) t.length
theorem EnvR.mono (x : Ext F ι F' ι') : ∀ {e : En} {σ : St} {as : List Addr}, EnvR Γ F ι H cs e σ as → (∀ a ∈ as, ∀ o, H a = some o → H' a = some o) → EnvR Γ F' ι' H' cs e σ as
  | _, _, _, .nil, _ => .nil
  | _, _, _, .no t, h => .no (t.mono x h)
  | _, _, _, .val r t, h => .val (r.mono x) (t.mono x h)
  | _, _, _, .own r t, h => .own (r.mono x (h _ List.mem_cons_self)) (t.mono x fun a ha => h a (List.mem_cons_of_mem _ ha))
  | _, _, _, .exc m r t, h => .exc m (r.mono x) (t.mono x h)
theorem EnvR.there : ∀ {e : En} {σ : St} {as : List Addr}, EnvR Γ F ι H cs e σ as → ∀ a ∈ as, ∃ o, H a = some o
  | _, _, _, .nil, _, h => by simp at h
  | _, _, _, .no t, a, h => t.there a h
  | _, _, _, .val _ t, a, h => t.there a h
  | _, _, _, .exc _ _ t, a, h => t.there a h
  | _, _, _, .own r t, a, h => by
    rcases List.mem_cons.mp h with rfl | h
    · exact r.some
    · exact t.there a h
theorem EnvR.atVal : ∀ {e : En} {σ : St} {as : List Addr} {i : Nat} {d : D}, EnvR Γ F ι H cs e σ as → e[i]? = some (.val d) → ∃ v, σ[i]? = some (some v) ∧ Rep Γ F ι v d
  | _, _, _, _, _, .nil, h => by simp at h
  | _, _, _, 0, _, .val r _, h => by simp at h; subst h; exact ⟨_, rfl, r⟩
  | _, _, _, 0, _, .no _, h => by simp at h
  | _, _, _, 0, _, .own _ _, h => by simp at h
  | _, _, _, 0, _, .exc _ _ _, h => by simp at h
  | _, _, _, i + 1, d, .no t, h => by simpa using t.atVal (i := i) (d := d) (by simpa using h)
  | _, _, _, i + 1, d, .val _ t, h => by simpa using t.atVal (i := i) (d := d) (by simpa using h)
  | _, _, _, i + 1, d, .own _ t, h => by simpa using t.atVal (i := i) (d := d) (by simpa using h)
  | _, _, _, i + 1, d, .exc _ _ t, h => by simpa using t.atVal (i := i) (d := d) (by simpa using h)
theorem EnvR.atOwn : ∀ {e : En} {σ : St} {as : List Addr} {i : Nat} {d : D}, EnvR Γ F ι H cs e σ as → e[i]? = some (.own d) → ∃ a, σ[i]? = some (some (.ref a)) ∧ ORep Γ F ι H a d ∧ a ∈ as
  | _, _, _, _, _, .nil, h => by simp at h
  | _, _, _, 0, _, .own r _, h => by simp at h; subst h; exact ⟨_, rfl, r, List.mem_cons_self⟩
  | _, _, _, 0, _, .no _, h => by simp at h
  | _, _, _, 0, _, .val _ _, h => by simp at h
  | _, _, _, 0, _, .exc _ _ _, h => by simp at h
  | _, _, _, i + 1, d, .no t, h => by simpa using t.atOwn (i := i) (d := d) (by simpa using h)
  | _, _, _, i + 1, d, .val _ t, h => by simpa using t.atOwn (i := i) (d := d) (by simpa using h)
  | _, _, _, i + 1, d, .own _ t, h => by
    obtain ⟨a, e1, r, m⟩ := t.atOwn (i := i) (d := d) (by simpa using h)
    exact ⟨a, by simpa using e1, r, List.mem_cons_of_mem _ m⟩
  | _, _, _, i + 1, d, .exc _ _ t, h => by simpa using t.atOwn (i := i) (d := d) (by simpa using h)
theorem EnvR.atExc : ∀ {e : En} {σ : St} {as : List Addr} {i c : Nat} {fs : List (Str × D)}, EnvR Γ F ι H cs e σ as → e[i]? = some (.exc c fs) → ∃ x, x ∈ cs ∧ σ[i]? = some (some (.ref x.a)) ∧ x.c = c ∧ RepX Γ F ι fs x.dd
  | _, _, _, _, _, _, .nil, h => by simp at h
  | _, _, _, 0, _, _, .exc m r _, h => by simp at h; obtain ⟨rfl, rfl⟩ := h; exact ⟨_, m, rfl, rfl, r⟩
  | _, _, _, 0, _, _, .no _, h => by simp at h
  | _, _, _, 0, _, _, .val _ _, h => by simp at h
  | _, _, _, 0, _, _, .own _ _, h => by simp at h
  | _, _, _, i + 1, c, fs, .no t, h => by simpa using t.atExc (i := i) (c := c) (fs := fs) (by simpa using h)
  | _, _, _, i + 1, c, fs, .val _ t, h => by simpa using t.atExc (i := i) (c := c) (fs := fs) (by simpa using h)
  | _, _, _, i + 1, c, fs, .own _ t, h => by simpa using t.atExc (i := i) (c := c) (fs := fs) (by simpa using h)
  | _, _, _, i + 1, c, fs, .exc _ _ t, h => by simpa using t.atExc (i := i) (c := c) (fs := fs) (by simpa using h)
/-- a slot is given a settled datum -/
theorem EnvR.setVal {v : V} {d : D} (q : Rep Γ F ι v d) : ∀ {e : En} {σ : St} {as : List Addr} (i : Nat), EnvR Γ F ι H cs e σ as → ∃ as', EnvR Γ F ι H cs (e.set i (.val d)) (σ.set i (some v)) as' ∧ as'.Sublist as
  | _, _, _, _, .nil => ⟨[], .nil, List.Sublist.refl _⟩
  | _, _, as, 0, .no t => ⟨as, .val q t, List.Sublist.refl _⟩
  | _, _, as, 0, .val _ t => ⟨as, .val q t, List.Sublist.refl _⟩
  | _, _, as, 0, .exc _ _ t => ⟨as, .val q t, List.Sublist.refl _⟩
  | _, _, _, 0, .own (as := as) _ t => ⟨as, .val q t, List.sublist_cons_self _ _⟩
  | _, _, as, i + 1, .no t => let ⟨b, h, s⟩ := t.setVal q i; ⟨b, .no h, s⟩
  | _, _, as, i + 1, .val r t => let ⟨b, h, s⟩ := t.setVal q i; ⟨b, .val r h, s⟩
  | _, _, as, i + 1, .exc m r t => let ⟨b, h, s⟩ := t.setVal q i; ⟨b, .exc m r h, s⟩
  | _, _, _, i + 1, .own r t => let ⟨b, h, s⟩ := t.setVal q i; ⟨_, .own r h, s.cons₂ _⟩
/-- a slot is emptied, whatever the frame holds there -/
theorem EnvR.setNo {v : Option V} : ∀ {e : En} {σ : St} {as : List Addr} (i : Nat), EnvR Γ F ι H cs e σ as → ∃ as', EnvR Γ F ι H cs (e.set i .no) (σ.set i v) as' ∧ as'.Sublist as
  | _, _, _, _, .nil => ⟨[], .nil, List.Sublist.refl _⟩
  | _, _, as, 0, .no t => ⟨as, .no t, List.Sublist.refl _⟩
  | _, _, as, 0, .val _ t => ⟨as, .no t, List.Sublist.refl _⟩
  | _, _, as, 0, .exc _ _ t => ⟨as, .no t, List.Sublist.refl _⟩
  | _, _, _, 0, .own (as := as) _ t => ⟨as, .no t, List.sublist_cons_self _ _⟩
  | _, _, as, i + 1, .no t => let ⟨b, h, s⟩ := t.setNo i; ⟨b, .no h, s⟩
  | _, _, as, i + 1, .val r t => let ⟨b, h, s⟩ := t.setNo i; ⟨b, .val r h, s⟩
  | _, _, as, i + 1, .exc m r t => let ⟨b, h, s⟩ := t.setNo i; ⟨b, .exc m r h, s⟩
  | _, _, _, i + 1, .own r t => let ⟨b, h, s⟩ := t.setNo i; ⟨_, .own r h, s.cons₂ _⟩
/-- a slot is given an object of its own: a new one -/
theorem EnvR.setOwn {a : Addr} {d : D} (q : ORep Γ F ι H a d) : ∀ {e : En} {σ : St} {as : List Addr} (i : Nat), EnvR Γ F ι H cs e σ as → i < e.length → ∃ as', EnvR Γ F ι H cs (e.set i (.own d)) (σ.set i (some (.ref a))) as' ∧ ∀ b ∈ as', b = a ∨ b ∈ as
  | _, _, _, _, .nil, h => by simp at h
  | _, _, as, 0, .no t, _ => ⟨_, .own q t, fun b hb => List.mem_cons.mp hb⟩
  | _, _, as, 0, .val _ t, _ => ⟨_, .own q t, fun b hb => List.mem_cons.mp hb⟩
  | _, _, as, 0, .exc _ _ t, _ => ⟨_, .own q t, fun b hb => List.mem_cons.mp hb⟩
  | _, _, _, 0, .own _ t, _ => ⟨_, .own q t, fun b hb => (List.mem_cons.mp hb).imp id (List.mem_cons_of_mem _)⟩
  | _, _, as, i + 1, .no t, h => let ⟨b, h, s⟩ := t.setOwn q i (by simpa using h); ⟨b, .no h, s⟩
  | _, _, as, i + 1, .val r t, h => let ⟨b, h, s⟩ := t.setOwn q i (by simpa using h); ⟨b, .val r h, s⟩
  | _, _, as, i + 1, .exc m r t, h => let ⟨b, h, s⟩ := t.setOwn q i (by simpa using h); ⟨b, .exc m r h, s⟩
  | _, _, _, i + 1, .own r t, h => let ⟨b, h, s⟩ := t.setOwn q i (by simpa using h); ⟨_, .own r h, fun c hc => by
      rcases List.mem_cons.mp hc with rfl | hc
      · exact .inr List.mem_cons_self
      · exact (s c hc).imp id (List.mem_cons_of_mem _)⟩
end
end G
end
section
set_option Elab.async false
set_option linter.all false
set_option maxRecDepth 100000
set_option maxHeartbeats 1000000
/-! G: a state of the evaluator and a state of the layer; what a reading asks. -/
namespace G
open PySem PySem.Spec PyProof.Rows L2
/-- the state at a def's entry -/
structure En0 where
  H : Hp
  F : Hp
  ι : List Addr
  me : Option Addr
def lk : HO → Bool
  | .dK _ => true
  | _ => false
/-- the addresses of what the slots alone hold -/
def ownA : En → St → List Addr
  | .own _ :: e, some (.ref a) :: σ => a :: ownA e σ
  | .no :: e, _ :: σ => ownA e σ
  | .val _ :: e, _ :: σ => ownA e σ
  | .exc _ _ :: e, _ :: σ => ownA e σ
  | _, _ => []
theorem EnvR.addr {Γ : Ge} {F H : Hp} {ι : List Addr} {cs : List Cau} : ∀ {e : En} {σ : St} {as : List Addr}, EnvR Γ F ι H cs e σ as → as = ownA e σ
  | _, _, _, .nil => rfl
  | _, _, _, .no t => t.addr
  | _, _, _, .val _ t => t.addr
  | _, _, _, .own _ t => congrArg (_ :: ·) t.addr
  | _, _, _, .exc _ _ t => t.addr
theorem EnvR.uniq {Γ : Ge} {F H F2 H2 : Hp} {ι ι2 : List Addr} {cs cs2 : List Cau} {e : En} {σ : St} {as as2 : List Addr} (x : EnvR Γ F ι H cs e σ as) (y : EnvR Γ F2 ι2 H2 cs2 e σ as2) : as = as2 := x.addr.trans y.addr.symm
structure Sim (Γ : Ge) (cs : List Cau) (p : En0) (F : Hp) (ι : List Addr) (e : En) (m : Mu) (σ : St) (H : Hp) : Prop where
  sub : ∀ a o, F a = some o → H a = some o ∨ ∃ ob, H a = some (.frz ob o) ∧ lk o = true
  ext : Ext p.F p.ι F ι
  cel : Cells Γ F ι H ι m
  env : ∃ as, EnvR Γ F ι H cs e σ as ∧ (ι ++ as).Nodup ∧ (∀ a ∈ ι ++ as, F a = none) ∧ ∀ a ∈ as, p.H a = none
  keep : ∀ a o, p.H a = some o → a ∉ p.ι → H a = some o ∨ ∃ ob, H a = some (.frz ob o) ∧ lk o = true ∧ F a = some o
  newF : ∀ a o, F a = some o → p.F a = some o ∨ p.H a = none
  newC : ∀ a ∈ ι, a ∈ p.ι ∨ p.H a = none
  slf : ∀ a, p.me = some a → ∀ d, e[0]? = some (.own d) → σ[0]? = some (some (.ref a))
section
variable {Γ : Ge} {cs : List Cau} {p : En0} {F : Hp} {ι : List Addr} {e : En} {m : Mu} {σ : St} {H : Hp}
theorem Sim.freeF (S : Sim Γ cs p F ι e m σ H) {a : Addr} (h : H a = none) : F a = none := by
  cases q : F a with
  | none => rfl
  | some o =>
    rcases S.sub a o q with z | ⟨ob, z, _⟩ <;> (rw [h] at z; cases z)
theorem Sim.cellThere (S : Sim Γ cs p F ι e m σ H) {a : Addr} (h : a ∈ ι) : ∃ o, H a = some o := by
  obtain ⟨k, hk, e1⟩ := List.getElem_of_mem h
  obtain ⟨d, _, r⟩ := S.cel.getA (k := k) (a := a) (by rw [List.getElem?_eq_getElem hk, e1])
  exact r.some
theorem Sim.freeP (S : Sim Γ cs p F ι e m σ H) {a : Addr} (h : H a = none) : p.H a = none := by
  cases q : p.H a with
  | none => rfl
  | some o =>
    by_cases hm : a ∈ p.ι
    · obtain ⟨ν, z⟩ := S.ext.ce
      obtain ⟨o2, z2⟩ := S.cellThere (a := a) (by rw [z]; exact List.mem_append_left _ hm)
      rw [h] at z2; cases z2
    · rcases S.keep a o q hm with z | ⟨ob, z, _⟩ <;> (rw [h] at z; cases z)
theorem Sim.freeC (S : Sim Γ cs p F ι e m σ H) {a : Addr} (h : H a = none) : a ∉ ι := fun hm => by
  obtain ⟨o, z⟩ := S.cellThere hm
  rw [h] at z; cases z
/-- the slots change for others that hold no more -/
theorem Sim.setEnv {e' : En} {σ' : St} (S : Sim Γ cs p F ι e m σ H) (k : ∀ a, (∀ d, e[0]? = some (.own d) → σ[0]? = some (some (.ref a))) → ∀ d, e'[0]? = some (.own d) → σ'[0]? = some (some (.ref a))) (h : ∀ as, EnvR Γ F ι H cs e σ as → ∃ as', EnvR Γ F ι H cs e' σ' as' ∧ as'.Sublist as) : Sim Γ cs p F ι e' m σ' H := by
  obtain ⟨as, r, nd, fr, ow⟩ := S.env
  obtain ⟨as', r', sl⟩ := h as r
  have sl2 : (ι ++ as').Sublist (ι ++ as) := (List.Sublist.refl ι).append sl
  exact ⟨S.sub, S.ext, S.cel, ⟨as', r', nd.sublist sl2, fun a ha => fr a (sl2.mem ha), fun a ha => ow a (sl.mem ha)⟩, S.keep, S.newF, S.newC, fun a ha => k a (S.slf a ha)⟩
theorem keepS {x : EV} (hx : ∀ d, x ≠ .own d) (i : Nat) (v : Option V) : ∀ a, (∀ d, e[0]? = some (.own d) → σ[0]? = some (some (.ref a))) → ∀ d, (e.set i x)[0]? = some (.own d) → (σ.set i v)[0]? = some (some (.ref a)) := by
  intro a h d hd
  cases i with
  | zero =>
    cases e with
    | nil => simp at hd
    | cons y e => exact absurd (by simpa using hd) (hx d)
  | succ i =>
    rw [List.getElem?_set_ne (by omega)] at hd ⊢
    exact h d hd
theorem Sim.setVal {i : Nat} {v : V} {d : D} (S : Sim Γ cs p F ι e m σ H) (r : Rep Γ F ι v d) : Sim Γ cs p F ι (e.set i (.val d)) m (σ.set i (some v)) H :=
  S.setEnv (keepS (x := .val d) (fun d z => by cases z) i _) fun as q => q.setVal r i
theorem Sim.setNo {i : Nat} {v : Option V} (S : Sim Γ cs p F ι e m σ H) : Sim Γ cs p F ι (e.set i .no) m (σ.set i v) H :=
  S.setEnv (keepS (x := .no) (fun d z => by cases z) i _) fun as q => q.setNo i
/-- a new object is laid -/
theorem Sim.laid {a : Addr} {o : HO} (S : Sim Γ cs p F ι e m σ H) (h : H a = none) : Sim Γ cs p F ι e m σ (upd H a o) := by
  have ne : ∀ {b : Addr} {u : HO}, H b = some u → b ≠ a := fun q => ne_of_none q h
  obtain ⟨as, r, nd, fr, ow⟩ := S.env
  refine ⟨fun b u q => ?_, S.ext, S.cel.mono (Ext.refl F ι) fun b hb u q => by rw [upd_ne (ne q)]; exact q, ⟨as, r.mono (Ext.refl F ι) fun b hb u q => by rw [upd_ne (ne q)]; exact q, nd, fr, ow⟩, fun b u q nm => ?_, S.newF, S.newC, S.slf⟩
  · rcases S.sub b u q with z | ⟨ob, z, l⟩
    · exact .inl (by rw [upd_ne (ne z)]; exact z)
    · exact .inr ⟨ob, by rw [upd_ne (ne z)]; exact z, l⟩
  · rcases S.keep b u q nm with z | ⟨ob, z, l⟩
    · exact .inl (by rw [upd_ne (ne z)]; exact z)
    · exact .inr ⟨ob, by rw [upd_ne (ne z)]; exact z, l⟩
/-- what nobody holds is frozen -/
theorem Sim.froz {a : Addr} {o : HO} (S : Sim Γ cs p F ι e m σ H) (h : H a = some o) (hp : p.H a = none) (hF : F a = none) (hc : a ∉ ι) (he : ∀ as, EnvR Γ F ι H cs e σ as → ∃ as', EnvR Γ F ι H cs e σ as' ∧ as'.Sublist as ∧ a ∉ as') : Sim Γ cs p (upd F a o) ι e m σ H ∧ Ext F ι (upd F a o) ι := by
  have x : Ext F ι (upd F a o) ι := ⟨fun b u q => by rw [upd_ne (ne_of_none q hF)]; exact q, [], by simp⟩
  obtain ⟨as, r, nd, fr, ow⟩ := S.env
  obtain ⟨as', r', sl, ha⟩ := he as r
  have sl2 : (ι ++ as').Sublist (ι ++ as) := (List.Sublist.refl ι).append sl
  refine ⟨⟨fun b u q => ?_, S.ext.trans x, S.cel.mono x fun _ _ _ z => z, ⟨as', r'.mono x fun _ _ _ z => z, nd.sublist sl2, fun b hb => ?_, fun b hb => ow b (sl.mem hb)⟩, fun b u q nm => ?_, fun b u q => ?_, S.newC, S.slf⟩, x⟩
  · by_cases hb : b = a
    · subst hb
      rw [upd_same] at q; cases q
      exact .inl h
    · rw [upd_ne hb] at q
      exact S.sub b u q
  · rw [upd_ne]
    · exact fr b (sl2.mem hb)
    · rintro rfl
      rcases List.mem_append.mp hb with z | z
      · exact hc z
      · exact ha z
  · rcases S.keep b u q nm with z | ⟨ob, z, l, f⟩
    · exact .inl z
    · exact .inr ⟨ob, z, l, x.fr _ _ f⟩
  · by_cases hb : b = a
    · subst hb
      exact .inr hp
    · rw [upd_ne hb] at q
      exact S.newF b u q
/-- a new object is laid and frozen -/
theorem Sim.alloc {a : Addr} {o : HO} (S : Sim Γ cs p F ι e m σ H) (h : H a = none) : Sim Γ cs p (upd F a o) ι e m σ (upd H a o) ∧ Ext F ι (upd F a o) ι := by
  have S1 := S.laid (o := o) h
  have na : ∀ as, EnvR Γ F ι H cs e σ as → a ∉ as := fun as r hm => by
    obtain ⟨u, z⟩ := r.there a hm
    rw [h] at z; cases z
  obtain ⟨as, r, nd, fr, ow⟩ := S.env
  exact S1.froz upd_same (S.freeP h) (S.freeF h) (S.freeC h) fun as' r' => by
    by_cases hm : a ∈ as'
    · exact ⟨as, r.mono (Ext.refl F ι) fun b hb u q => by rw [upd_ne (ne_of_none q h)]; exact q, by
        rw [EnvR.uniq r r']
        exact List.Sublist.refl _, na as r⟩
    · exact ⟨as', r', List.Sublist.refl _, hm⟩
/-- a new object is laid and given to a slot -/
theorem Sim.giveOwn {a : Addr} {o : HO} {d : D} {i : Nat} (S : Sim Γ cs p F ι e m σ H) (h : H a = none) (r : ORep Γ F ι (upd H a o) a d) (hi : i < e.length) (h0 : 0 < i) : Sim Γ cs p F ι (e.set i (.own d)) m (σ.set i (some (.ref a))) (upd H a o) := by
  have S1 := S.laid (o := o) h
  obtain ⟨as, q, nd, fr, ow⟩ := S1.env
  obtain ⟨as0, q0, _, _, _⟩ := S.env
  have ea : as0 = as := q0.uniq q
  have na : a ∉ as := fun hm => by
    obtain ⟨u, z⟩ := q0.there a (ea ▸ hm)
    rw [h] at z; cases z
  -- the slots with the object; each address stands there once
  have key : ∀ {e : En} {σ : St} {as : List Addr} (i : Nat), EnvR Γ F ι (upd H a o) cs e σ as → i < e.length → as.Nodup → a ∉ as → ∃ as', EnvR Γ F ι (upd H a o) cs (e.set i (.own d)) (σ.set i (some (.ref a))) as' ∧ as'.Nodup ∧ ∀ b ∈ as', b = a ∨ b ∈ as := by
    intro e σ as i x
    induction x generalizing i with
    | nil => intro hi; simp at hi
    | no t ih =>
      intro hi nd hn
      cases i with
      | zero => exact ⟨_, .own r t, List.nodup_cons.mpr ⟨hn, nd⟩, fun b hb => List.mem_cons.mp hb⟩
      | succ i => obtain ⟨b, h1, h2, h3⟩ := ih i (by simpa using hi) nd hn; exact ⟨b, .no h1, h2, h3⟩
    | val rr t ih =>
      intro hi nd hn
      cases i with
      | zero => exact ⟨_, .own r t, List.nodup_cons.mpr ⟨hn, nd⟩, fun b hb => List.mem_cons.mp hb⟩
      | succ i => obtain ⟨b, h1, h2, h3⟩ := ih i (by simpa using hi) nd hn; exact ⟨b, .val rr h1, h2, h3⟩
    | exc mm rr t ih =>
      intro hi nd hn
      cases i with
      | zero => exact ⟨_, .own r t, List.nodup_cons.mpr ⟨hn, nd⟩, fun b hb => List.mem_cons.mp hb⟩
      | succ i => obtain ⟨b, h1, h2, h3⟩ := ih i (by simpa using hi) nd hn; exact ⟨b, .exc mm rr h1, h2, h3⟩
    | own rr t ih =>
      intro hi nd hn
      have nd' := List.nodup_cons.mp nd
      have hn' := hn
      simp only [List.mem_cons, not_or] at hn'
      cases i with
      | zero => exact ⟨_, .own r t, List.nodup_cons.mpr ⟨hn'.2, nd'.2⟩, fun b hb => (List.mem_cons.mp hb).imp id (List.mem_cons_of_mem _)⟩
      | succ i =>
        obtain ⟨b, h1, h2, h3⟩ := ih i (by simpa using hi) nd'.2 hn'.2
        refine ⟨_, .own rr h1, List.nodup_cons.mpr ⟨fun hb => ?_, h2⟩, fun c hc => ?_⟩
        · rcases h3 _ hb with z | z
          · exact hn'.1 z.symm
          · exact nd'.1 z
        · rcases List.mem_cons.mp hc with rfl | hc
          · exact .inr List.mem_cons_self
          · exact (h3 c hc).imp id (List.mem_cons_of_mem _)
  have ndA := (List.nodup_append.mp nd)
  obtain ⟨as', q', nd', mm⟩ := key i q hi ndA.2.1 na
  have hc : a ∉ ι := S.freeC h
  refine ⟨S1.sub, S1.ext, S1.cel, ⟨as', q', List.nodup_append.mpr ⟨ndA.1, nd', fun b hb c hc' z => ?_⟩, fun b hb => ?_, fun b hb => ?_⟩, S1.keep, S1.newF, S1.newC, fun b hb d2 hd => by
    rw [List.getElem?_set_ne (by omega)] at hd ⊢
    exact S.slf b hb d2 hd⟩
  · subst z
    rcases mm b hc' with z | z
    · exact hc (z ▸ hb)
    · exact ndA.2.2 b hb b z rfl
  · rcases List.mem_append.mp hb with z | z
    · exact fr b (List.mem_append_left _ z)
    · rcases mm b z with z | z
      · rw [z]; exact S.freeF h
      · exact fr b (List.mem_append_right _ z)
  · rcases mm b hb with z | z
    · rw [z]; exact S.freeP h
    · exact ow b z
/-- a new object is laid and is a new cell -/
theorem Sim.giveCell {a : Addr} {o : HO} {d : D} (S : Sim Γ cs p F ι e m σ H) (h : H a = none) (r : ORep Γ F (ι ++ [a]) (upd H a o) a d) : Sim Γ cs p F (ι ++ [a]) e (m ++ [d]) σ (upd H a o) ∧ Ext F ι F (ι ++ [a]) := by
  have x : Ext F ι F (ι ++ [a]) := ⟨fun _ _ z => z, [a], rfl⟩
  have S1 := S.laid (o := o) h
  obtain ⟨as, q, nd, fr, ow⟩ := S1.env
  obtain ⟨as0, q0, _, _, _⟩ := S.env
  have ea : as0 = as := q0.uniq q
  have na : a ∉ as := fun hm => by
    obtain ⟨u, z⟩ := q0.there a (ea ▸ hm)
    rw [h] at z; cases z
  have hc : a ∉ ι := S.freeC h
  have ndA := (List.nodup_append.mp nd)
  refine ⟨⟨S1.sub, S1.ext.trans x, (S1.cel.mono x fun _ _ _ z => z).snoc r, ⟨as, q.mono x fun _ _ _ z => z, ?_, fun b hb => ?_, ow⟩, S1.keep, S1.newF, fun b hb => ?_, S.slf⟩, x⟩
  · refine List.nodup_append.mpr ⟨List.nodup_append.mpr ⟨ndA.1, by simp, fun b hb c hc' z => ?_⟩, ndA.2.1, fun b hb c hc' z => ?_⟩
    · have z2 : c = a := by simpa using hc'
      exact hc (z2 ▸ z ▸ hb)
    · rcases List.mem_append.mp hb with hb | hb
      · exact ndA.2.2 b hb c hc' z
      · have z2 : b = a := by simpa using hb
        exact na (z2 ▸ z ▸ hc')
  · rcases List.mem_append.mp hb with hb | hb
    · rcases List.mem_append.mp hb with hb | hb
      · exact fr b (List.mem_append_left _ hb)
      · have z2 : b = a := by simpa using hb
        rw [z2]; exact S.freeF h
    · exact fr b (List.mem_append_right _ hb)
  · rcases List.mem_append.mp hb with hb | hb
    · exact S1.newC b hb
    · have z2 : b = a := by simpa using hb
      rw [z2]; exact .inr (S.freeP h)
/-- an object of a slot's own is frozen: the name is read -/
theorem Sim.thaw {i : Nat} {d : D} (S : Sim Γ cs p F ι e m σ H) (h : e[i]? = some (.own d)) : ∃ a F', σ[i]? = some (some (.ref a)) ∧ Sim Γ cs p F' ι (e.set i (.val d)) m σ H ∧ Ext F ι F' ι ∧ Rep Γ F' ι (.ref a) d := by
  obtain ⟨as, q, nd, fr, ow⟩ := S.env
  obtain ⟨a, hs, r, ha⟩ := q.atOwn h
  have hF : F a = none := fr a (List.mem_append_right _ ha)
  have hc : a ∉ ι := fun z => (List.nodup_append.mp nd).2.2 a z a ha rfl
  have hp : p.H a = none := ow a ha
  -- the object in the frozen part
  obtain ⟨o, ho⟩ := r.some
  have x : Ext F ι (upd F a o) ι := ⟨fun b u z => by rw [upd_ne (ne_of_none z hF)]; exact z, [], by simp⟩
  have rr : Rep Γ (upd F a o) ι (.ref a) d := by
    cases r with
    | lst h1 r => rw [ho] at h1; cases h1; exact .lst upd_same (r.mono x)
    | dic h1 r => rw [ho] at h1; cases h1; exact .dic upd_same (r.mono x)
    | ins h1 r => rw [ho] at h1; cases h1; exact .ins upd_same (r.mono x)
  have ndA := (List.nodup_append.mp nd)
  have key : ∀ {e : En} {σ : St} {as : List Addr} (i : Nat), EnvR Γ F ι H cs e σ as → e[i]? = some (.own d) → σ[i]? = some (some (.ref a)) → as.Nodup → ∃ as', EnvR Γ (upd F a o) ι H cs (e.set i (.val d)) σ as' ∧ as'.Sublist as ∧ a ∉ as' := by
    intro e σ as i y
    induction y generalizing i with
    | nil => intro h; simp at h
    | no t ih =>
      intro h hs nd
      cases i with
      | zero => simp at h
      | succ i => obtain ⟨b, h1, h2, h3⟩ := ih i (by simpa using h) (by simpa using hs) nd; exact ⟨b, .no h1, h2, h3⟩
    | val rr t ih =>
      intro h hs nd
      cases i with
      | zero => simp at h
      | succ i => obtain ⟨b, h1, h2, h3⟩ := ih i (by simpa using h) (by simpa using hs) nd; exact ⟨b, .val (rr.mono x) h1, h2, h3⟩
    | exc mm rr t ih =>
      intro h hs nd
      cases i with
      | zero => simp at h
      | succ i => obtain ⟨b, h1, h2, h3⟩ := ih i (by simpa using h) (by simpa using hs) nd; exact ⟨b, .exc mm (rr.mono x) h1, h2, h3⟩
    | own rq t ih =>
      intro h hs nd
      have nd' := List.nodup_cons.mp nd
      cases i with
      | zero =>
        simp at h hs
        subst hs
        exact ⟨_, .val rr (t.mono x fun _ _ _ z => z), List.sublist_cons_self _ _, nd'.1⟩
      | succ i =>
        obtain ⟨b, h1, h2, h3⟩ := ih i (by simpa using h) (by simpa using hs) nd'.2
        refine ⟨_, .own (rq.mono x fun _ z => z) h1, h2.cons₂ _, fun z => ?_⟩
        rcases List.mem_cons.mp z with z | z
        · obtain ⟨a2, e2, _, m2⟩ := t.atOwn (i := i) (d := d) (by simpa using h)
          have hs2 := hs
          simp only [List.getElem?_cons_succ] at hs2
          rw [hs2] at e2
          cases e2
          exact nd'.1 (z ▸ m2)
        · exact h3 z
  obtain ⟨as', q', sl, na'⟩ := key i q h hs ndA.2.1
  have sl2 : (ι ++ as').Sublist (ι ++ as) := (List.Sublist.refl ι).append sl
  refine ⟨a, upd F a o, hs, ⟨fun b u z => ?_, S.ext.trans x, S.cel.mono x fun _ _ _ z => z, ⟨as', q', nd.sublist sl2, fun b hb => ?_, fun b hb => ow b (sl.mem hb)⟩, fun b u z nm => ?_, fun b u z => ?_, S.newC, fun b hb d2 hd => S.slf b hb d2 (by
    cases i with
    | zero =>
      cases e with
      | nil => simp at hd
      | cons y e => simp at hd
    | succ i => rwa [List.getElem?_set_ne (by omega)] at hd)⟩, x, rr⟩
  · by_cases hb : b = a
    · subst hb
      rw [upd_same] at z; cases z
      exact .inl ho
    · rw [upd_ne hb] at z
      exact S.sub b u z
  · rw [upd_ne]
    · exact fr b (sl2.mem hb)
    · rintro rfl
      rcases List.mem_append.mp hb with z | z
      · exact hc z
      · exact na' z
  · rcases S.keep b u z nm with z | ⟨ob, z, l, f⟩
    · exact .inl z
    · exact .inr ⟨ob, z, l, x.fr _ _ f⟩
  · by_cases hb : b = a
    · subst hb
      exact .inr hp
    · rw [upd_ne hb] at z
      exact S.newF b u z
end
end G
end
section
set_option Elab.async false
set_option linter.all false
set_option maxRecDepth 100000
set_option maxHeartbeats 1000000
/-! G: readings by the evaluator; names, operators of built-in data. -/
namespace G
open PySem PySem.Spec PyProof.Rows L2
theorem _root_.L2.PE.weak {X : Cx} {e : Expr} {t t' : TE} (h : PE X e t) (hi : ∀ σ H Q, t' σ H Q → t σ H Q) : PE X e t' := ⟨fun pins s σ H Q I q => h.run pins s σ H Q I (hi σ H Q q)⟩
theorem _root_.L2.PT.weak {X : Cx} {e : Expr} {t t' : TT} (h : PT X e t) (hi : ∀ σ H Q, t' σ H Q → t σ H Q) : PT X e t' := ⟨fun pins s σ H Q I q => h.run pins s σ H Q I (hi σ H Q q)⟩
theorem _root_.L2.PA.weak {X : Cx} {e : List Expr} {t t' : TA} (h : PA X e t) (hi : ∀ σ H Q, t' σ H Q → t σ H Q) : PA X e t' := ⟨fun pos pins s σ H Q I q => h.run pos pins s σ H Q I (hi σ H Q q)⟩
theorem _root_.L2.PS.weak {X : Cx} {e : Stmt} {t t' : TS} (h : PS X e t) (hi : ∀ D σ H, t' D σ H → t D σ H) : PS X e t' := ⟨fun pins s σ H D I q => h.run pins s σ H D I (hi D σ H q)⟩
theorem _root_.L2.PSs.weak {X : Cx} {e : List Stmt} {t t' : TS} (h : PSs X e t) (hi : ∀ D σ H, t' D σ H → t D σ H) : PSs X e t' := ⟨fun pins s σ H D I q => h.run pins s σ H D I (hi D σ H q)⟩

section
variable (Γ : Ge) (cs : List Cau) (p : En0) (F : Hp) (ι : List Addr) (σ : St) (W : WX)
/-- what is asked of an answer -/
def K1 {α : Type} (r : R α) (k : α → Hp → List Addr → En → Mu → Hp → Prop) : Prop := match r with
  | .ok a e' m' => ∀ F' ι' H', Sim Γ cs p F' ι' e' m' σ H' → Ext F ι F' ι' → k a F' ι' e' m' H'
  | .ex c fs e' m' => ∀ dd F' ι' H', Sim Γ cs p F' ι' e' m' σ H' → Ext F ι F' ι' → RepX Γ F' ι' fs dd → W (.ref (Γ.xad c)) dd σ H'
  | .no => False
end
section
variable {Γ : Ge} {cs : List Cau} {p : En0} {F F1 : Hp} {ι ι1 : List Addr} {σ : St} {W : WX} {α β : Type}
theorem K1.imp {r : R α} {k k' : α → Hp → List Addr → En → Mu → Hp → Prop} (h : K1 Γ cs p F ι σ W r k)
    (f : ∀ a F' ι' e' m' H', Sim Γ cs p F' ι' e' m' σ H' → Ext F ι F' ι' → k a F' ι' e' m' H' → k' a F' ι' e' m' H') : K1 Γ cs p F ι σ W r k' := by
  cases r with
  | ok a e m => exact fun F' ι' H' S x => f _ _ _ _ _ _ S x (h F' ι' H' S x)
  | ex c fs e m => exact h
  | no => exact h
theorem K1.from {r : R α} {k : α → Hp → List Addr → En → Mu → Hp → Prop} (h : K1 Γ cs p F ι σ W r k) (x : Ext F ι F1 ι1) : K1 Γ cs p F1 ι1 σ W r k := by
  cases r with
  | ok a e m => exact fun F' ι' H' S y => h F' ι' H' S (x.trans y)
  | ex c fs e m => exact fun dd F' ι' H' S y => h dd F' ι' H' S (x.trans y)
  | no => exact h
theorem K1.bind {r : R α} {f : α → En → Mu → R β} {k : β → Hp → List Addr → En → Mu → Hp → Prop} (h : K1 Γ cs p F ι σ W (r.bind f) k) :
    K1 Γ cs p F ι σ W r (fun a F' ι' e' m' H' => K1 Γ cs p F' ι' σ W (f a e' m') k) := by
  cases r with
  | ok a e m => exact fun F' ι' H' S x => K1.from h x
  | ex c fs e m => exact h
  | no => exact h
theorem K1.ok {a : α} {e : En} {m : Mu} {H : Hp} {k : α → Hp → List Addr → En → Mu → Hp → Prop} (h : K1 Γ cs p F ι σ W (.ok a e m) k) (S : Sim Γ cs p F ι e m σ H) : k a F ι e m H := h F ι H S (Ext.refl F ι)
theorem K1.optS {o : Option α} {e : En} {m : Mu} {k : α → Hp → List Addr → En → Mu → Hp → Prop} (h : K1 Γ cs p F ι σ W (.opt o e m) k) : ∃ a, o = some a ∧ K1 Γ cs p F ι σ W (.ok a e m) k := by
  cases o with
  | none => exact h.elim
  | some a => exact ⟨a, rfl, h⟩
end

/-- how an operand is held: a name that is only looked at, by its slot -/
def OpRl (Γ : Ge) (F : Hp) (ι : List Addr) (σ : St) (c : C) (v : V) (d : D) : Prop := match c with
  | .pk i => σ[i]? = some (some v)
  | _ => Rep Γ F ι v d
theorem OpRl.of {Γ : Ge} {F : Hp} {ι : List Addr} {σ : St} {c : C} {v : V} {d : D} (h : Rep Γ F ι v d) (hc : ∀ i, c ≠ .pk i) : OpRl Γ F ι σ c v d := by
  cases c with
  | pk i => exact absurd rfl (hc i)
  | _ => exact h
theorem OpRl.rep {Γ : Ge} {F : Hp} {ι : List Addr} {σ : St} {c : C} {v : V} {d : D} (h : OpRl Γ F ι σ c v d) (hc : ∀ i, c ≠ .pk i) : Rep Γ F ι v d := by
  cases c with
  | pk i => exact absurd rfl (hc i)
  | _ => exact h
theorem OpRl.mono {Γ : Ge} {F F' : Hp} {ι ι' : List Addr} {σ : St} {c : C} {v : V} {d : D} (h : OpRl Γ F ι σ c v d) (x : Ext F ι F' ι') : OpRl Γ F' ι' σ c v d := by
  cases c with
  | pk i => exact h
  | _ => exact Rep.mono x h
/-- the object behind a value, as it is to be read -/
inductive RdR (Γ : Ge) (F : Hp) (ι : List Addr) (H : Hp) : V → D → Prop where
  | rep {v : V} {d : D} : Rep Γ F ι v d → (∀ k, d ≠ .cel k) → RdR Γ F ι H v d
  | obj {a : Addr} {d : D} : ORep Γ F ι H a d → RdR Γ F ι H (.ref a) d
section
variable {Γ : Ge} {cs : List Cau} {p : En0} {F : Hp} {ι : List Addr} {e : En} {m : Mu} {σ : St} {H : Hp} {v : V} {d d' : D} {c : C}
theorem Sim.deref (S : Sim Γ cs p F ι e m σ H) (r : Rep Γ F ι v d) : RdR Γ F ι H v (deref m d) := by
  cases r with
  | @cel a k h =>
    obtain ⟨d', e1, r⟩ := S.cel.getA h
    have z : G.deref m (.cel k) = d' := by
      show (m[k]?).getD .non = d'
      rw [e1]
      rfl
    rw [z]
    exact .obj r
  | non => exact .rep .non fun k z => by cases z
  | bl b => exact .rep (.bl b) fun k z => by cases z
  | int b => exact .rep (.int b) fun k z => by cases z
  | str b => exact .rep (.str b) fun k z => by cases z
  | tup h r => exact .rep (.tup h r) fun k z => by cases z
  | lst h r => exact .rep (.lst h r) fun k z => by cases z
  | scr h r => exact .rep (.scr h r) fun k z => by cases z
  | dic h r => exact .rep (.dic h r) fun k z => by cases z
  | ins h r => exact .rep (.ins h r) fun k z => by cases z
theorem Sim.obj (S : Sim Γ cs p F ι e m σ H) (r : OpRl Γ F ι σ c v d) (h : objOf c d e m = some d') : RdR Γ F ι H v d' := by
  cases c with
  | pk i =>
    obtain ⟨as, q, _⟩ := S.env
    have r' : σ[i]? = some (some v) := r
    unfold objOf at h
    dsimp only at h
    split at h
    · rename_i d0 e0
      cases h
      obtain ⟨v0, e1, r1⟩ := q.atVal e0
      rw [r'] at e1
      cases e1
      exact S.deref r1
    · rename_i d0 e0
      cases h
      obtain ⟨a, e1, r1, _⟩ := q.atOwn e0
      rw [r'] at e1
      cases e1
      exact .obj r1
    · cases h
  | _ =>
    cases h
    exact S.deref r
theorem RdR.int (h : RdR Γ F ι H v (.int i)) : v = .int i := by
  cases h with
  | rep r _ => cases r; rfl
  | obj r => cases r
theorem RdR.bl {b : Bool} (h : RdR Γ F ι H v (.bl b)) : v = .bl b := by
  cases h with
  | rep r _ => cases r; rfl
  | obj r => cases r
theorem RdR.str {b : Str} (h : RdR Γ F ι H v (.str b)) : v = .str b := by
  cases h with
  | rep r _ => cases r; rfl
  | obj r => cases r
theorem RdR.non (h : RdR Γ F ι H v .non) : v = .non := by
  cases h with
  | rep r _ => cases r; rfl
  | obj r => cases r
theorem rd_of {a : Addr} {o : HO} (S : Sim Γ cs p F ι e m σ H) (h : F a = some o) : Rd H a o := by
  rcases S.sub a o h with z | ⟨ob, z, _⟩
  · exact .inl z
  · exact .inr ⟨ob, z⟩
theorem exact_of {a : Addr} {o : HO} (S : Sim Γ cs p F ι e m σ H) (h : F a = some o) (hl : lk o = false) : H a = some o := by
  rcases S.sub a o h with z | ⟨ob, _, z⟩
  · exact z
  · rw [hl] at z; cases z
theorem RdR.lst {ds : List D} (S : Sim Γ cs p F ι e m σ H) (h : RdR Γ F ι H v (.lst ds)) : ∃ a vs, v = .ref a ∧ H a = some (.lst vs) ∧ Reps Γ F ι vs ds := by
  cases h with
  | rep r _ => cases r with | lst h r => exact ⟨_, _, rfl, exact_of S h rfl, r⟩
  | obj r => cases r with | lst h r => exact ⟨_, _, rfl, h, r⟩
theorem RdR.scr {ds : List D} (S : Sim Γ cs p F ι e m σ H) (h : RdR Γ F ι H v (.scr ds)) : ∃ a ob vs, v = .ref a ∧ H a = some (.frz ob (.lst vs)) ∧ Reps Γ F ι vs ds := by
  cases h with
  | rep r _ => cases r with | scr h r => exact ⟨_, _, _, rfl, exact_of S h rfl, r⟩
  | obj r => cases r
theorem sqT_of {a : Addr} {vs : List V} (S : Sim Γ cs p F ι e m σ H) (h : F a = some (.tup vs) ∨ SqT Γ.K nowhere a vs) : SqT Γ.K H a vs := by
  rcases h with h | h | h
  · exact .inl (rd_of S h)
  · rcases h with h | ⟨_, h⟩ <;> cases h
  · exact .inr h
theorem RdR.tup {ds : List D} (S : Sim Γ cs p F ι e m σ H) (h : RdR Γ F ι H v (.tup ds)) : ∃ a vs, v = .ref a ∧ SqT Γ.K H a vs ∧ Reps Γ F ι vs ds := by
  cases h with
  | rep r _ => cases r with | tup h r => exact ⟨_, _, rfl, sqT_of S h, r⟩
  | obj r => cases r
theorem RdR.dic {kvs : List (Key × D)} (S : Sim Γ cs p F ι e m σ H) (h : RdR Γ F ι H v (.dic kvs)) : ∃ a xs, v = .ref a ∧ Rd H a (.dK xs) ∧ RepK Γ F ι xs kvs := by
  cases h with
  | rep r _ => cases r with | dic h r => exact ⟨_, _, rfl, rd_of S h, r⟩
  | obj r => cases r with | dic h r => exact ⟨_, _, rfl, .inl h, r⟩
theorem RdR.ins {c : Nat} {fs : List (Str × D)} (S : Sim Γ cs p F ι e m σ H) (h : RdR Γ F ι H v (.ins c fs)) : ∃ a dx xs, v = .ref a ∧ H a = some (.ins (Γ.cad c) dx xs) ∧ RepF Γ F ι xs fs := by
  cases h with
  | rep r _ => cases r with
    | ins h r =>
      rcases S.sub _ _ h with z | ⟨_, _, z⟩
      · exact ⟨_, _, _, rfl, z, r⟩
      · cases z
  | obj r => cases r with | ins h r => exact ⟨_, _, _, rfl, h, r⟩
theorem RdR.nocel {k : Nat} (h : RdR Γ F ι H v (.cel k)) : False := by
  cases h with
  | rep r n => exact n k rfl
  | obj r => cases r
end

/-! ### readings -/
section
variable (Γ : Ge) (cs : List Cau) (W : WX)
def tE (f : En → Mu → R D) : TE := fun σ H Q => ∃ p F ι e m, Sim Γ cs p F ι e m σ H ∧ K1 Γ cs p F ι σ W (f e m) fun d F' ι' _ _ H' => ∀ v, Rep Γ F' ι' v d → Q v H'
def tO (c : C) (f : En → Mu → R D) : TE := fun σ H Q => ∃ p F ι e m, Sim Γ cs p F ι e m σ H ∧ K1 Γ cs p F ι σ W (f e m) fun d F' ι' _ _ H' => ∀ v, OpRl Γ F' ι' σ c v d → Q v H'
def tT (f : En → Mu → R Bool) : TT := fun σ H Q => ∃ p F ι e m, Sim Γ cs p F ι e m σ H ∧ K1 Γ cs p F ι σ W (f e m) fun b _ _ _ _ H' => Q b H'
def tA (f : En → Mu → R (List D)) : TA := fun σ H Q => ∃ p F ι e m, Sim Γ cs p F ι e m σ H ∧ K1 Γ cs p F ι σ W (f e m) fun ds F' ι' _ _ H' => ∀ vs, Reps Γ F' ι' vs ds → Q vs H'
end
/-- where one stands -/
structure Here (Γ : Ge) (N : List Str) (sc : Scope) (cs : List Cau) (W : WX) (hot : Bool) (k : Nat) (X : Cx) : Prop where
  prog : X.prog = Γ.prog
  w : X.w = Γ.w
  K : X.K = Γ.K
  mg : X.mg = Γ.mg
  base : X.base = Γ.base
  nm : X.N = N
  nd : List.Nodup N
  sc : X.env.scope = sc
  calm : hot = false → X.calm = true
  room : hot = false → Room k X.A
  gds : X.A.guards = some []
  cold : hot = true → k ≤ 2
  nocs : hot = false → cs = []
  caus : ∀ x ∈ cs, ∃ oe, (x.a, oe) ∈ X.pn ∧ (oe.cls = .ref (Γ.xad x.c) ∧ oe.dict = x.dd) ∧ (∃ vs, oe.data = .fields vs) ∧ ∃ y, Γ.pg.exc[x.c]? = some y
  unit : X.A.units + 16 * k + 100 < cLine
  tk : Takes X W

theorem Here.cool {Γ : Ge} {N : List Str} {sc : Scope} {cs : List Cau} {W : WX} {hot : Bool} {k : Nat} {X : Cx} (C : Here Γ N sc cs W hot k X) (h : 3 ≤ k) : hot = false := by
  cases hot with
  | false => rfl
  | true => have := C.cold rfl; omega
section
variable {Γ : Ge} {N : List Str} {sc : Scope} {cs : List Cau} {W : WX} {hot : Bool} {k : Nat} {X : Cx} {P : Par}
/-! ### names, constants -/
def visB (sc : Scope) (x : Str) : Bool := match sc.names.lookup x with
  | some .local => true
  | some .cell => true
  | some .free => true
  | _ => false
theorem vis_of {sc : Scope} {x : Str} (h : visB sc x = true) : Vis sc x := by
  unfold visB at h
  split at h <;> first | exact .inl (by assumption) | exact .inr (.inl (by assumption)) | exact .inr (.inr (by assumption)) | cases h
def nameB (N : List Str) (sc : Scope) (i : Nat) (x : Str) : Bool := decide (N[i]? = some x) && visB sc x && decide (x ≠ "__debug__") && decide (x ≠ "__classdict__")
theorem pe_slot (C : Here Γ N sc cs W hot k X) {i : Nat} {x : Str} {pos : Pos} (h : nameB N sc i x = true) : PE X (.Name x pos) (L2.tVar i) := by
  unfold nameB at h
  simp only [Bool.and_eq_true, decide_eq_true_eq] at h
  obtain ⟨⟨⟨h1, h2⟩, h3⟩, h4⟩ := h
  exact pe_var (by rw [C.nm]; exact h1) (by rw [C.sc]; exact vis_of h2) (by simpa using h3) (by simpa using h4)
theorem g_loc (C : Here Γ N sc cs W hot k X) {i : Nat} {x : Str} {pos : Pos} (h : nameB N sc i x = true) : PE X (.Name x pos) (tE Γ cs W (evE P (.loc i))) := by
  refine (pe_slot C h).weak fun σ H Q ⟨p, F, ι, e, m, S, q⟩ => ?_
  change K1 Γ cs p F ι σ W (rdLoc i e m) _ at q
  unfold rdLoc at q
  split at q
  · rename_i d h1
    obtain ⟨as, r, _⟩ := S.env
    obtain ⟨v, e1, r1⟩ := r.atVal h1
    exact ⟨v, e1, q.ok S v r1⟩
  · rename_i d h1
    obtain ⟨a, F', e1, S', x', r'⟩ := S.thaw h1
    exact ⟨_, e1, q F' ι H S' x' _ r'⟩
  · exact q.elim
theorem o_pk (C : Here Γ N sc cs W hot k X) {i : Nat} {x : Str} {pos : Pos} (h : nameB N sc i x = true) : PE X (.Name x pos) (tO Γ cs W (.pk i) (evE P (.pk i))) := by
  refine (pe_slot C h).weak fun σ H Q ⟨p, F, ι, e, m, S, q⟩ => ?_
  change K1 Γ cs p F ι σ W (rdPk i e m) _ at q
  unfold rdPk at q
  obtain ⟨as, r, _⟩ := S.env
  split at q
  · rename_i d h1
    obtain ⟨v, e1, r1⟩ := r.atVal h1
    exact ⟨v, e1, q.ok S v e1⟩
  · rename_i d h1
    obtain ⟨a, e1, r1, _⟩ := r.atOwn h1
    exact ⟨_, e1, q.ok S _ e1⟩
  · exact q.elim
/-- an operand that is no such name -/
theorem o_of {c : C} {ex : Expr} {f : En → Mu → R D} (hc : ∀ i, c ≠ .pk i) (h : PE X ex (tE Γ cs W f)) : PE X ex (tO Γ cs W c f) :=
  h.weak fun σ H Q ⟨p, F, ι, e, m, S, q⟩ => ⟨p, F, ι, e, m, S, q.imp fun _ _ _ _ _ _ _ _ z v r => z v (OpRl.of r hc)⟩
theorem g_cst {d : D} {v : V} {ex : Expr} (h : PE X ex (tC v)) (r : ∀ F ι, Rep Γ F ι v d) : PE X ex (tE Γ cs W (evE P (.cst d))) := by
  refine h.weak fun σ H Q ⟨p, F, ι, e, m, S, q⟩ => ?_
  change K1 Γ cs p F ι σ W (.ok d e m) _ at q
  exact q.ok S v (r F ι)
/-- a scalar constant of the text -/
def cstB : D → Const → Bool
  | .non, .none => true
  | .bl b, .bool c => b == c
  | .int i, .int j => i == j
  | .str x, .str y => decide (x = y)
  | _, _ => false
theorem g_const {d : D} {co : Const} {j : Nat} {pos : Pos} (h : cstB d co = true) : PE X (.Constant co j pos) (tE Γ cs W (evE P (.cst d))) := by
  unfold cstB at h
  split at h
  · exact g_cst pe_non fun _ _ => .non
  · cases (beq_iff_eq.mp h); exact g_cst pe_bl fun _ _ => .bl _
  · cases (beq_iff_eq.mp h); exact g_cst pe_int fun _ _ => .int _
  · cases (of_decide_eq_true h); exact g_cst pe_str fun _ _ => .str _
  · cases h
end
end G
end
section
set_option Elab.async false
set_option linter.all false
set_option maxRecDepth 100000
set_option maxHeartbeats 1000000
/-! G: operators of built-in data. -/
namespace G
open PySem PySem.Spec PyProof.Rows L2
theorem sizeL_eq : (sizeL : Nat) = sizeLine := by rw [sizeLine_eq]; rfl
/-- the script and a list, one behind the other -/
theorem op_scr {X : Cx} : OpR X (binaryOp .Add) fun x y H Q => ∃ l ob b vs ws, x = .ref l ∧ y = .ref b ∧ H l = some (.frz ob (.lst vs)) ∧ H b = some (.lst ws) ∧ vs.length + ws.length ≤ sizeLine ∧ ∀ a, H a = none → Q (.ref a) (upd H a (.lst (vs ++ ws))) := by
  rintro pins s σ H _ _ v u Q I rx ry ⟨l, ob, b, vs, ws, rfl, rfl, hL, hB, hz, q⟩
  cases rx
  cases ry
  obtain ⟨_, its, n, r, el⟩ := Rd.ok (.inr ⟨ob, hL⟩ : Rd H l (.lst vs)) I.hok
  obtain ⟨_, js, k, r', hl', eb⟩ := I.lstM hB
  have hn := r.length
  refine PySem.P.add_list el eb ?_ (by simp only [List.size_toArray]; omega)
  rw [show its.toArray ++ js.toArray = (its ++ js).toArray by simp]
  exact ⟨.ref _, _, I.lnew (t' := s.toks) (r.append r') (by simp only [List.length_append]; omega), rfl, q _ I.fresh⟩
/-- an operation's answer: a datum, laid anew where it must be -/
def Gives (Γ : Ge) (cs : List Cau) (p : En0) (F : Hp) (ι : List Addr) (e : En) (m : Mu) (σ : St) (H : Hp) (d : D) (Q : VK) : Prop :=
  ∀ v F' H', Sim Γ cs p F' ι e m σ H' → Ext F ι F' ι → Rep Γ F' ι v d → Q v H'
section
variable {Γ : Ge} {cs : List Cau} {p : En0} {F : Hp} {ι : List Addr} {e : En} {m : Mu} {σ : St} {H : Hp} {d : D} {Q : VK}
theorem Gives.now (k : Gives Γ cs p F ι e m σ H d Q) (S : Sim Γ cs p F ι e m σ H) {v : V} (r : Rep Γ F ι v d) : Q v H := k v F H S (Ext.refl F ι) r
theorem Gives.lst {ds : List D} {vs : List V} (k : Gives Γ cs p F ι e m σ H (.lst ds) Q) (S : Sim Γ cs p F ι e m σ H) (r : Reps Γ F ι vs ds) : ∀ a, H a = none → Q (.ref a) (upd H a (.lst vs)) := fun a h => by
  obtain ⟨S', x⟩ := S.alloc (o := .lst vs) h
  exact k _ _ _ S' x (.lst upd_same (r.mono x))
theorem Gives.tup {ds : List D} {vs : List V} (k : Gives Γ cs p F ι e m σ H (.tup ds) Q) (S : Sim Γ cs p F ι e m σ H) (r : Reps Γ F ι vs ds) : ∀ a, H a = none → Q (.ref a) (upd H a (.tup vs)) := fun a h => by
  obtain ⟨S', x⟩ := S.alloc (o := .tup vs) h
  exact k _ _ _ S' x (.tup (.inl upd_same) (r.mono x))
end
def rBin (Γ : Ge) (op : Operator) : R2 := fun x y H Q => ∃ cs p F ι e m σ d1 d2 d, Sim Γ cs p F ι e m σ H ∧ RdR Γ F ι H x d1 ∧ RdR Γ F ι H y d2 ∧ binD op d1 d2 = some d ∧ Gives Γ cs p F ι e m σ H d Q
theorem small_ok {i : Int} (h : small i = true) : -(2 ^ 64) < i ∧ i < 2 ^ 64 := by
  unfold small at h
  simpa only [Bool.and_eq_true, decide_eq_true_eq] using h
section
variable {Γ : Ge} {X : Cx}
theorem op_bin (hK : X.K = Γ.K) (op : Operator) : OpR X (binaryOp op) (rBin Γ op) := by
  intro pins s σ' H x y v u Q I rx ry h
  obtain ⟨cs, p, F, ι, e, m, σ, d1, d2, d, S, r1, r2, hd, k⟩ := h
  unfold binD at hd
  split at hd
  · have e1 := r1.int; have e2 := r2.int; subst e1 e2; cases hd
    exact op_add pins s σ' H _ _ v u Q I rx ry ⟨_, _, rfl, rfl, k.now S (.int _)⟩
  · have e1 := r1.int; have e2 := r2.int; subst e1 e2; cases hd
    exact op_sub pins s σ' H _ _ v u Q I rx ry ⟨_, _, rfl, rfl, k.now S (.int _)⟩
  · have e1 := r1.int; have e2 := r2.int; subst e1 e2
    split at hd
    · rename_i hs
      cases hd
      refine op_mul pins s σ' H _ _ v u Q I rx ry ⟨_, _, rfl, rfl, ?_, k.now S (.int _)⟩
      rcases Bool.or_eq_true_iff.mp hs with z | z
      · exact .inl (small_ok z)
      · exact .inr (small_ok z)
    · cases hd
  · have e1 := r1.int; have e2 := r2.int; subst e1 e2
    split at hd
    · rename_i hs
      cases hd
      simp only [Bool.and_eq_true, decide_eq_true_eq] at hs
      exact op_fdivW pins s σ' H _ _ v u Q I rx ry ⟨_, _, rfl, rfl, wide_div hs.1 (b := 200) (by have := hs.2; unfold wideI at this; omega) (by decide) (by decide), k.now S (.int _)⟩
    · split at hd
      · rename_i hs
        cases hd
        simp only [Bool.and_eq_true, decide_eq_true_eq] at hs
        exact op_fdivN pins s σ' H _ _ v u Q I rx ry ⟨_, _, rfl, rfl, ⟨by omega, by omega⟩, k.now S (.int _)⟩
      · cases hd
  · have e1 := r1.int; have e2 := r2.int; subst e1 e2
    split at hd
    · rename_i hs
      cases hd
      exact op_mod pins s σ' H _ _ v u Q I rx ry ⟨_, _, rfl, rfl, hs, k.now S (.int _)⟩
    · cases hd
  · have e1 := r1.int; have e2 := r2.int; subst e1 e2
    split at hd
    · rename_i hs
      cases hd
      simp only [Bool.and_eq_true, decide_eq_true_eq] at hs
      have hs2 := small_ok hs.2
      exact op_pow pins s σ' H _ _ v u Q I rx ry ⟨_, _, rfl, rfl, ⟨hs.1.1, by omega, by omega⟩, k.now S (.int _)⟩
    · cases hd
  · have e1 := r1.int; have e2 := r2.int; subst e1 e2
    split at hd
    · rename_i hs
      cases hd
      simp only [Bool.and_eq_true, decide_eq_true_eq] at hs
      have hs2 := small_ok hs.2
      exact op_shl pins s σ' H _ _ v u Q I rx ry ⟨_, _, rfl, rfl, ⟨hs.1.1, by omega, by omega⟩, k.now S (.int _)⟩
    · cases hd
  · have e1 := r1.int; have e2 := r2.int; subst e1 e2
    split at hd
    · rename_i hs
      cases hd
      exact op_shr pins s σ' H _ _ v u Q I rx ry ⟨_, _, rfl, rfl, hs, k.now S (.int _)⟩
    · cases hd
  · have e1 := r1.int; have e2 := r2.int; subst e1 e2; cases hd
    exact op_and pins s σ' H _ _ v u Q I rx ry ⟨_, _, rfl, rfl, k.now S (.int _)⟩
  · have e1 := r1.int; have e2 := r2.int; subst e1 e2; cases hd
    exact op_or pins s σ' H _ _ v u Q I rx ry ⟨_, _, rfl, rfl, k.now S (.int _)⟩
  · have e1 := r1.int; have e2 := r2.int; subst e1 e2; cases hd
    exact op_xor pins s σ' H _ _ v u Q I rx ry ⟨_, _, rfl, rfl, k.now S (.int _)⟩
  · have e1 := r1.str; have e2 := r2.str; subst e1 e2
    split at hd
    · rename_i hs
      cases hd
      exact op_add_str pins s σ' H _ _ v u Q I rx ry ⟨_, _, rfl, rfl, by rw [← sizeL_eq]; exact hs, k.now S (.str _)⟩
    · cases hd
  · obtain ⟨a, ob, vs, rfl, h1, q1⟩ := r1.scr S
    obtain ⟨b, ws, rfl, h2, q2⟩ := r2.lst S
    split at hd
    · rename_i hs
      cases hd
      exact op_scr pins s σ' H _ _ v u Q I rx ry ⟨_, _, _, _, _, rfl, rfl, h1, h2, by rw [q1.length, q2.length, ← sizeL_eq]; exact hs, k.lst S (q1.append q2)⟩
    · cases hd
  · obtain ⟨a, vs, rfl, h1, q1⟩ := r1.lst S
    obtain ⟨b, ws, rfl, h2, q2⟩ := r2.lst S
    split at hd
    · rename_i hs
      cases hd
      exact op_cat pins s σ' H _ _ v u Q I rx ry ⟨_, _, _, _, rfl, rfl, h1, h2, by rw [q1.length, q2.length, ← sizeL_eq]; exact hs, k.lst S (q1.append q2)⟩
    · cases hd
  · obtain ⟨a, vs, rfl, h1, q1⟩ := r1.tup S
    obtain ⟨b, ws, rfl, h2, q2⟩ := r2.tup S
    split at hd
    · rename_i hs
      cases hd
      simp only [Bool.and_eq_true, decide_eq_true_eq] at hs
      have hne : vs ≠ [] := fun z => by
        subst z
        cases q1
        exact absurd hs.1 (by simp)
      refine op_catT pins s σ' H _ _ v u Q I rx ry ⟨_, _, _, _, rfl, rfl, by rw [hK]; exact h1, by rw [hK]; exact h2, hne, by rw [q1.length, q2.length, ← sizeL_eq]; exact hs.2, fun z => ?_, fun z => k.tup S (q1.append q2)⟩
      subst z
      cases q2
      rw [List.append_nil] at k
      cases r1 with
      | rep r1 _ => exact k.now S r1
      | obj r1 => cases r1
    · cases hd
  · obtain ⟨a, vs, rfl, h1, q1⟩ := r1.lst S
    have e2 := r2.int
    subst e2
    split at hd
    · rename_i hs
      cases hd
      simp only [Bool.and_eq_true, decide_eq_true_eq] at hs
      exact op_rep pins s σ' H _ _ v u Q I rx ry ⟨_, _, _, rfl, rfl, h1, hs.1.1, hs.1.2, by rw [q1.length, ← sizeL_eq]; exact hs.2, k.lst S (q1.flat _)⟩
    · cases hd
  · cases hd
end
end G
end
section
set_option Elab.async false
set_option linter.all false
set_option maxRecDepth 100000
set_option maxHeartbeats 1000000
/-! G: comparisons of built-in data. -/
namespace G
open PySem PySem.Spec PyProof.Rows L2
/-! ### data as the library's data -/
section
variable {Γ : Ge} {cs : List Cau} {p : En0} {F : Hp} {ι : List Addr} {e : En} {m : Mu} {σ : St} {H : Hp}
mutual
theorem dp_of (S : Sim Γ cs p F ι e m σ H) : ∀ {d : D} {v : V} {n : Nat}, Rep Γ F ι v d → plain d n = true → Dp Γ.K H v (toPy d)
  | .non, _, _, .non, _ => .non
  | .bl b, _, _, .bl _, _ => .bl b
  | .int b, _, _, .int _, _ => .int b
  | .str b, _, _, .str _, _ => .str b
  | .tup ds, _, n + 1, .tup h r, q => .tup (sqT_of S h) (dpL_of S r (n := n) (by simpa only [plain] using q))
  | .lst ds, _, n + 1, .lst h r, q => .lst (.inl (.inl (exact_of S h rfl))) (dpL_of S r (n := n) (by simpa only [plain] using q))
  | .tup ds, _, 0, _, q => by simp [plain] at q
  | .lst ds, _, 0, _, q => by simp [plain] at q
  | .scr ds, _, _, _, q => by simp [plain] at q
  | .dic ds, _, _, _, q => by simp [plain] at q
  | .ins _ _, _, _, _, q => by simp [plain] at q
  | .cel _, _, _, _, q => by simp [plain] at q
theorem dpL_of (S : Sim Γ cs p F ι e m σ H) : ∀ {ds : List D} {vs : List V} {n : Nat}, Reps Γ F ι vs ds → plainL ds n = true → DpAll Γ.K H vs (toPyL ds)
  | [], _, _, .nil, _ => .nil
  | d :: ds, _, n, .cons r t, q => by
    simp only [plainL, Bool.and_eq_true] at q
    exact .cons (dp_of S r q.1) (dpL_of S t q.2)
end
theorem RdR.dp (S : Sim Γ cs p F ι e m σ H) {v : V} {d : D} {n : Nat} (h : RdR Γ F ι H v d) (q : plain d n = true) : Dp Γ.K H v (toPy d) := by
  cases h with
  | rep r _ => exact dp_of S r q
  | obj r =>
    cases r with
    | lst h r =>
      cases n with
      | zero => simp [plain] at q
      | succ n => exact .lst (.inl (.inl h)) (dpL_of S r (n := n) (by simpa only [plain] using q))
    | dic _ _ => simp [plain] at q
    | ins _ _ => simp [plain] at q
end
mutual
theorem noDict_of : ∀ (d : D), (toPy d).hasDict = false
  | .non => by simp [toPy, PyData.hasDict]
  | .bl b => by simp [toPy, PyData.hasDict]
  | .int b => by simp [toPy, PyData.hasDict]
  | .str b => by simp [toPy, PyData.hasDict]
  | .tup ds => by simp only [toPy, PyData.hasDict]; exact noDictL_of ds
  | .lst ds => by simp only [toPy, PyData.hasDict]; exact noDictL_of ds
  | .scr _ => by simp [toPy, PyData.hasDict]
  | .dic _ => by simp [toPy, PyData.hasDict]
  | .ins _ _ => by simp [toPy, PyData.hasDict]
  | .cel _ => by simp [toPy, PyData.hasDict]
theorem noDictL_of : ∀ (ds : List D), PyData.hasDictAll (toPyL ds) = false
  | [] => by simp [toPyL, PyData.hasDictAll]
  | d :: ds => by simp [toPyL, PyData.hasDictAll, noDict_of d, noDictL_of ds]
end
mutual
theorem can_of : ∀ {d : D} {n : Nat}, plain d n = true → (toPy d).canLay0 = true ∧ (toPy d).depth ≤ n
  | .non, _, _ => by simp [toPy, PyData.canLay0, PyData.depth]
  | .bl b, _, _ => by simp [toPy, PyData.canLay0, PyData.depth]
  | .int b, _, _ => by simp [toPy, PyData.canLay0, PyData.depth]
  | .str b, _, q => by
    simp only [plain] at q
    simp [toPy, PyData.canLay0, PyData.depth, q]
  | .tup ds, n + 1, q => by
    have z := canL_of (ds := ds) (n := n) (by simpa only [plain] using q)
    simp only [toPy, PyData.canLay0, PyData.depth]
    exact ⟨z.1, by omega⟩
  | .lst ds, n + 1, q => by
    have z := canL_of (ds := ds) (n := n) (by simpa only [plain] using q)
    simp only [toPy, PyData.canLay0, PyData.depth]
    exact ⟨z.1, by omega⟩
  | .tup ds, 0, q => by simp [plain] at q
  | .lst ds, 0, q => by simp [plain] at q
  | .scr ds, _, q => by simp [plain] at q
  | .dic ds, _, q => by simp [plain] at q
  | .ins _ _, _, q => by simp [plain] at q
  | .cel _, _, q => by simp [plain] at q
theorem canL_of : ∀ {ds : List D} {n : Nat}, plainL ds n = true → PyData.canLayAll0 (toPyL ds) = true ∧ PyData.depthAll (toPyL ds) ≤ n
  | [], _, _ => by simp [toPyL, PyData.canLayAll0, PyData.depthAll]
  | d :: ds, n, q => by
    simp only [plainL, Bool.and_eq_true] at q
    have z := can_of q.1
    have z2 := canL_of q.2
    simp only [toPyL, PyData.canLayAll0, PyData.depthAll, z.1, z2.1, Bool.and_self, true_and]
    omega
end
theorem shaped_of {d : D} (q : plain d 60 = true) : SeqAt.shaped (toPy d) = true := by
  have z := can_of q
  unfold SeqAt.shaped
  rw [z.1]
  simp only [Bool.true_and, decide_eq_true_eq]
  omega
theorem eqvAll_len : ∀ {xs ys : List D}, xs.length ≠ ys.length → PyData.eqvAll (toPyL xs) (toPyL ys) = false
  | [], [], h => absurd rfl h
  | [], _ :: _, _ => by simp [toPyL, PyData.eqvAll]
  | _ :: _, [], _ => by simp [toPyL, PyData.eqvAll]
  | x :: xs, y :: ys, h => by
    simp only [toPyL, PyData.eqvAll, Bool.and_eq_false_iff]
    exact .inr (eqvAll_len (by simpa using h))
mutual
theorem eqv_of : ∀ {x y : D} {n k : Nat} {b : Bool}, plain x n = true → plain y k = true → eqD x y = some b → PyData.eqv (toPy x) (toPy y) = b
  | .non, y, _, _, _, _, hy, h => by cases y <;> simp_all [eqD, toPy, PyData.eqv, plain]
  | .bl a, y, _, _, _, _, hy, h => by cases y <;> simp_all [eqD, toPy, PyData.eqv, plain, b2i]
  | .int a, y, _, _, _, _, hy, h => by cases y <;> simp_all [eqD, toPy, PyData.eqv, plain, b2i]
  | .str a, y, _, _, _, _, hy, h => by cases y <;> simp_all [eqD, toPy, PyData.eqv, plain]
  | .tup a, .tup c, n + 1, k + 1, b, hx, hy, h => by
    simp only [plain] at hx hy
    simp only [eqD] at h
    simp only [toPy, PyData.eqv]
    split at h
    · rename_i hl
      exact eqvL_of hl hx hy h
    · rename_i hl
      cases h
      exact eqvAll_len hl
  | .lst a, .lst c, n + 1, k + 1, b, hx, hy, h => by
    simp only [plain] at hx hy
    simp only [eqD] at h
    simp only [toPy, PyData.eqv]
    split at h
    · rename_i hl
      exact eqvL_of hl hx hy h
    · rename_i hl
      cases h
      exact eqvAll_len hl
  | .tup a, .non, _, _, _, _, _, h => by simp_all [eqD, toPy, PyData.eqv]
  | .tup a, .bl _, _, _, _, _, _, h => by simp_all [eqD, toPy, PyData.eqv]
  | .tup a, .int _, _, _, _, _, _, h => by simp_all [eqD, toPy, PyData.eqv]
  | .tup a, .str _, _, _, _, _, _, h => by simp_all [eqD, toPy, PyData.eqv]
  | .tup a, .lst _, _, _, _, _, _, h => by simp_all [eqD, toPy, PyData.eqv]
  | .lst a, .non, _, _, _, _, _, h => by simp_all [eqD, toPy, PyData.eqv]
  | .lst a, .bl _, _, _, _, _, _, h => by simp_all [eqD, toPy, PyData.eqv]
  | .lst a, .int _, _, _, _, _, _, h => by simp_all [eqD, toPy, PyData.eqv]
  | .lst a, .str _, _, _, _, _, _, h => by simp_all [eqD, toPy, PyData.eqv]
  | .lst a, .tup _, _, _, _, _, _, h => by simp_all [eqD, toPy, PyData.eqv]
  | .tup a, .tup _, 0, _, _, q, _, h => by simp [plain] at q
  | .lst a, .lst _, 0, _, _, q, _, h => by simp [plain] at q
  | .tup a, .tup _, _ + 1, 0, _, _, q, h => by simp [plain] at q
  | .lst a, .lst _, _ + 1, 0, _, _, q, h => by simp [plain] at q
  | .tup a, .scr _, _, _, _, _, q, h => by simp [plain] at q
  | .tup a, .dic _, _, _, _, _, q, h => by simp [plain] at q
  | .tup a, .ins _ _, _, _, _, _, q, h => by simp [plain] at q
  | .tup a, .cel _, _, _, _, _, q, h => by simp [plain] at q
  | .lst a, .scr _, _, _, _, _, q, h => by simp [plain] at q
  | .lst a, .dic _, _, _, _, _, q, h => by simp [plain] at q
  | .lst a, .ins _ _, _, _, _, _, q, h => by simp [plain] at q
  | .lst a, .cel _, _, _, _, _, q, h => by simp [plain] at q
  | .scr ds, _, _, _, _, q, _, _ => by simp [plain] at q
  | .dic ds, _, _, _, _, q, _, _ => by simp [plain] at q
  | .ins _ _, _, _, _, _, q, _, _ => by simp [plain] at q
  | .cel _, _, _, _, _, q, _, _ => by simp [plain] at q
theorem eqvL_of : ∀ {xs ys : List D} {n k : Nat} {b : Bool}, xs.length = ys.length → plainL xs n = true → plainL ys k = true → eqL xs ys = some b → PyData.eqvAll (toPyL xs) (toPyL ys) = b
  | [], [], _, _, _, _, _, _, h => by simp_all [eqL, toPyL, PyData.eqvAll]
  | [], _ :: _, _, _, _, hl, _, _, h => by simp at hl
  | _ :: _, [], _, _, _, hl, _, _, h => by simp at hl
  | x :: xs, y :: ys, n, k, b, hl, hx, hy, h => by
    simp only [plainL, Bool.and_eq_true] at hx hy
    simp only [eqL] at h
    simp only [toPyL, PyData.eqvAll]
    split at h
    · rename_i e1
      rw [eqv_of hx.1 hy.1 e1, eqvL_of (by simpa using hl) hx.2 hy.2 h, Bool.true_and]
    · rename_i e1
      cases h
      rw [eqv_of hx.1 hy.1 e1, Bool.false_and]
    · cases h
end
/-! ### flat data -/
def toV : D → V
  | .bl b => .bl b
  | .int i => .int i
  | .str x => .str x
  | _ => .non
theorem Rep.flat {Γ : Ge} {F : Hp} {ι : List Addr} {v : V} {d : D} (r : Rep Γ F ι v d) (h : flat d = true) : v = toV d ∧ flatV v = true := by
  cases r <;> first | exact ⟨rfl, rfl⟩ | (simp [G.flat] at h)
theorem eqD_flat {x y : D} (hx : flat x = true) (hy : flat y = true) : eqD x y = some (eqV (toV x) (toV y)) := by
  cases x <;> cases y <;> first | (simp [flat] at hx; done) | (simp [flat] at hy; done) | rfl
section
variable {A : Around} {s : Shared}
theorem rc_lt1 {x y : D} {u w : Value} {b : Bool} (h : lt1 x y = some b) (rx : RelV (toV x) u) (ry : RelV (toV y) w) : Ob.RcOp .Lt A s u w b ∧ Ob.RcOp .Gt A s w u b := by
  unfold lt1 at h
  split at h
  · cases h
    obtain ⟨t, rfl⟩ := rx
    obtain ⟨t', rfl⟩ := ry
    exact ⟨Ob.RcOp.lt_int _ _ _ _, Ob.RcOp.gt_int _ _ _ _⟩
  · cases h
    cases rx
    cases ry
    rename_i a b
    refine ⟨fun prog w' E Q hq => ?_, fun prog w' E Q hq => ?_⟩
    · have z : wpAny (model prog w') A (compareOp .Lt (.bool a) (.bool b)) Q E s := PyProof.Rows.lt_bool hq
      exact z
    · have z : wpAny (model prog w') A (compareOp .Gt (.bool b) (.bool a)) Q E s := PyProof.Rows.gt_bool hq
      exact z
  · cases h
    obtain ⟨t, rfl⟩ := rx
    obtain ⟨t', rfl⟩ := ry
    refine ⟨fun prog w' E Q hq => ?_, fun prog w' E Q hq => ?_⟩
    · have z : wpAny (model prog w') A (compareOp .Lt (.str _ t) (.str _ t')) Q E s := PySem.P.lt_str hq
      exact z
    · have z : wpAny (model prog w') A (compareOp .Gt (.str _ t') (.str _ t)) Q E s := PySem.P.gt_str hq
      exact z
  · cases h
theorem rc_le1 {x y : D} {u w : Value} {b : Bool} (h : le1 x y = some b) (rx : RelV (toV x) u) (ry : RelV (toV y) w) : Ob.RcOp .LtE A s u w b ∧ Ob.RcOp .GtE A s w u b := by
  unfold le1 at h
  split at h
  · cases h
    obtain ⟨t, rfl⟩ := rx
    obtain ⟨t', rfl⟩ := ry
    exact ⟨Ob.RcOp.le_int _ _ _ _, Ob.RcOp.ge_int _ _ _ _⟩
  · cases h
    cases rx
    cases ry
    rename_i a b
    refine ⟨fun prog w' E Q hq => ?_, fun prog w' E Q hq => ?_⟩
    · have z : wpAny (model prog w') A (compareOp .LtE (.bool a) (.bool b)) Q E s := PyProof.Rows.le_bool hq
      exact z
    · have z : wpAny (model prog w') A (compareOp .GtE (.bool b) (.bool a)) Q E s := PyProof.Rows.ge_bool hq
      exact z
  · cases h
    obtain ⟨t, rfl⟩ := rx
    obtain ⟨t', rfl⟩ := ry
    rename_i a b
    have el : decide (a.cps.toList ≤ b.cps.toList) = !decide (b.cps.toList < a.cps.toList) := by
      by_cases z : b.cps.toList < a.cps.toList
      · rw [decide_eq_true z, decide_eq_false (fun q => q z)]; rfl
      · rw [decide_eq_false z, decide_eq_true (show a.cps.toList ≤ b.cps.toList from z)]; rfl
    refine ⟨fun prog w' E Q hq => ?_, fun prog w' E Q hq => ?_⟩
    · rw [el] at hq
      have z : wpAny (model prog w') A (compareOp .LtE (.str _ t) (.str _ t')) Q E s := PySem.P.le_str hq
      exact z
    · rw [el] at hq
      have z : wpAny (model prog w') A (compareOp .GtE (.str _ t') (.str _ t)) Q E s := PySem.P.ge_str hq
      exact z
  · cases h
theorem lt_le1 {x y : D} {b : Bool} (hn : eqD x y = some false) (h : lt1 x y = some b) : le1 x y = some b := by
  unfold lt1 at h
  split at h
  · cases h
    rename_i a b
    simp only [eqD, Option.some.injEq, beq_eq_false_iff_ne, ne_eq] at hn
    unfold le1
    exact congrArg some (by by_cases z : a < b <;> simp <;> omega)
  · cases h
    rename_i a b
    unfold le1
    revert hn
    cases a <;> cases b <;> decide
  · cases h
    rename_i a b
    simp only [eqD, Option.some.injEq, beq_eq_false_iff_ne, ne_eq] at hn
    unfold le1
    refine congrArg some ?_
    have hne : a.cps.toList ≠ b.cps.toList := fun z => hn (by cases a; cases b; simp only [Str.mk.injEq]; exact Array.toList_inj.mp z)
    by_cases z : a.cps.toList < b.cps.toList
    · rw [decide_eq_true z, decide_eq_true (List.le_of_lt z)]
    · rw [decide_eq_false z, decide_eq_false (fun q => hne (List.le_antisymm q z))]
  · cases h
theorem eqAt_flat {x y : D} {u w : Value} (hx : flat x = true) (hy : flat y = true) (rx : RelV (toV x) u) (ry : RelV (toV y) w) : SeqAt.EqAt A s u w (eqV (toV x) (toV y)) := by
  have f : ∀ {d : D}, flat d = true → flatV (toV d) = true := fun {d} h => by cases d <;> first | rfl | (simp [flat] at h)
  exact eqAt_V rx ry (f hx) (f hy)
end
section
variable {Γ : Ge} {F : Hp} {ι : List Addr} {A : Around} {s : Shared}
theorem lx_lt (z : Bool) : ∀ {ds es : List D} {vs ws : List V} {us ts : List Value} {b : Bool} {n k : Nat}, Reps Γ F ι vs ds → Reps Γ F ι ws es → Vals vs us → Vals ws ts → ltL ds es = some b → ds.length + k = es.length + n → z = decide (n < k) →
    GL.Lx .Lt A s z us ts b
  | [], [], _, _, _, _, _, n, k, .nil, .nil, .nil, .nil, h, hl, hz => by
    simp only [ltL, Option.some.injEq] at h
    simp only [List.length_nil] at hl
    have : z = false := by rw [hz]; exact decide_eq_false (by omega)
    rw [← h, ← this]
    exact .l
  | [], e :: es, _, _, _, _, _, n, k, .nil, .cons _ _, .nil, _, h, hl, hz => by
    simp only [ltL, Option.some.injEq] at h
    simp only [List.length_nil, List.length_cons] at hl
    have : z = true := by rw [hz]; exact decide_eq_true (by omega)
    rw [← h, ← this]
    exact .l
  | d :: ds, [], _, _, _, _, _, n, k, .cons _ _, .nil, _, .nil, h, hl, hz => by
    simp only [ltL, Option.some.injEq] at h
    simp only [List.length_nil, List.length_cons] at hl
    have : z = false := by rw [hz]; exact decide_eq_false (by omega)
    rw [← h, ← this]
    exact .r
  | d :: ds, e :: es, _, _, _, _, b, n, k, .cons r1 t1, .cons r2 t2, .cons q1 p1, .cons q2 p2, h, hl, hz => by
    simp only [ltL] at h
    split at h
    · rename_i hf
      simp only [Bool.and_eq_true] at hf
      obtain ⟨rfl, _⟩ := r1.flat hf.1
      obtain ⟨rfl, _⟩ := r2.flat hf.2
      have ea := eqAt_flat (A := A) (s := s) hf.1 hf.2 q1 q2
      rw [eqD_flat hf.1 hf.2] at h
      cases ee : eqV (toV d) (toV e) with
      | true =>
        rw [ee] at h ea
        exact .eq ea (lx_lt z t1 t2 p1 p2 h (by simp only [List.length_cons] at hl; omega) hz)
      | false =>
        rw [ee] at h ea
        exact .ne ea (rc_lt1 h q1 q2).1
    · cases h
theorem lx_gt (z : Bool) : ∀ {ds es : List D} {vs ws : List V} {us ts : List Value} {b : Bool} {n k : Nat}, Reps Γ F ι vs ds → Reps Γ F ι ws es → Vals vs us → Vals ws ts → ltL es ds = some b → ds.length + k = es.length + n → z = decide (n > k) →
    GL.Lx .Gt A s z us ts b
  | [], [], _, _, _, _, _, n, k, .nil, .nil, .nil, .nil, h, hl, hz => by
    simp only [ltL, Option.some.injEq] at h
    simp only [List.length_nil] at hl
    have : z = false := by rw [hz]; exact decide_eq_false (by omega)
    rw [← h, ← this]
    exact .l
  | [], e :: es, _, _, _, _, _, n, k, .nil, .cons _ _, .nil, _, h, hl, hz => by
    simp only [ltL, Option.some.injEq] at h
    simp only [List.length_nil, List.length_cons] at hl
    have : z = false := by rw [hz]; exact decide_eq_false (by omega)
    rw [← h, ← this]
    exact .l
  | d :: ds, [], _, _, _, _, _, n, k, .cons _ _, .nil, _, .nil, h, hl, hz => by
    simp only [ltL, Option.some.injEq] at h
    simp only [List.length_nil, List.length_cons] at hl
    have : z = true := by rw [hz]; exact decide_eq_true (by omega)
    rw [← h, ← this]
    exact .r
  | d :: ds, e :: es, _, _, _, _, b, n, k, .cons r1 t1, .cons r2 t2, .cons q1 p1, .cons q2 p2, h, hl, hz => by
    simp only [ltL] at h
    split at h
    · rename_i hf
      simp only [Bool.and_eq_true] at hf
      obtain ⟨rfl, _⟩ := r1.flat hf.2
      obtain ⟨rfl, _⟩ := r2.flat hf.1
      have ea := eqAt_flat (A := A) (s := s) hf.2 hf.1 q1 q2
      rw [eqD_flat hf.1 hf.2] at h
      have sy : eqV (toV e) (toV d) = eqV (toV d) (toV e) := by
        have hd := hf.2
        have he := hf.1
        cases d <;> cases e <;> first | (simp [flat] at hd; done) | (simp [flat] at he; done) | rfl | (simp only [toV, eqV]; exact BEq.comm)
      rw [sy] at h
      cases ee : eqV (toV d) (toV e) with
      | true =>
        rw [ee] at h ea
        exact .eq ea (lx_gt z t1 t2 p1 p2 h (by simp only [List.length_cons] at hl; omega) hz)
      | false =>
        rw [ee] at h ea
        exact .ne ea (rc_lt1 h q2 q1).2
    · cases h
theorem lx_le (z : Bool) : ∀ {ds es : List D} {vs ws : List V} {us ts : List Value} {b : Bool} {n k : Nat}, Reps Γ F ι vs ds → Reps Γ F ι ws es → Vals vs us → Vals ws ts → leL ds es = some b → ds.length + k = es.length + n → z = decide (n ≤ k) →
    GL.Lx .LtE A s z us ts b
  | [], [], _, _, _, _, _, n, k, .nil, .nil, .nil, .nil, h, hl, hz => by
    simp only [leL, Option.some.injEq] at h
    simp only [List.length_nil] at hl
    have : z = true := by rw [hz]; exact decide_eq_true (by omega)
    rw [← h, ← this]
    exact .l
  | [], e :: es, _, _, _, _, _, n, k, .nil, .cons _ _, .nil, _, h, hl, hz => by
    simp only [leL, Option.some.injEq] at h
    simp only [List.length_nil, List.length_cons] at hl
    have : z = true := by rw [hz]; exact decide_eq_true (by omega)
    rw [← h, ← this]
    exact .l
  | d :: ds, [], _, _, _, _, _, n, k, .cons _ _, .nil, _, .nil, h, hl, hz => by
    simp only [leL, Option.some.injEq] at h
    simp only [List.length_nil, List.length_cons] at hl
    have : z = false := by rw [hz]; exact decide_eq_false (by omega)
    rw [← h, ← this]
    exact .r
  | d :: ds, e :: es, _, _, _, _, b, n, k, .cons r1 t1, .cons r2 t2, .cons q1 p1, .cons q2 p2, h, hl, hz => by
    simp only [leL] at h
    split at h
    · rename_i hf
      simp only [Bool.and_eq_true] at hf
      obtain ⟨rfl, _⟩ := r1.flat hf.1
      obtain ⟨rfl, _⟩ := r2.flat hf.2
      have ea := eqAt_flat (A := A) (s := s) hf.1 hf.2 q1 q2
      rw [eqD_flat hf.1 hf.2] at h
      cases ee : eqV (toV d) (toV e) with
      | true =>
        rw [ee] at h ea
        exact .eq ea (lx_le z t1 t2 p1 p2 h (by simp only [List.length_cons] at hl; omega) hz)
      | false =>
        rw [ee] at h ea
        have h2 : le1 d e = some b := by
          dsimp only at h
          exact lt_le1 (by rw [eqD_flat hf.1 hf.2, ee]) h
        exact .ne ea (rc_le1 h2 q1 q2).1
    · cases h
end
/-! ### the comparisons -/
theorem repK_val {Γ : Ge} {F : Hp} {ι : List Addr} {k : Key} : ∀ {ys : List (Key × V)} {kb : List (Key × D)}, RepK Γ F ι ys kb → (lkK kb k = none → valV ys k = none) ∧ ∀ d, lkK kb k = some d → ∃ v, valV ys k = some v ∧ Rep Γ F ι v d
  | _, _, .nil => ⟨fun _ => rfl, fun d h => nomatch h⟩
  | _, _, .cons (k := k1) (v := v1) (vs := vs) r t => by
    have z := repK_val (k := k) t
    unfold lkK
    by_cases e : k1 = k
    · have e1 : valV ((k1, v1) :: vs) k = some v1 := by simp [valV, e]
      rw [if_pos e]
      refine ⟨fun h => ?_, fun d h => ?_⟩
      · cases h
      · cases h
        exact ⟨v1, e1, r⟩
    · have e1 : valV ((k1, v1) :: vs) k = valV vs k := by simp [valV, e]
      rw [if_neg e, e1]
      exact z
theorem hits_of {Γ : Ge} {F : Hp} {ι : List Addr} {P : Program} {w : World} {A : Around} {s : Shared} {ys : List (Key × V)} {kb : List (Key × D)} {vb : List (Key × Value)} (ry : RepK Γ F ι ys kb) (rb : KV ys vb) :
    ∀ {ka : List (Key × D)} {xs : List (Key × V)} {va : List (Key × Value)} {r : Bool}, RepK Γ F ι xs ka → KV xs va → eqK kb ka = some r → PySem.W.KeqHitsP P w A s vb va r
  | _, _, _, r, .nil, .nil, h => by
    cases h
    exact .nil
  | _, _, _, r, .cons (k := k) (v := v) (d := d) rd rt, @Paired.cons _ _ _ _ q _ qs hq tq, h => by
    obtain ⟨key, u⟩ := q
    obtain ⟨h1, h2⟩ := hq
    have h1 : k = key := h1
    subst h1
    have z := repK_val (k := k) ry
    have rr := rb.val k
    unfold eqK at h
    split at h
    · rename_i e
      cases h
      rw [z.1 e] at rr
      exact .miss rr.none_of
    · rename_i y e
      obtain ⟨v2, e2, r2⟩ := z.2 y e
      rw [e2] at rr
      obtain ⟨u2, hu, ru⟩ := rr.some_of
      split at h
      · rename_i hf
        rw [Bool.and_eq_true] at hf
        obtain ⟨ev, _⟩ := rd.flat hf.1
        obtain ⟨ev2, _⟩ := r2.flat hf.2
        have e3 := eqD_flat hf.1 hf.2
        rw [e3] at h
        split at h
        · rename_i a b h3 h4
          cases h3
          cases h
          subst ev ev2
          exact .hit hu (eqAt_flat hf.1 hf.2 h2 ru).eqP (hits_of ry rb rt tq h4)
        · cases h
      · cases h
def rCmp (Γ : Ge) (op : CmpOp) : R2 := fun x y H Q => ∃ cs p F ι e m σ d1 d2 b, Sim Γ cs p F ι e m σ H ∧ RdR Γ F ι H x d1 ∧ RdR Γ F ι H y d2 ∧ cmpD op d1 d2 = some b ∧ Q (.bl b) H
section
variable {Γ : Ge} {X : Cx} {cs : List Cau} {p : En0} {F : Hp} {ι : List Addr} {e : En} {m : Mu} {σ σ' : St} {H : Hp} {pins : List (Addr × Obj)} {s : Shared} {x y : V} {v u : Value} {d1 d2 : D} {b : Bool} {Q : VK}
theorem ord_lt (hK : X.K = Γ.K) (hu : X.A.units + 64 < cLine) (S : Sim Γ cs p F ι e m σ H) (I : Inv X pins σ' H s) (rx : RelV x v) (ry : RelV y u) (r1 : RdR Γ F ι H x d1) (r2 : RdR Γ F ι H y d2) (h : ltD d1 d2 = some b) (q : Q (.bl b) H) :
    wpAny (model X.prog X.w) X.A (compareOp .Lt v u) (EP X pins σ' Q) X.xe s ∧ wpAny (model X.prog X.w) X.A (compareOp .Gt u v) (EP X pins σ' Q) X.xe s := by
  have fin : EP X pins σ' Q (.bool b) s := ⟨.bl b, H, I, rfl, q⟩
  have both : Ob.RcOp .Lt X.A s v u b ∧ Ob.RcOp .Gt X.A s u v b := by
    unfold ltD at h
    split at h
    · obtain ⟨a, vs, rfl, h1, q1⟩ := r1.tup S
      obtain ⟨c, ws, rfl, h2, q2⟩ := r2.tup S
      cases rx
      cases ry
      obtain ⟨its, rv1, p1, _⟩ := I.tuple (by rw [hK]; exact h1)
      obtain ⟨its2, rv2, p2, _⟩ := I.tuple (by rw [hK]; exact h2)
      have l1 := q1.length
      have l2 := q2.length
      have l3 := rv1.length
      have l4 := rv2.length
      exact ⟨GL.tup_lt p1 p2 (by omega) (lx_lt _ q1 q2 rv1 rv2 h (by simp only [List.size_toArray]; omega) rfl), GL.tup_gt p2 p1 (by omega) (lx_gt _ q2 q1 rv2 rv1 h (by simp only [List.size_toArray]; omega) rfl)⟩
    · have hf : flat d1 = true ∧ flat d2 = true := by
        unfold lt1 at h
        split at h
        · exact ⟨rfl, rfl⟩
        · exact ⟨rfl, rfl⟩
        · exact ⟨rfl, rfl⟩
        · cases h
      have e1 : x = toV d1 := by
        cases r1 with
        | rep r _ => exact (r.flat hf.1).1
        | obj r => cases r <;> (simp [flat] at hf)
      have e2 : y = toV d2 := by
        cases r2 with
        | rep r _ => exact (r.flat hf.2).1
        | obj r => cases r <;> (simp [flat] at hf)
      subst e1 e2
      exact rc_lt1 h rx ry
  exact ⟨both.1 X.prog X.w X.xe _ fin, both.2 X.prog X.w X.xe _ fin⟩
theorem ord_le (hK : X.K = Γ.K) (hu : X.A.units + 64 < cLine) (S : Sim Γ cs p F ι e m σ H) (I : Inv X pins σ' H s) (rx : RelV x v) (ry : RelV y u) (r1 : RdR Γ F ι H x d1) (r2 : RdR Γ F ι H y d2) (h : leD d1 d2 = some b) (q : Q (.bl b) H) :
    wpAny (model X.prog X.w) X.A (compareOp .LtE v u) (EP X pins σ' Q) X.xe s := by
  have fin : EP X pins σ' Q (.bool b) s := ⟨.bl b, H, I, rfl, q⟩
  have both : Ob.RcOp .LtE X.A s v u b := by
    unfold leD at h
    split at h
    · obtain ⟨a, vs, rfl, h1, q1⟩ := r1.tup S
      obtain ⟨c, ws, rfl, h2, q2⟩ := r2.tup S
      cases rx
      cases ry
      obtain ⟨its, rv1, p1, _⟩ := I.tuple (by rw [hK]; exact h1)
      obtain ⟨its2, rv2, p2, _⟩ := I.tuple (by rw [hK]; exact h2)
      have l1 := q1.length
      have l2 := q2.length
      have l3 := rv1.length
      have l4 := rv2.length
      exact GL.tup_le p1 p2 (by omega) (lx_le _ q1 q2 rv1 rv2 h (by simp only [List.size_toArray]; omega) rfl)
    · have hf : flat d1 = true ∧ flat d2 = true := by
        unfold le1 at h
        split at h
        · exact ⟨rfl, rfl⟩
        · exact ⟨rfl, rfl⟩
        · exact ⟨rfl, rfl⟩
        · cases h
      have e1 : x = toV d1 := by
        cases r1 with
        | rep r _ => exact (r.flat hf.1).1
        | obj r => cases r <;> (simp [flat] at hf)
      have e2 : y = toV d2 := by
        cases r2 with
        | rep r _ => exact (r.flat hf.2).1
        | obj r => cases r <;> (simp [flat] at hf)
      subst e1 e2
      exact (rc_le1 h rx ry).1
  exact both X.prog X.w X.xe _ fin
/-- x in a list of flat things -/
theorem inL_is {z : D} (hz : flat z = true) : ∀ {ds : List D} {vs : List V} {b : Bool}, Reps Γ F ι vs ds → ds.all flat = true → inL z ds = some b → vs.all flatV = true ∧ inV (toV z) vs = b
  | [], _, _, .nil, _, h => by
    simp only [inL, Option.some.injEq] at h
    subst h
    exact ⟨rfl, rfl⟩
  | d :: ds, _, b, .cons (v := v) (vs := vs) r t, hf, h => by
    simp only [List.all_cons, Bool.and_eq_true] at hf
    obtain ⟨rfl, fv⟩ := r.flat hf.1
    simp only [inL, hz, hf.1, Bool.and_self, if_true, eqD_flat hf.1 hz] at h
    have all_ : ∀ {ds : List D} {vs : List V}, Reps Γ F ι vs ds → ds.all flat = true → vs.all flatV = true := by
      intro ds vs r
      induction ds generalizing vs with
      | nil => intro _; cases r; rfl
      | cons d ds ih =>
        intro hf
        cases r with
        | cons r t =>
          simp only [List.all_cons, Bool.and_eq_true] at hf ⊢
          exact ⟨(r.flat hf.1).2, ih t hf.2⟩
    refine ⟨by simp only [List.all_cons, Bool.and_eq_true]; exact ⟨fv, all_ t hf.2⟩, ?_⟩
    show (eqV (toV d) (toV z) || inV (toV z) vs) = b
    cases ee : eqV (toV d) (toV z) with
    | true => rw [ee] at h; cases h; rfl
    | false =>
      rw [ee] at h
      rw [Bool.false_or]
      exact (inL_is hz t hf.2 h).2
theorem dec_strV {a b : Str} : decide (V.str a = V.str b) = (a == b) := by
  rw [Bool.eq_iff_iff]
  simp
theorem op_cmpD (hK : X.K = Γ.K) (hu : X.A.units + 64 < cLine) (op : CmpOp) : OpR X (compareOp op) (rCmp Γ op) := by
  rintro pins s σ' H x y v u Q I rx ry ⟨cs, p, F, ι, e, m, σ, d1, d2, b, S, r1, r2, h, q⟩
  unfold cmpD at h
  split at h
  · unfold eqT at h
    split at h
    · rename_i ka kb
      obtain ⟨a1, xs, rfl, g1, q1⟩ := r1.dic S
      obtain ⟨a2, ys, rfl, g2, q2⟩ := r2.dic S
      cases rx
      cases ry
      obtain ⟨_, n1, va, ra, da⟩ := dk_rd I.hok g1
      obtain ⟨_, n2, vb, rb, db⟩ := dk_rd I.hok g2
      have la : va.length = ka.length := by rw [← q1.length]; exact ra.length.symm
      have lb : vb.length = kb.length := by rw [← q2.length]; exact rb.length.symm
      have fin : EP X pins σ' Q (.bool b) s := ⟨.bl b, H, I, rfl, q⟩
      split at h
      · rename_i hl
        refine PySem.W.rcP_dicts (knd := mixKind X.prog X.w) n1 n2 da db (by omega) (fun _ => hits_of q2 rb q1 ra h) _ _ ?_
        have e1 : (va.length == vb.length) = true := by rw [la, lb, hl]; simp
        rw [e1, Bool.true_and]
        exact fin
      · rename_i hl
        cases h
        refine PySem.W.rcP_dicts (knd := mixKind X.prog X.w) (r := false) n1 n2 da db (by omega) (fun z => absurd (by rw [← la, ← lb]; exact z) hl) _ _ ?_
        rw [Bool.and_false]
        exact fin
    · skip
      split at h
      · rename_i hp
        simp only [Bool.or_eq_true, Bool.and_eq_true] at hp
        rcases hp with hp | hp
        · cases d1 <;> first | (cases hp.1; done) | skip
          cases d2 <;> first | (cases hp.2; done) | skip
          have e1 := r1.str; have e2 := r2.str; subst e1 e2
          cases h
          exact op_eq pins s σ' H _ _ v u Q I rx ry ⟨rfl, by rw [dec_strV]; exact q⟩
        refine op_eqD hu pins s σ' H x y v u Q I rx ry ⟨toPy d1, toPy d2, by rw [hK]; exact r1.dp S hp.1, by rw [hK]; exact r2.dp S hp.2, shaped_of hp.1, shaped_of hp.2, ?_⟩
        rw [eqv_of hp.1 hp.2 h]
        exact q
      · cases h
  · split at h
    · rename_i hp
      simp only [Bool.or_eq_true, Bool.and_eq_true] at hp
      rcases hp with hp | hp
      · cases d1 <;> first | (cases hp.1; done) | skip
        cases d2 <;> first | (cases hp.2; done) | skip
        have e1 := r1.str; have e2 := r2.str; subst e1 e2
        cases h
        exact op_ne pins s σ' H _ _ v u Q I rx ry ⟨rfl, by rw [dec_strV]; exact q⟩
      cases e1 : eqD d1 d2 with
      | none => rw [e1] at h; cases h
      | some b1 =>
        rw [e1] at h
        cases h
        refine op_neD hu pins s σ' H x y v u Q I rx ry ⟨toPy d1, toPy d2, by rw [hK]; exact r1.dp S hp.1, by rw [hK]; exact r2.dp S hp.2, shaped_of hp.1, shaped_of hp.2, ?_⟩
        rw [eqv_of hp.1 hp.2 e1]
        exact q
    · cases h
  · exact (ord_lt hK hu S I rx ry r1 r2 h q).1
  · exact ord_le hK hu S I rx ry r1 r2 h q
  · exact (ord_lt hK hu S I ry rx r2 r1 h q).2
  · split at h
    · have e1 := r1.int; have e2 := r2.int; subst e1 e2; cases h
      exact op_ge pins s σ' H _ _ v u Q I rx ry ⟨_, _, rfl, rfl, q⟩
    · cases h
  · split at h
    · split at h
      · rename_i hf
        simp only [Bool.and_eq_true] at hf
        obtain ⟨a, vs, rfl, h1, q1⟩ := r2.lst S
        have ex : x = toV d1 ∧ flatV x = true := by
          cases r1 with
          | rep r _ => exact r.flat hf.1
          | obj r => cases r <;> (simp [flat] at hf)
        obtain ⟨z1, z2⟩ := inL_is hf.1 q1 hf.2 h
        exact op_in_seq pins s σ' H _ _ v u Q I rx ry ⟨a, vs, rfl, .inl (.inl (.inl h1)), ex.2, z1, by rw [if_neg Bool.false_ne_true, ex.1, z2]; exact q⟩
      · cases h
    · split at h
      · rename_i hf
        simp only [Bool.and_eq_true] at hf
        obtain ⟨a, vs, rfl, h1, q1⟩ := r2.tup S
        have ex : x = toV d1 ∧ flatV x = true := by
          cases r1 with
          | rep r _ => exact r.flat hf.1
          | obj r => cases r <;> (simp [flat] at hf)
        obtain ⟨z1, z2⟩ := inL_is hf.1 q1 hf.2 h
        exact op_in_seq pins s σ' H _ _ v u Q I rx ry ⟨a, vs, rfl, .inr (by rw [hK]; exact h1), ex.2, z1, by rw [if_neg Bool.false_ne_true, ex.1, z2]; exact q⟩
      · cases h
    · cases h
  · split at h
    · split at h
      · rename_i hf
        simp only [Bool.and_eq_true] at hf
        obtain ⟨a, vs, rfl, h1, q1⟩ := r2.lst S
        have ex : x = toV d1 ∧ flatV x = true := by
          cases r1 with
          | rep r _ => exact r.flat hf.1
          | obj r => cases r <;> (simp [flat] at hf)
        obtain ⟨b1, e1, e2⟩ := Option.map_eq_some_iff.mp h
        subst e2
        · obtain ⟨z1, z2⟩ := inL_is hf.1 q1 hf.2 e1
          exact op_notIn_seq pins s σ' H _ _ v u Q I rx ry ⟨a, vs, rfl, .inl (.inl (.inl h1)), ex.2, z1, by rw [if_pos rfl, ex.1, z2]; exact q⟩
      · cases h
    · split at h
      · rename_i hf
        simp only [Bool.and_eq_true] at hf
        obtain ⟨a, vs, rfl, h1, q1⟩ := r2.tup S
        have ex : x = toV d1 ∧ flatV x = true := by
          cases r1 with
          | rep r _ => exact r.flat hf.1
          | obj r => cases r <;> (simp [flat] at hf)
        obtain ⟨b1, e1, e2⟩ := Option.map_eq_some_iff.mp h
        subst e2
        · obtain ⟨z1, z2⟩ := inL_is hf.1 q1 hf.2 e1
          exact op_notIn_seq pins s σ' H _ _ v u Q I rx ry ⟨a, vs, rfl, .inr (by rw [hK]; exact h1), ex.2, z1, by rw [if_pos rfl, ex.1, z2]; exact q⟩
      · cases h
    · cases h
  · cases h
end
end G
end
section
set_option Elab.async false
set_option linter.all false
set_option maxRecDepth 100000
set_option maxHeartbeats 1000000
/-! G: defs that run where no guard stands (repr asks it). -/
namespace G
open PySem PySem.Spec PyProof.Rows L2
structure RoomG (k : Nat) (A : Around) : Prop where
  r : Room k A
  g : A.guards = some []
theorem RoomG.mono {j k : Nat} {A : Around} (r : RoomG k A) (h : j ≤ k) : RoomG j A := ⟨r.r.mono h, r.g⟩
theorem RoomG.in1 {k : Nat} {A : Around} (r : RoomG (k + 1) A) : RoomG k A.in1 := ⟨r.r.in1, r.g⟩
theorem RoomG.deeper {k : Nat} {A : Around} (r : RoomG (k + 1) A) (env : Env) : RoomG k (A.deeper env) := ⟨r.r.deeper env, r.g⟩
theorem make_guards {A : Around} {C : Addr} {us : List Value} {kw : List (Str × Value)} : (A.under (.builtin "type.__call__" ⟨.ref C :: us, kw⟩)).guards = A.guards := by
  first | rfl | simp [Around.under, Code.guards, Code.isGuard, guardIds, pushGuards]
theorem RoomG.make {k : Nat} {A : Around} (r : RoomG (k + 1) A) (C : Addr) (us : List Value) (kw : List (Str × Value)) : RoomG k (A.under (.builtin "type.__call__" ⟨.ref C :: us, kw⟩)) := ⟨r.r.make C us kw, make_guards.trans r.g⟩
structure FnG (P : Program) (w : World) (K : PySem.W.Frag) (mg : Str → Option Value) (base : Heap) (CX : CXT) (k : Nat) (f : Addr) (fd : FuncData) (ps : List Str) (sp : Sp) : Prop where
  len : ∀ vs H Q E, sp vs H Q E → vs.length = ps.length
  run : ∀ (A : Around) (outer : List Env) (s : Shared) (H : Hp) (args : Args) (us : List Value) (vs : List V) (Q : VK) (E : XK), RoomG k A → Env0 P w K mg base A outer s H → BindsTo s fd args (ps.zip us) → Vals vs us → sp vs H Q E →
    codeAny (model P w) A (.call (.ref f) args) (CR CX outer P w H s Q E) s
theorem FnG.mono {P : Program} {w : World} {K : PySem.W.Frag} {mg : Str → Option Value} {base : Heap} {CX : CXT} {j k : Nat} {f : Addr} {fd : FuncData} {ps : List Str} {sp : Sp} (F : FnG P w K mg base CX j f fd ps sp) (h : j ≤ k) :
    FnG P w K mg base CX k f fd ps sp := ⟨F.len, fun A outer s H args us vs Q E hr => F.run A outer s H args us vs Q E (hr.mono h)⟩
theorem FnG.of {P : Program} {w : World} {K : PySem.W.Frag} {mg : Str → Option Value} {base : Heap} {CX : CXT} {k : Nat} {f : Addr} {fd : FuncData} {ps : List Str} {sp : Sp} (F : FnOk P w K mg base CX k f fd ps sp) : FnG P w K mg base CX k f fd ps sp :=
  ⟨F.len, fun A outer s H args us vs Q E hr => F.run A outer s H args us vs Q E hr.r⟩
theorem fn_ofG {CX : CXT} {P : Program} {w : World} {K : PySem.W.Frag} {mg : Str → Option Value} {base : Heap} {k : Nat} {f : Addr} {name qual : Str} {params : Arguments} {body : List Stmt} {scope : Scope} {dV kV doc pm cdv ct oc : Value} {an od : Option Addr}
    {osl : Array (Option Value)} {N ps : List Str} {sp : Sp} (lk : K.lookup f = some ⟨oc, od, .func (PySem.W.fnOf name qual params body scope dV kV doc pm an cdv ct), osl⟩) (hcd : PySem.W.codeIn K cdv qual = true) (S : FnScope N ps scope)
    (len : ∀ vs H Q E, sp vs H Q E → vs.length = ps.length)
    (hbody : ∀ (A : Around) (outer : List Env) (s : Shared) (H : Hp) (vs : List V) (Q : VK) (E : XK), RoomG k (A.deeper (envOfC qual scope s.heap.objs.size f cdv)) → sp vs H Q E →
      ∃ t, PSs (cxOf CX P w K mg base N qual scope f cdv A outer s H E) body t ∧ t { nx := fun _ H' => Q .non H', rt := Q } (start N vs) H) :
    FnG P w K mg base CX (k + 1) f (PySem.W.fnOf name qual params body scope dV kV doc pm an cdv ct) ps sp := by
  refine ⟨len, fun A outer s H args us vs Q E hr e0 hb r hsp => ?_⟩
  have hlen := len _ _ _ _ hsp
  have inK : K.In s.heap := e0.mod.kin.keeps fun c u z => (e0.bs c u z).1
  have nl : s.heap.NoLimit := e0.mod.nolimit.keeps fun c u z => (e0.bs c u z).1
  have kinds : ∀ z ∈ ps.zip us, scope.names.lookup z.1 = some .local ∨ (scope.names.lookup z.1 = some .cell ∧ ((cellsFrom (s.heap.objs.size + 1) scope.names []).lookup z.1).isSome = true) := by
    rintro ⟨y, u⟩ hz
    rcases S.par y (List.of_mem_zip hz).1 with g | g
    · exact Or.inl g
    · exact Or.inr ⟨g, PySem.W.cellsFrom_some _ _ _ (Or.inl g)⟩
  refine codeAny_call_function hr.r.depth (inK _ _ lk) rfl S.co S.gen rfl (PySem.W.codeRec_of inK hcd) ?_
  refine hb _ _ _ _ ?_
  refine wpAny_newFunctionEnv_cells S.kind kinds fun en hen t1 xt => ?_
  subst hen
  refine ⟨nl.keeps xt.toInCall.keep, codeAny_func ?_⟩
  obtain ⟨rd, hrd, hst⟩ := hbody A outer s H vs Q E (hr.deeper _) hsp
  have J : Inv (cxOf CX P w K mg base N qual scope f cdv A outer s H E) [] (start N vs) H t1 := inv_start S hr.r.hd e0 hlen r xt
  have back : ∀ {σ2 : L2.St} {H2 : Hp} {t2 : Shared} {x : V} {u : Value}, Inv (cxOf CX P w K mg base N qual scope f cdv A outer s H E) [] σ2 H2 t2 → RelV x u → Q x H2 → CE outer P w H s Q u t2 :=
    fun {σ2 H2 t2 x u} J2 rx q2 => ⟨x, H2, J2.os, J2.bare, J2.base, J2.hok, rx, q2⟩
  refine wpAny_mono (hrd.run [] t1 (start N vs) H _ J hst) (fun fl t2 h2 => ?_) fun _ _ h2 => h2
  cases fl with
  | next =>
    obtain ⟨σ2, H2, J2, q2⟩ := h2
    exact back (x := V.non) (u := Value.none) J2 rfl q2
  | ret u =>
    obtain ⟨x, σ2, H2, J2, rx, q2⟩ := h2
    exact back J2 rx q2
  | cont =>
    obtain ⟨_, _, _, q2⟩ := h2
    exact q2.elim
  | brk =>
    obtain ⟨_, _, _, q2⟩ := h2
    exact q2.elim
theorem funD_okG {P : Program} {w : World} {K : PySem.W.Frag} {mg : Str → Option Value} {base : Heap} {x qual : Str} {params : Arguments} {body : List Stmt} {scope : Scope} {dvs : List V} {kws : List (Str × V)} {f : Addr} {fd : FuncData} {CX : CXT} {N ps : List Str} {k : Nat} {sp : Sp}
    (F : FunD K x qual params body scope dvs kws f fd) (S : FnScope N ps scope) (len : ∀ vs H Q E, sp vs H Q E → vs.length = ps.length)
    (hbody : ∀ (cdv : Value) (A : Around) (outer : List Env) (s : Shared) (H : Hp) (vs : List V) (Q : VK) (E : XK), RoomG k (A.deeper (envOfC qual scope s.heap.objs.size f cdv)) → sp vs H Q E →
      ∃ t, PSs (cxOf CX P w K mg base N qual scope f cdv A outer s H E) body t ∧ t { nx := fun _ H' => Q .non H', rt := Q } (start N vs) H) : FnG P w K mg base CX (k + 1) f fd ps sp := by
  obtain ⟨oc, od, dV, kV, doc, pm, an, cdv, ct, osl, rfl, look, cd, _, _⟩ := F.ex
  exact fn_ofG look cd S len (hbody cdv)
end G
end
section
set_option Elab.async false
set_option linter.all false
set_option maxRecDepth 100000
set_option maxHeartbeats 1000000
/-! G: calls of the text's own defs. -/
namespace G
open PySem PySem.Spec PyProof.Rows L2
section
variable {Γ : Ge} {cs : List Cau} {p : En0} {F F' : Hp} {ι ι' : List Addr} {e : En} {m m' : Mu} {σ : St} {H H' : Hp}
/-- the state that a callee begins with -/
theorem Sim.start (S : Sim Γ cs p F ι e m σ H) : Sim Γ [] ⟨H, F, ι, none⟩ F ι [] m [] H := by
  obtain ⟨as, r, nd, fr, ow⟩ := S.env
  exact ⟨S.sub, Ext.refl F ι, S.cel, ⟨[], .nil, by simpa using (List.nodup_append.mp nd).1, fun a ha => fr a (List.mem_append_left _ (by simpa using ha)), fun a ha => by simp at ha⟩, fun a o h _ => .inl h, fun a o h => .inl h, fun a h => .inl h, fun a h => by cases h⟩
/-- .. and what it leaves, to its caller -/
theorem Sim.back (S : Sim Γ cs p F ι e m σ H) (T : Sim Γ [] ⟨H, F, ι, none⟩ F' ι' [] m' [] H') : Sim Γ cs p F' ι' e m' σ H' := by
  obtain ⟨as, r, nd, fr, ow⟩ := S.env
  obtain ⟨bs, r2, nd2, fr2, _⟩ := T.env
  cases r2
  have ndA := List.nodup_append.mp nd
  have notin : ∀ a ∈ as, a ∉ ι := fun a ha hi => ndA.2.2 a hi a ha rfl
  have freeF' : ∀ a ∈ as, F' a = none := fun a ha => by
    cases q : F' a with
    | none => rfl
    | some o =>
      rcases T.newF a o q with z | z
      · have z : F a = some o := z
        rw [fr a (List.mem_append_right _ ha)] at z; cases z
      · obtain ⟨u, hu⟩ := r.there a ha
        have z : H a = none := z
        rw [hu] at z; cases z
  have same : ∀ a ∈ as, ∀ o, H a = some o → H' a = some o := fun a ha o h => by
    rcases T.keep a o h (notin a ha) with z | ⟨ob, _, _, z⟩
    · exact z
    · rw [freeF' a ha] at z; cases z
  refine ⟨T.sub, S.ext.trans T.ext, T.cel, ⟨as, r.mono T.ext same, ?_, fun a ha => ?_, ow⟩, fun a o h hn => ?_, fun a o h => ?_, fun a h => ?_, S.slf⟩
  · refine List.nodup_append.mpr ⟨by simpa using nd2, ndA.2.1, fun a ha b hb z => ?_⟩
    subst z
    rcases T.newC a ha with q | q
    · exact notin a hb q
    · obtain ⟨u, hu⟩ := r.there a hb
      have q : H a = none := q
      rw [hu] at q; cases q
  · rcases List.mem_append.mp ha with z | z
    · exact fr2 a (by simpa using z)
    · exact freeF' a z
  · have hi : a ∉ ι := fun hi => by
      rcases S.newC a hi with z | z
      · exact hn z
      · rw [h] at z; cases z
    rcases S.keep a o h hn with z | ⟨ob, z, l, f⟩
    · rcases T.keep a o z hi with y | ⟨ob, y, l, f⟩
      · exact .inl y
      · exact .inr ⟨ob, y, l, f⟩
    · rcases T.keep a _ z hi with y | ⟨ob2, _, l2, _⟩
      · exact .inr ⟨ob, y, l, T.ext.fr _ _ f⟩
      · cases l2
  · rcases T.newF a o h with z | z
    · exact S.newF a o z
    · exact .inr (S.freeP z)
  · rcases T.newC a h with z | z
    · exact S.newC a z
    · exact .inr (S.freeP z)
end
/-- what a callee promises of its answer -/
def KR (Γ : Ge) (p : En0) (F : Hp) (ι : List Addr) (r : R0) (Q : VK) (E : XK) : Prop := match r with
  | .ok d m' => ∀ v F' ι' H', Sim Γ [] p F' ι' [] m' [] H' → Ext F ι F' ι' → Rep Γ F' ι' v d → Q v H'
  | .ex c fs m' => ∀ dd F' ι' H', Sim Γ [] p F' ι' [] m' [] H' → Ext F ι F' ι' → RepX Γ F' ι' fs dd → E (.ref (Γ.xad c)) dd H'
  | .no => False
/-- the promise of the def number f at depth n -/
def spF (Γ : Ge) (n f : Nat) : Sp := fun vs H Q E => ∃ F ι ds m, Sim Γ [] ⟨H, F, ι, none⟩ F ι [] m [] H ∧ Reps Γ F ι vs ds ∧ KR Γ ⟨H, F, ι, none⟩ F ι (run Γ.pg n f ds m) Q E
/-- .. of the __init__ of the class number c: at a new instance -/
def spI (Γ : Ge) (n c : Nat) : Sp := fun vs H Q E => ∃ H1 F ι ds m x dx ws, vs = .ref x :: ws ∧ H = upd (upd H1 dx (.own x)) x (.ins (Γ.cad c) dx []) ∧ H1 x = none ∧ H1 dx = none ∧ dx ≠ x ∧
  Sim Γ [] ⟨H1, F, ι, none⟩ F ι [] m [] H1 ∧ Reps Γ F ι ws ds ∧ KR Γ ⟨H1, F, ι, none⟩ F ι (mk Γ.pg n c ds m) (fun v H' => v = .ref x → Q .non H') E
/-- a def of the text -/
structure FnA (Γ : Ge) (n : Nat) (a : Addr) (fd : FuncData) (ps : List Str) (sp : Sp) : Prop where
  ok : FnG Γ.prog Γ.w Γ.K Γ.mg Γ.base (L2.CX Γ.prog Γ.w) n a fd ps sp
  kp : PySem.W.keepIn Γ.K (.ref a) = true
  fn : PySem.W.isFn Γ.K (.ref a) = true
/-- how the nw values that are written in a call come to the parameters: the last ones are the keywords' -/
def BindF (Γ : Ge) (fd : FuncData) (ps : List Str) (nw : Nat) (ks : List Str) (ar : List Ar) : Prop :=
  ∀ (s : Shared) (xs : List Value) (vs : List V) (F : Hp) (ι : List Addr) (ds qs : List D), Γ.K.In s.heap → Vals vs xs → Reps Γ F ι vs ds → arrN nw ds ar = some qs → qs.length = ps.length →
    ∃ ys ws, BindsTo s fd ⟨xs.take (xs.length - ks.length), ks.zip (xs.drop (xs.length - ks.length))⟩ (ps.zip ys) ∧ Vals ws ys ∧ Reps Γ F ι ws qs
/-- the i-th, the next one .. : each parameter as it is written -/
def arN (n : Nat) : List Ar := (List.range n).map .w
theorem arr_range (ds : List D) : ∀ (n k : Nat), k + n = ds.length → arr ds ((List.range' k n).map .w) = some (ds.drop k)
  | 0, k, h => by
    rw [List.range'_zero, List.map_nil, List.drop_of_length_le (by omega)]
    rfl
  | n + 1, k, h => by
    rw [List.range'_succ, List.map_cons]
    show ((ds[k]?).bind fun d => (arr ds _).map (d :: ·)) = _
    rw [arr_range ds n (k + 1) (by omega)]
    have hk : k < ds.length := by omega
    rw [List.getElem?_eq_getElem hk, List.drop_eq_getElem_cons hk]
    rfl
theorem arr_arN (ds : List D) : arr ds (arN ds.length) = some ds := by
  unfold arN
  rw [List.range_eq_range']
  have := arr_range ds ds.length 0 (by omega)
  rwa [List.drop_zero] at this
theorem bindF_plain {Γ : Ge} {fd : FuncData} {ps : List Str} (h : Binds Γ.K fd ps []) : BindF Γ fd ps ps.length [] (arN ps.length) := by
  intro s xs vs F ι ds qs hK rv rd ha hl
  unfold arrN at ha
  split at ha
  · rename_i e1
    rw [← e1, arr_arN] at ha
    cases ha
    have l1 := rv.length
    have l2 := rd.length
    refine ⟨xs, vs, ?_, rv, rd⟩
    have b := h s xs hK (by rw [List.append_nil]; omega)
    rw [List.append_nil] at b
    simpa using b
  · cases ha
/-- .. behind an object that comes first -/
def BindM (Γ : Ge) (fd : FuncData) (ps : List Str) (nw : Nat) (ks : List Str) (ar : List Ar) : Prop :=
  ∀ (s : Shared) (u : Value) (xs : List Value) (vs : List V) (F : Hp) (ι : List Addr) (ds qs : List D), Γ.K.In s.heap → Vals vs xs → Reps Γ F ι vs ds → arrN nw ds ar = some qs → qs.length + 1 = ps.length →
    ∃ ys ws, BindsTo s fd ⟨u :: xs.take (xs.length - ks.length), ks.zip (xs.drop (xs.length - ks.length))⟩ (ps.zip (u :: ys)) ∧ Vals ws ys ∧ Reps Γ F ι ws qs
theorem bindM_plain {Γ : Ge} {fd : FuncData} {ps : List Str} {n : Nat} (h : Binds Γ.K fd ps []) (hn : n + 1 = ps.length) : BindM Γ fd ps n [] (arN n) := by
  intro s u xs vs F ι ds qs hK rv rd ha hl
  unfold arrN at ha
  split at ha
  · rename_i e1
    rw [← e1, arr_arN] at ha
    cases ha
    have l1 := rv.length
    have l2 := rd.length
    refine ⟨xs, vs, ?_, rv, rd⟩
    have b := h s (u :: xs) hK (by rw [List.append_nil, List.length_cons]; omega)
    rw [List.append_nil] at b
    simpa using b
  · cases ha
section
variable {Γ : Ge} {N : List Str} {sc : Scope} {cs : List Cau} {W : WX} {hot : Bool} {k : Nat} {X : Cx} {pins : List (Addr × Obj)} {σ : St} {H : Hp} {s : Shared} {Q : VK} {xs : List Value} {vs : List V} {ds qs : List D}
  {p : En0} {F : Hp} {ι : List Addr} {e : En} {m : Mu} {a : Addr} {fd : FuncData} {ps ks : List Str} {n nw : Nat} {ar : List Ar} {sp : Sp}
theorem room_le {j k : Nat} (h : j ≤ k) {A : Around} (r : Room k A) : Room j A := r.mono h
/-- a def is called with values -/
theorem run_own (C : Here Γ N sc cs W false k X) (Fa : FnA Γ n a fd ps sp) (hn : n ≤ k) (hb : BindF Γ fd ps nw ks ar) (I : Inv X pins σ H s) (rv : Vals vs xs) (rd : Reps Γ F ι vs ds) (ha : arrN nw ds ar = some qs) (hl : qs.length = ps.length)
    (h : ∀ ws, Reps Γ F ι ws qs → sp ws H Q (WE W σ)) :
    wpAny (model X.prog X.w) X.A (call (.ref a) (xs.take (xs.length - ks.length)) (ks.zip (xs.drop (xs.length - ks.length)))) (EP X pins σ Q) X.xe s := by
  obtain ⟨ys, ws, b, rw', rq⟩ := hb s xs vs F ι ds qs (by rw [← C.K]; exact I.kIn) rv rd ha hl
  have hF : FnG X.prog X.w X.K X.mg X.base (L2.CX X.prog X.w) n a fd ps sp := by rw [C.prog, C.w, C.K, C.mg, C.base]; exact Fa.ok
  refine wpAny_call (codeAny_mono (hF.run X.A X.stack s H _ ys ws Q (WE W σ) ⟨(C.room rfl).mono hn, C.gds⟩ I.env0 b rw' (h ws rq)) fun r s' hq => ?_)
  cases r with
  | error x => exact passAt C.tk σ pins H s x s' I hq
  | ok fl =>
    cases fl with
    | ret u => exact I.after hq
    | next => exact hq.elim
    | brk => exact hq.elim
    | cont => exact hq.elim
/-- .. from the evaluator's answer -/
theorem kr_of {f : Nat} {Q : VK} {r : R0} (S : Sim Γ cs p F ι e m σ H) (h : K1 Γ cs p F ι σ W (r.lift e) fun d F' ι' _ _ H' => ∀ v, Rep Γ F' ι' v d → Q v H') : KR Γ ⟨H, F, ι, none⟩ F ι r Q (WE W σ) := by
  cases r with
  | ok d m' => exact fun v F' ι' H' T x r => h F' ι' H' (S.back T) x v r
  | ex c fs m' => exact fun dd F' ι' H' T x r => h dd F' ι' H' (S.back T) x r
  | no => exact h
theorem spF_of {f : Nat} (S : Sim Γ cs p F ι e m σ H) (r : Reps Γ F ι vs ds) (h : K1 Γ cs p F ι σ W ((run Γ.pg n f ds m).lift e) fun d F' ι' _ _ H' => ∀ v, Rep Γ F' ι' v d → Q v H') : spF Γ n f vs H Q (WE W σ) :=
  ⟨F, ι, ds, m, S.start, r, kr_of (f := f) S h⟩
end
end G
end
section
set_option Elab.async false
set_option linter.all false
set_option maxRecDepth 100000
set_option maxHeartbeats 1000000
/-! G: each form of the core language is what the text's form does: expressions. -/
namespace G
open PySem PySem.Spec PyProof.Rows L2
/-- the text's defs at depth n -/
structure Lib (Γ : Ge) (n : Nat) : Prop where
  fn : ∀ (f : Nat) (t : Fn), Γ.pg.fns[f]? = some t → FnA Γ (3 * n) (Γ.fad f) (Γ.fdd f) (Γ.fps f) (spF Γ n f)
  mks : ∀ (c : Nat) (k : Cl), Γ.pg.cls[c]? = some k → FnA Γ (3 * n) (Γ.fad k.init) (Γ.fdd k.init) (Γ.fps k.init) (spI Γ n c)
/-- what the top has left -/
structure Tops (Γ : Ge) : Prop where
  np : ∀ (f : Nat) (t : Fn), Γ.pg.fns[f]? = some t → t.np = (Γ.fps f).length
  bind : ∀ (i : Nat) (fo : Fo), Γ.pg.fos[i]? = some fo → BindF Γ (Γ.fdd fo.f) (Γ.fps fo.f) fo.nw fo.ks fo.ar
  mbind : ∀ (i : Nat) (fo : Fo) (k : Cl), Γ.pg.mfos[i]? = some fo → Γ.pg.cls[fo.f]? = some k → BindM Γ (Γ.fdd k.init) (Γ.fps k.init) fo.nw fo.ks fo.ar
  plain : ∀ (c : Nat) (k : Cl) (m : Str) (f : Nat), Γ.pg.cls[c]? = some k → (m, f) ∈ k.meths ++ k.props → Binds Γ.K (Γ.fdd f) (Γ.fps f) []
  cls : ∀ (c : Nat) (k : Cl), Γ.pg.cls[c]? = some k → Cls Γ.K (Γ.cad c) ∧ PySem.W.selfFirst Γ.K (Γ.cad c) = true ∧ PySem.W.findIn Γ.K (.ref (Γ.cad c)) "__class__" = some (some (.builtin "object.__class__")) ∧ PySem.W.mroIn Γ.K (Γ.cad c) (.type "object") = some true
  mks : ∀ (c : Nat) (k : Cl), Γ.pg.cls[c]? = some k → Mk Γ.K (Γ.cad c) (Γ.fad k.init)
  noat : ∀ (c : Nat) (k : Cl) (f : Str), Γ.pg.cls[c]? = some k → f ∈ k.flds → NoAttr Γ.K (Γ.cad c) f
  meth : ∀ (c : Nat) (k : Cl) (m : Str) (f : Nat), Γ.pg.cls[c]? = some k → (m, f) ∈ k.meths → Meth Γ.K (Γ.cad c) m (Γ.fad f)
  kit : ∀ (c : Nat) (k : Cl), Γ.pg.cls[c]? = some k → ∀ T ∈ ["NoneType", "bool", "int", "str", "tuple", "list", "dict"], PySem.W.kitOne Γ.K (.type T) (.ref (Γ.cad c)) = some false ∧ PySem.W.kitOne Γ.K (.ref (Γ.cad c)) (.type T) = some false
  kitc : ∀ (c c' : Nat) (k k' : Cl), Γ.pg.cls[c]? = some k → Γ.pg.cls[c']? = some k' → PySem.W.kitOne Γ.K (.ref (Γ.cad c)) (.ref (Γ.cad c')) = some (c == c')
  noNe : ∀ (c : Nat) (k : Cl), Γ.pg.cls[c]? = some k → PySem.W.findIn Γ.K (.ref (Γ.cad c)) "__ne__" = some (some (.builtin "object.__ne__"))
  gl : ∀ (i : Nat) (d : D), Γ.pg.gl[i]? = some d → ∃ v u, Γ.mg (Γ.tb.g i) = some u ∧ RelV v u ∧ Rep Γ nowhere [] v d
  fkp : ∀ (i : Nat) (fo : Fo), Γ.pg.fos[i]? = some fo → PySem.W.keepIn Γ.K (.ref (Γ.fad fo.f)) = true
  fmg : ∀ (i : Nat) (fo : Fo), Γ.pg.fos[i]? = some fo → Γ.mg (Γ.tb.f fo.f) = some (.ref (Γ.fad fo.f))
  cmg : ∀ (c : Nat) (k : Cl), Γ.pg.cls[c]? = some k → Γ.mg (Γ.tb.c c) = some (.ref (Γ.cad c))
  xmg : ∀ (c : Nat) (k : Exc), Γ.pg.exc[c]? = some k → Γ.mg (Γ.tb.x c) = some (.ref (Γ.xad c))
  blt : ∀ x : Str, x ∈ (["len", "abs", "int", "bool", "list", "tuple", "all", "any", "sum", "sorted", "repr", "max", "min", "str", "ord", "set", "isinstance", "range", "enumerate", "zip", "dict", "ValueError"] : List Str) → Γ.mg x = none
  prop : ∀ (c : Nat) (k : Cl) (m : Str) (f : Nat), Γ.pg.cls[c]? = some k → (m, f) ∈ k.props → ∃ p, PropOf Γ.K (Γ.cad c) m p (Γ.fad f)
  gget : PySem.W.specialIn Γ.K (.builtin "object.__class__") "__get__" = some (some (.builtin "getset_descriptor.__get__"))
  gtak : PySem.W.takesIn Γ.K (.builtin "object.__class__") = some true
abbrev parN (Γ : Ge) (n : Nat) : Par := Γ.pg.par (run Γ.pg n) (mk Γ.pg n)
section
variable {Γ : Ge} {N : List Str} {sc : Scope} {cs : List Cau} {W : WX} {hot : Bool} {k : Nat} {X : Cx} {P : Par} {a b c : C} {ea eb ec : Expr} {pos : Pos}
/-! ### operators -/
theorem g_binD (C : Here Γ N sc cs W hot k X) {op : Operator} {pins : List (Addr × Obj)} {s : Shared} {σ : St} {H : Hp} {x y : V} {v u : Value} {Q : VK} {p : En0} {F : Hp} {ι : List Addr} {e : En} {m : Mu} {d1 d2 : D}
    (I : Inv X pins σ H s) (rx : RelV x v) (ry : RelV y u) (S : Sim Γ cs p F ι e m σ H) (r1 : RdR Γ F ι H x d1) (r2 : RdR Γ F ι H y d2) (q : K1 Γ cs p F ι σ W (.opt (binD op d1 d2) e m) fun d F' ι' _ _ H' => ∀ v, Rep Γ F' ι' v d → Q v H') :
    wpAny (model X.prog X.w) X.A (binaryOp op v u) (EP X pins σ Q) X.xe s := by
  obtain ⟨d, hd, q⟩ := q.optS
  exact op_bin C.K op pins s σ H x y v u Q I rx ry ⟨cs, p, F, ι, e, m, σ, d1, d2, d, S, r1, r2, hd, fun v F' H' S' x r => q F' ι H' S' x v r⟩
theorem meth_mem {P : Par} {c f : Nat} {m : Str} (h : P.meth c m = some f) : ∃ k, P.cls[c]? = some k ∧ (m, f) ∈ k.meths := by
  obtain ⟨k, hk, h⟩ := Option.bind_eq_some_iff.mp h
  exact ⟨k, hk, mem_of_lookup h⟩
theorem prop_mem {P : Par} {c f : Nat} {m : Str} (h : P.prop c m = some f) : ∃ k, P.cls[c]? = some k ∧ (m, f) ∈ k.props := by
  obtain ⟨k, hk, h⟩ := Option.bind_eq_some_iff.mp h
  exact ⟨k, hk, mem_of_lookup h⟩
/-- an instance, for the library's rules of own operators -/
theorem inst_at {pins : List (Addr × Obj)} {s : Shared} {σ : St} {H : Hp} (I : Inv X pins σ H s) {a dx D : Addr} {xs : List (Str × V)} (h : H a = some (.ins D dx xs)) : ∃ od, PySem.W.InstAt s.heap a (PySem.W.instObj D dx) D (some od) := by
  obtain ⟨mA, J, _⟩ := ins_get I.hok h
  obtain ⟨od, J, _⟩ := J.look
  exact ⟨od, J⟩
/-- a method of the text called with its object and values, all given -/
theorem run_meth {n : Nat} (C : Here Γ N sc cs W hot (3 * n + 2) X) (L : Lib Γ n) (T : Tops Γ) {pins : List (Addr × Obj)} {s : Shared} {σ : St} {H : Hp} {Q : VK} {xs : List Value} {vs : List V} {ds : List D} {p : En0} {F : Hp} {ι : List Addr} {e : En} {m : Mu} {f c : Nat} {kl : Cl} {nm : Str}
    (I : Inv X pins σ H s) (rv : Vals vs xs) (S : Sim Γ cs p F ι e m σ H) (rd : Reps Γ F ι vs ds) (hk : Γ.pg.cls[c]? = some kl) (hm : (nm, f) ∈ kl.meths ++ kl.props)
    (q : K1 Γ cs p F ι σ W (((parN Γ n).call f ds m).lift e) fun d F' ι' _ _ H' => ∀ v, Rep Γ F' ι' v d → Q v H') :
    wpAny (model X.prog X.w) X.A (call (.ref (Γ.fad f)) xs) (EP X pins σ Q) X.xe s := by
  have q : K1 Γ cs p F ι σ W ((run Γ.pg n f ds m).lift e) fun d F' ι' _ _ H' => ∀ v, Rep Γ F' ι' v d → Q v H' := q
  cases n with
  | zero => exact q.elim
  | succ n =>
    cases ht : Γ.pg.fns[f]? with
    | none => simp only [run, ht] at q; exact q.elim
    | some t =>
      have hl : ds.length = t.np := by
        by_cases z : ds.length = t.np
        · exact z
        · simp only [run, ht, if_neg z] at q; exact q.elim
      obtain rfl := C.cool (by omega)
      have b := run_own C (L.fn f t ht) (by omega) (bindF_plain (T.plain c kl nm f hk hm)) (Q := Q) I rv rd (qs := ds) (by rw [← T.np f t ht, ← hl]; unfold arrN; rw [if_pos rfl, arr_arN]) (by rw [hl, T.np f t ht])
        (fun ws rw' => spF_of S rw' q)
      simpa using b
/-- .. one level of C code deeper -/
theorem run_meth1 {n : Nat} (C : Here Γ N sc cs W hot (3 * n + 2) X) (L : Lib Γ n) (T : Tops Γ) {pins : List (Addr × Obj)} {s : Shared} {σ : St} {H : Hp} {Q : VK} {xs : List Value} {vs : List V} {ds : List D} {p : En0} {F : Hp} {ι : List Addr} {e : En} {m : Mu} {f c : Nat} {kl : Cl} {nm : Str}
    (I : Inv X pins σ H s) (rv : Vals vs xs) (S : Sim Γ cs p F ι e m σ H) (rd : Reps Γ F ι vs ds) (hk : Γ.pg.cls[c]? = some kl) (hm : (nm, f) ∈ kl.meths ++ kl.props)
    (q : K1 Γ cs p F ι σ W (((parN Γ n).call f ds m).lift e) fun d F' ι' _ _ H' => ∀ v, Rep Γ F' ι' v d → Q v H') :
    wpAny (model X.prog X.w) X.A.in1 (call (.ref (Γ.fad f)) xs) (EP X pins σ Q) X.xe s := by
  have q : K1 Γ cs p F ι σ W ((run Γ.pg n f ds m).lift e) fun d F' ι' _ _ H' => ∀ v, Rep Γ F' ι' v d → Q v H' := q
  cases n with
  | zero => exact q.elim
  | succ n =>
    cases ht : Γ.pg.fns[f]? with
    | none => simp only [run, ht] at q; exact q.elim
    | some t =>
      have hl : ds.length = t.np := by
        by_cases z : ds.length = t.np
        · exact z
        · simp only [run, ht, if_neg z] at q; exact q.elim
      obtain rfl := C.cool (by omega)
      have Fa := L.fn f t ht
      obtain ⟨ys, ws, b, rw', rq⟩ := (bindF_plain (T.plain c kl nm f hk hm)) s xs vs F ι ds ds (by rw [← C.K]; exact I.kIn) rv rd (by rw [← T.np f t ht, ← hl]; unfold arrN; rw [if_pos rfl, arr_arN]) (by rw [hl, T.np f t ht])
      have hF : FnG X.prog X.w X.K X.mg X.base (L2.CX X.prog X.w) (3 * (n + 1)) (Γ.fad f) (Γ.fdd f) (Γ.fps f) (spF Γ (n + 1) f) := by rw [C.prog, C.w, C.K, C.mg, C.base]; exact Fa.ok
      have b2 : BindsTo s (Γ.fdd f) ⟨xs, []⟩ ((Γ.fps f).zip ys) := by simpa using b
      refine wpAny_call (codeAny_mono (hF.run X.A.in1 X.stack s H _ ys ws Q (WE W σ) (RoomG.in1 ⟨(C.room rfl).mono (by omega), C.gds⟩) I.env0.in1 b2 rw' (spF_of S rq q)) fun r s' hq => ?_)
      cases r with
      | error x => exact passAt C.tk σ pins H s x s' I hq
      | ok fl =>
        cases fl with
        | ret u => exact I.after hq
        | next => exact hq.elim
        | brk => exact hq.elim
        | cont => exact hq.elim
theorem dun_is {op : Operator} {nm : Str} (h : dun op = some nm) : PySem.dunder op.info.2 = nm := by
  cases op <;> first | (simp [dun] at h; done) | (simp only [dun, Option.some.injEq] at h; rw [← h]; decide +kernel)
/-- what an own operator hands back is no NotImplemented -/
theorem cmpBack_of {pins : List (Addr × Obj)} {σ : St} {Q : VK} {u : Value} {s : Shared} (h : EP X pins σ Q u s) : PySem.W.CmpBack (EP X pins σ Q) u s := by
  obtain ⟨v, H, I, r, q⟩ := h
  have h : EP X pins σ Q u s := ⟨v, H, I, r, q⟩
  cases v with
  | non => cases r; exact h
  | bl b => cases r; exact h
  | int b => obtain ⟨t, rfl⟩ := r; exact h
  | str b => obtain ⟨t, rfl⟩ := r; exact h
  | byt b => obtain ⟨t, rfl⟩ := r; exact h
  | flt b => obtain ⟨t, rfl⟩ := r; exact h
  | ref b => cases r; exact h
  | ty b => cases r; exact h
theorem bin_run {n : Nat} (C : Here Γ N sc cs W hot (3 * n + 2) X) (L : Lib Γ n) (T : Tops Γ) {op : Operator} {pins : List (Addr × Obj)} {s : Shared} {σ : St} {H : Hp} {x y : V} {v u : Value} {Q : VK} {p : En0} {F : Hp} {ι : List Addr} {e : En} {m : Mu} {d1 d2 o1 o2 : D}
    (I : Inv X pins σ H s) (rx : RelV x v) (ry : RelV y u) (S : Sim Γ cs p F ι e m σ H) (r1 : Rep Γ F ι x d1) (r2 : Rep Γ F ι y d2) (h1 : RdR Γ F ι H x o1) (h2 : RdR Γ F ι H y o2)
    (q : K1 Γ cs p F ι σ W ((parN Γ n).bin op d1 d2 (some o1) (some o2) e m) fun d F' ι' _ _ H' => ∀ v, Rep Γ F' ι' v d → Q v H') :
    wpAny (model X.prog X.w) X.A (binaryOp op v u) (EP X pins σ Q) X.xe s := by
  unfold Par.bin at q
  split at q
  · rename_i c fs oy e1 e2
    cases e1
    cases e2
    split at q
    · rename_i f hf
      obtain ⟨nm, hn, hf⟩ := Option.bind_eq_some_iff.mp hf
      obtain ⟨kl, hk, hm⟩ := meth_mem hf
      split at q
      · rename_i c' fs'
        split at q
        · rename_i ec
          subst ec
          obtain ⟨a1, dx1, xs1, rfl, ha1, _⟩ := h1.ins S
          obtain ⟨a2, dx2, xs2, rfl, ha2, _⟩ := h2.ins S
          cases rx
          cases ry
          obtain ⟨od1, J1⟩ := inst_at I ha1
          obtain ⟨od2, J2⟩ := inst_at I ha2
          obtain ⟨mm, fr⟩ := I.fr
          have M := T.meth c' kl nm f hk hm
          refine PySem.W.binop_K (K := Γ.K) fr (by rw [← C.K]; exact I.ok.mod.kin) J1 J2.type (T.cls c' kl hk).2.1 (by rw [dun_is hn]; exact M.at_) M.fn ?_
          refine thn (run_meth C L T (Q := Q) (vs := [.ref a1, .ref a2]) I (.cons rfl (.cons rfl .nil)) S (.cons r1 (.cons r2 .nil)) hk (List.mem_append_left _ hm) q) fun r s' hr => cmpBack_of hr
        · exact q.elim
      · exact q.elim
    · exact q.elim
  · rename_i e1 e2
    cases e1
    cases e2
    exact g_binD C I rx ry S h1 h2 q
  · exact q.elim
theorem g_bin {n : Nat} (C : Here Γ N sc cs W hot (3 * n + 2) X) (L : Lib Γ n) (T : Tops Γ) {op : Operator} (na : ∀ i, a ≠ .pk i) (nb : ∀ i, b ≠ .pk i) (ha : PE X ea (tE Γ cs W (evE (parN Γ n) a))) (hb : PE X eb (tE Γ cs W (evE (parN Γ n) b))) :
    PE X (.BinOp ea op eb pos) (tE Γ cs W (evE (parN Γ n) (.bin op a b))) := by
  refine ⟨fun pins s σ H Q I h => ?_⟩
  obtain ⟨p, F, ι, e, m, S, q⟩ := h
  have q : K1 Γ cs p F ι σ W ((evE (parN Γ n) a e m).bind _) _ := q
  refine wpAny_BinOp (binT ha hb I (R := fun x y H2 => ∃ F ι e m d1 d2, Sim Γ cs p F ι e m σ H2 ∧ Rep Γ F ι x d1 ∧ Rep Γ F ι y d2 ∧
      K1 Γ cs p F ι σ W ((parN Γ n).bin op d1 d2 (objOf a d1 e m) (objOf b d2 e m) e m) fun d F' ι' _ _ H' => ∀ v, Rep Γ F' ι' v d → Q v H') ?_ fun v u s2 x y H2 I2 rx ry ⟨F, ι, e, m, d1, d2, S, r1, r2, q⟩ => ?_)
  · refine ⟨p, F, ι, e, m, S, q.bind.imp fun d1 F1 ι1 e1 m1 H1 S1 x1 q1 v1 r1 => ⟨p, F1, ι1, e1, m1, S1, ?_⟩⟩
    exact K1.imp (K1.bind q1) fun d2 F2 ι2 e2 m2 H2 S2 x2 q2 v2 r2 => ⟨F2, ι2, e2, m2, d1, d2, S2, r1.mono x2, r2, q2⟩
  · have oa : objOf a d1 e m = some (deref m d1) := by cases a <;> first | rfl | exact absurd rfl (na _)
    have ob : objOf b d2 e m = some (deref m d2) := by cases b <;> first | rfl | exact absurd rfl (nb _)
    rw [oa, ob] at q
    exact bin_run C L T I2 rx ry S r1 r2 (S.deref r1) (S.deref r2) q
theorem dunC_is {op : CmpOp} {nm : Str} (h : dunC op = some (nm, false)) : (cmpInfo op).2.1 = nm ∧ ∀ v u, compareOp op v u = richCompare op v u := by
  cases op <;> first | (simp [dunC] at h; done) | (simp only [dunC, Option.some.injEq, Prod.mk.injEq] at h; exact ⟨by rw [← h.1]; decide +kernel, fun _ _ => rfl⟩)
theorem dunC_ne {op : CmpOp} {nm : Str} (h : dunC op = some (nm, true)) : op = .NotEq ∧ nm = "__eq__" := by
  cases op <;> first | (simp [dunC] at h; done) | (simp only [dunC, Option.some.injEq, Prod.mk.injEq] at h; exact ⟨rfl, h.1.symm⟩)
/-- a != b by the __eq__ of its own class -/
theorem ne_of_eq {M : Program} {w : World} {A : Around} {E : Value → Shared → Prop} {s : Shared} {K : PySem.W.Frag} {x y C f : Addr} {ox oy : Obj} {od oe : Option Obj} {Q : Value → Shared → Prop} (hu : A.units + 1 < cLine) (X : K.In s.heap) (I : PySem.W.InstAt s.heap x ox C od) (J : PySem.W.InstAt s.heap y oy C oe)
    (hm : PySem.W.mroIn K C (.type "object") = some true) (hn : PySem.W.findIn K (.ref C) "__ne__" = some (some (.builtin "object.__ne__"))) (hs : PySem.W.findIn K (.ref C) "__eq__" = some (some (.ref f))) (hf : PySem.W.isFn K (.ref f) = true)
    (h : wpAny (model M w) A.in1 (call (.ref f) [.ref x, .ref y]) (fun r s' => ∃ b, r = .bool b ∧ Q (.bool (!b)) s') E s) : wpAny (model M w) A (compareOp .NotEq (.ref x) (.ref y)) Q E s := by
  have entry : wpAny (model M w) A.in1 (Builtin.«object.__ne__» ⟨[.ref x, .ref y], []⟩) (fun r s' => ∃ v, r = .done (.ret v) ∧ ∃ b, v = .bool b ∧ Q (.bool b) s') E s := by
    unfold Builtin.«object.__ne__»
    repeat (first
      | with_reducible refine wpAny_cRoomFor hu ?_
      | (refine wpAny_bind (m := callSpecialIfBound? (.ref x) (Str.ofString "__eq__") [.ref y]) (PySem.W.ifBound_K X I hs hf (wpAny_mono h (fun r s' hr => by
            obtain ⟨b, rfl, hq⟩ := hr
            repeat (first | exact ⟨_, rfl, _, rfl, hq⟩ | exact wpAny_pure ⟨_, rfl, _, rfl, hq⟩ | (refine wpAny_bind (m := truthy (.bool _)) (wpAny_truthy_bool ?_)) | wp_step)) fun _ _ e => e)))
      | wp_step)
  have callNe : wpAny (model M w) A (call (.builtin "object.__ne__") [.ref x, .ref y]) (fun v s' => ∃ b, v = .bool b ∧ Q (.bool b) s') E s := by
    refine wpAny_call (codeAny_call_builtin F.cmp_object.ne.plain F.cmpEntry_ne (PySem.W.check_slot F.cmpKind_ne F.cmpSplit_ne (I.type.andThen (PySem.W.looks_mroIn X hm)) (F.cmpArgs_ne _ _) (wpAny_mono entry (fun r s' hr => ?_) fun _ _ e => e)))
    obtain ⟨v, rfl, b, rfl, hq⟩ := hr
    first | exact ⟨b, rfl, hq⟩ | exact ⟨_, rfl, b, rfl, hq⟩
  have bound : wpAny (model M w) A (callSpecialIfBound? (.ref x) "__ne__" [.ref y]) (fun r s' => ∃ b, r = some (.bool b) ∧ Q (.bool b) s') E s := by
    have fin : wpAny (model M w) A (call (.builtin "object.__ne__") ([.ref x] ++ [.ref y]) >>= fun v => pure (some v)) (fun r s' => ∃ b, r = some (.bool b) ∧ Q (.bool b) s') E s :=
      wpAny_bind (wpAny_mono callNe (fun v s' ⟨b, e, q⟩ => wpAny_pure ⟨b, by rw [e], q⟩) fun _ _ e => e)
    simp only [callSpecialIfBound?, bindSpecialIfBound?]
    refine wpAny_holding (wpAny_bind (wpAny_bind (wpAny_bind (I.type.here ((PySem.W.looks_findIn X hn).here ?_)))))
    refine wpAny_bind (wpAny_askSetting (wpAny_ite ?_))
    split
    · exact wpAny_bind (wpAny_of_eq (F.cmp_object.ne.bind _) (wpAny_pure (by exact fin)))
    · exact wpAny_tryCatch (wpAny_bind (wpAny_of_eq (F.cmp_object.ne.bind _) (wpAny_pure (by exact fin))))
  show wpAny (model M w) A (richCompare .NotEq (.ref x) (.ref y)) Q E s
  unfold richCompare
  simp only [oneThing_ref]
  refine wpAny_holding (wpAny_bind (wpAny_cRoomFor (Nat.lt_of_succ_lt hu) ?_))
  rw [cmpInfo_NotEq]
  dsimp only
  refine wpAny_bind (I.type.here (wpAny_bind (J.type.here ?_)))
  rw [show (Value.ref C != Value.ref C) = false from by simp]
  simp only [Bool.false_eq_true, if_false]
  refine wpAny_bind (wpAny_pure ?_)
  simp only [Bool.false_eq_true, if_false]
  unfold tryCompare
  refine wpAny_bind (wpAny_bind (wpAny_mono bound (fun r s' hr => ?_) fun _ _ e => e))
  obtain ⟨b, rfl, hq⟩ := hr
  first | exact wpAny_pure (wpAny_pure hq) | exact wpAny_pure hq
theorem cmp_run {n : Nat} (C : Here Γ N sc cs W hot (3 * n + 2) X) (L : Lib Γ n) (T : Tops Γ) {op : CmpOp} {pins : List (Addr × Obj)} {s : Shared} {σ : St} {H : Hp} {x y : V} {v u : Value} {Q : VK} {p : En0} {F : Hp} {ι : List Addr} {e : En} {m : Mu} {d1 d2 o1 o2 : D}
    (I : Inv X pins σ H s) (rx : RelV x v) (ry : RelV y u) (S : Sim Γ cs p F ι e m σ H) (r1 : Rep Γ F ι x d1) (r2 : Rep Γ F ι y d2) (h1 : RdR Γ F ι H x o1) (h2 : RdR Γ F ι H y o2)
    (q : K1 Γ cs p F ι σ W ((parN Γ n).cmp op d1 d2 (some o1) (some o2) e m) fun d F' ι' _ _ H' => ∀ v, Rep Γ F' ι' v d → Q v H') :
    wpAny (model X.prog X.w) X.A (compareOp op v u) (EP X pins σ Q) X.xe s := by
  have hu : X.A.units + 64 < cLine := by have := C.unit; omega
  -- x in an own instance
  have inOwn : ∀ (neg : Bool) {a2 dx2 : Addr} {xs2 : List (Str × V)} {f c : Nat} {kl : Cl}, y = .ref a2 → H a2 = some (.ins (Γ.cad c) dx2 xs2) → Γ.pg.cls[c]? = some kl → (("__contains__" : Str), f) ∈ kl.meths →
      K1 Γ cs p F ι σ W ((((parN Γ n).call f [d2, d1] m).lift e).bind fun d e1 m1 => .opt (notR neg d) e1 m1) (fun d F' ι' _ _ H' => ∀ v, Rep Γ F' ι' v d → Q v H') →
      wpAny (model X.prog X.w) X.A (compareOp (if neg then .NotIn else .In) v u) (EP X pins σ Q) X.xe s := by
    intro neg a2 dx2 xs2 f c kl ey ha2 hk hm q
    subst ey
    cases ry
    obtain ⟨od2, J2⟩ := inst_at I ha2
    obtain ⟨mm, fr⟩ := I.fr
    have M := T.meth c kl _ f hk hm
    have go : wpAny (model X.prog X.w) X.A (call (.ref (Γ.fad f)) [.ref a2, v]) (fun r s' => ∃ b, r = .bool b ∧ ∃ H', Inv X pins σ H' s' ∧ Q (.bl (neg != b)) H') X.xe s := by
      refine thn (run_meth C L T (Q := fun z H' => ∃ b, z = .bl b ∧ Q (.bl (neg != b)) H') (vs := [.ref a2, x]) I (.cons rfl (.cons rx .nil)) S (.cons r2 (.cons r1 .nil)) hk (List.mem_append_left _ hm) ?_) fun r s' ⟨z, H', I', rz, b, ez, qz⟩ => ?_
      · refine K1.imp (K1.bind q) fun d F' ι' e' m' H' S' x' q' w r => ?_
        obtain ⟨d', hd, q'⟩ := K1.optS q'
        unfold notR at hd
        split at hd
        · cases hd
          cases r
          exact ⟨_, rfl, K1.ok q' S' _ (.bl _)⟩
        · cases hd
      · subst ez
        cases rz
        exact ⟨b, rfl, H', I', qz⟩
    cases neg with
    | false => exact PySem.W.in_K (K := Γ.K) fr (by rw [← C.K]; exact I.ok.mod.kin) J2 M.at_ M.fn (thn go fun r s' ⟨b, er, H', I', qb⟩ => by
        subst er
        exact wpAny_truthy_bool ⟨.bl b, H', I', rfl, by simpa using qb⟩)
    | true => exact PySem.W.notIn_K (K := Γ.K) fr (by rw [← C.K]; exact I.ok.mod.kin) J2 M.at_ M.fn (thn go fun r s' ⟨b, er, H', I', qb⟩ => by
        subst er
        exact wpAny_truthy_bool ⟨.bl (!b), H', I', rfl, by simpa using qb⟩)
  unfold Par.cmp at q
  split at q
  · rename_i c fs c' fs' e1 e2
    cases e1
    cases e2
    split at q
    · rename_i nm t hn
      split at q
      · rename_i f hf
        obtain ⟨kl, hk, hm⟩ := meth_mem hf
        split at q
        · rename_i ec
          subst ec
          obtain ⟨a1, dx1, xs1, rfl, ha1, _⟩ := h1.ins S
          obtain ⟨a2, dx2, xs2, rfl, ha2, _⟩ := h2.ins S
          cases rx
          cases ry
          obtain ⟨od1, J1⟩ := inst_at I ha1
          obtain ⟨od2, J2⟩ := inst_at I ha2
          obtain ⟨mm, fr⟩ := I.fr
          have M := T.meth c' kl nm f hk hm
          cases t with
          | true =>
            obtain ⟨rfl, rfl⟩ := dunC_ne hn
            have kin : Γ.K.In s.heap := by rw [← C.K]; exact I.kIn
            refine ne_of_eq (K := Γ.K) (f := Γ.fad f) (by omega) kin J1 J2 (T.cls c' kl hk).2.2.2 (T.noNe c' kl hk) M.at_ M.fn ?_
            refine thn (run_meth1 C L T (Q := fun z H' => ∃ b, z = .bl b ∧ Q (.bl (!b)) H') (vs := [.ref a1, .ref a2]) I (.cons rfl (.cons rfl .nil)) S (.cons r1 (.cons r2 .nil)) hk (List.mem_append_left _ hm) ?_) fun r s' ⟨z, H', I', rz, b, ez, qz⟩ => ?_
            · refine K1.imp (K1.bind q) fun d F' ι' e' m' H' S' x' q' w r => ?_
              obtain ⟨d', hd, q'⟩ := K1.optS q'
              unfold notR at hd
              split at hd
              · cases hd
                cases r
                have := K1.ok q' S' _ (.bl _)
                exact ⟨_, rfl, by simpa using this⟩
              · cases hd
            · subst ez
              cases rz
              exact ⟨b, rfl, .bl (!b), H', I', rfl, qz⟩
          | false =>
          obtain ⟨h3, h4⟩ := dunC_is hn
          rw [h4]
          refine PySem.W.cmp_K (K := Γ.K) (tb := .ref (Γ.cad c')) (by omega) fr (by rw [← C.K]; exact I.ok.mod.kin) J1 J2.type (by simp [PySem.W.notFirst]) (by rw [h3]; exact M.at_) M.fn ?_
          refine thn (run_meth C L T (Q := Q) (vs := [.ref a1, .ref a2]) I (.cons rfl (.cons rfl .nil)) S (.cons r1 (.cons r2 .nil)) hk (List.mem_append_left _ hm) ?_) fun r s' hr => cmpBack_of hr
          refine K1.imp (K1.bind q) fun d F' ι' e' m' H' S' x' q' w r => ?_
          obtain ⟨d', hd, q'⟩ := K1.optS q'
          unfold notR at hd
          split at hd
          · cases hd
            cases r
            have := K1.ok q' S' _ (.bl _)
            simpa using this
          · cases hd
        · exact q.elim
      · exact q.elim
    · exact q.elim
  · rename_i o1' c fs _ e1 e2
    cases e1
    cases e2
    split at q
    · split at q
      · rename_i f hf
        obtain ⟨kl, hk, hm⟩ := meth_mem hf
        obtain ⟨a2, dx2, xs2, ey, ha2, _⟩ := h2.ins S
        exact inOwn false ey ha2 hk hm q
      · exact q.elim
    · split at q
      · rename_i f hf
        obtain ⟨kl, hk, hm⟩ := meth_mem hf
        obtain ⟨a2, dx2, xs2, ey, ha2, _⟩ := h2.ins S
        exact inOwn true ey ha2 hk hm q
      · exact q.elim
    · exact q.elim
  · exact q.elim
  · rename_i e1 e2
    cases e1
    cases e2
    obtain ⟨d, hd, q⟩ := K1.optS q
    obtain ⟨b, hb, rfl⟩ := Option.map_eq_some_iff.mp hd
    exact op_cmpD C.K hu op pins s σ H x y v u Q I rx ry ⟨cs, p, F, ι, e, m, σ, o1, o2, b, S, h1, h2, hb, K1.ok q S _ (.bl _)⟩
  · exact q.elim
theorem noMark {op : CmpOp} {eb : Expr} (h : (match eb with | .Set _ _ _ => false | _ => true) = true) : behindInMarks op eb = false := by
  cases eb <;> first | rfl | (cases h)
/-- a op b, both operands and the comparison -/
theorem cmp2_run {n : Nat} (C : Here Γ N sc cs W hot (3 * n + 2) X) (L : Lib Γ n) (T : Tops Γ) {op : CmpOp} {pins : List (Addr × Obj)} {s : Shared} {σ : St} {H : Hp} {Q : VK} (na : ∀ i, a ≠ .pk i) (nb : ∀ i, b ≠ .pk i) (ha : PE X ea (tE Γ cs W (evE (parN Γ n) a))) (hb : PE X eb (tE Γ cs W (evE (parN Γ n) b)))
    (I : Inv X pins σ H s) (h : tE Γ cs W (evE (parN Γ n) (.cmp op a b)) σ H Q) :
    wpAny (model X.prog X.w) X.A (eval ea X.env) (fun v s₁ => wpAny (model X.prog X.w) X.A (eval eb X.env) (fun u s₂ => wpAny (model X.prog X.w) X.A (compareOp op v u) (EP X pins σ Q) X.xe s₂) X.xe s₁) X.xe s := by
  obtain ⟨p, F, ι, e, m, S, q⟩ := h
  have q : K1 Γ cs p F ι σ W ((evE (parN Γ n) a e m).bind _) _ := q
  refine binT ha hb I (R := fun x y H2 => ∃ F ι e m d1 d2, Sim Γ cs p F ι e m σ H2 ∧ Rep Γ F ι x d1 ∧ Rep Γ F ι y d2 ∧
      K1 Γ cs p F ι σ W ((parN Γ n).cmp op d1 d2 (objOf a d1 e m) (objOf b d2 e m) e m) fun d F' ι' _ _ H' => ∀ v, Rep Γ F' ι' v d → Q v H') ?_ fun v u s2 x y H2 I2 rx ry ⟨F, ι, e, m, d1, d2, S, r1, r2, q⟩ => ?_
  · refine ⟨p, F, ι, e, m, S, q.bind.imp fun d1 F1 ι1 e1 m1 H1 S1 x1 q1 v1 r1 => ⟨p, F1, ι1, e1, m1, S1, ?_⟩⟩
    exact K1.imp (K1.bind q1) fun d2 F2 ι2 e2 m2 H2 S2 x2 q2 v2 r2 => ⟨F2, ι2, e2, m2, d1, d2, S2, r1.mono x2, r2, q2⟩
  · have oa : objOf a d1 e m = some (deref m d1) := by cases a <;> first | rfl | exact absurd rfl (na _)
    have ob : objOf b d2 e m = some (deref m d2) := by cases b <;> first | rfl | exact absurd rfl (nb _)
    rw [oa, ob] at q
    exact cmp_run C L T I2 rx ry S r1 r2 (S.deref r1) (S.deref r2) q
def noSet : Expr → Bool
  | .Set _ _ _ => false
  | _ => true
theorem noSet_m {op : CmpOp} {eb : Expr} (h : noSet eb = true) : behindInMarks op eb = false := by
  cases eb <;> first | rfl | (cases h)
theorem g_cmp {n : Nat} (C : Here Γ N sc cs W hot (3 * n + 2) X) (L : Lib Γ n) (T : Tops Γ) {op : CmpOp} (na : ∀ i, a ≠ .pk i) (nb : ∀ i, b ≠ .pk i) (hs : noSet eb = true) (ha : PE X ea (tE Γ cs W (evE (parN Γ n) a))) (hb : PE X eb (tE Γ cs W (evE (parN Γ n) b))) :
    PE X (.Compare ea [op] [eb] pos) (tE Γ cs W (evE (parN Γ n) (.cmp op a b))) :=
  ⟨fun pins s σ H Q I h => wpAny_Compare1 (cmp2_run C L T na nb ha hb I h) (noSet_m hs)⟩
/-- .. as a test -/
theorem t_cmp {n : Nat} (C : Here Γ N sc cs W hot (3 * n + 2) X) (L : Lib Γ n) (T : Tops Γ) {op : CmpOp} (na : ∀ i, a ≠ .pk i) (nb : ∀ i, b ≠ .pk i) (hs : noSet eb = true) (ha : PE X ea (tE Γ cs W (evE (parN Γ n) a))) (hb : PE X eb (tE Γ cs W (evE (parN Γ n) b))) :
    PT X (.Compare ea [op] [eb] pos) (tT Γ cs W (evT (parN Γ n) (.cmp op a b))) := by
  refine ⟨fun pins s σ H Q I h => ?_⟩
  obtain ⟨p, F, ι, e, m, S, q⟩ := h
  refine wpAny_isTrue_Compare1 (thn (cmp2_run C L T (Q := fun v H' => ∃ k, v = .bl k ∧ Q k H') na nb ha hb I ⟨p, F, ι, e, m, S, ?_⟩) fun v s1 h1 => thn h1 fun u s2 h2 => thn h2 fun c s3 ⟨z, H3, I3, r3, k, ez, q3⟩ => ?_) (noSet_m hs)
  · have q : K1 Γ cs p F ι σ W ((evE (parN Γ n) a e m).bind _) _ := q
    show K1 Γ cs p F ι σ W ((evE (parN Γ n) a e m).bind _) _
    cases hr : evE (parN Γ n) a e m with
    | no => rw [hr] at q; exact q.elim
    | ex c fs e1 m1 => rw [hr] at q; exact q
    | ok x e1 m1 =>
      rw [hr] at q
      simp only [R.bind_ok] at q ⊢
      cases hr2 : evE (parN Γ n) b e1 m1 with
      | no => rw [hr2] at q; exact q.elim
      | ex c fs e1 m1 => rw [hr2] at q; exact q
      | ok y e2 m2 =>
        rw [hr2] at q
        simp only [R.bind_ok] at q ⊢
        refine K1.imp (K1.bind q) fun d F' ι' e' m' H' S' x' q' v r => ?_
        obtain ⟨k, hk, q'⟩ := K1.optS q'
        cases d <;> first | (cases hk; done) | skip
        cases hk
        cases r
        exact ⟨_, rfl, K1.ok q' S'⟩
  · subst ez
    cases r3
    exact wpAny_truthy_bool ⟨H3, I3, q3⟩
end
end G
end
section
set_option Elab.async false
set_option linter.all false
set_option maxRecDepth 100000
set_option maxHeartbeats 1000000
/-! G: more forms of expressions. -/
namespace G
open PySem PySem.Spec PyProof.Rows L2
/-- no star among the arguments -/
def plainArg : Expr → Bool
  | .Starred _ _ => false
  | _ => true
def noStar : List Expr → Bool
  | [] => true
  | e :: es => plainArg e && noStar es
theorem star_one {e : Expr} {es : List Expr} {env : Env} (h : plainArg e = true) : starEach (e :: es) env = (false, eval e env) :: starEach es env := by
  cases e <;> first | rfl | cases h
theorem star_any {env : Env} {pos : Pos} : ∀ {es : List Expr}, noStar es = true → (backTo pos (starEach es env)).any (·.1) = false
  | [], _ => rfl
  | e :: es, h => by
    unfold noStar at h
    rw [Bool.and_eq_true] at h
    rw [star_one h.1]
    exact star_any h.2
/-- the keywords' names -/
def kwNames : List Keyword → Option (List Str)
  | [] => some []
  | ⟨some n, _, _⟩ :: r => (kwNames r).map (n :: ·)
  | ⟨none, _, _⟩ :: _ => none
theorem kw_facts {env : Env} {pos : Pos} : ∀ {kws : List Keyword} {ks : List Str}, kwNames kws = some ks →
    (backToKw pos (keywordEach kws env)).all (·.1.isSome) = true ∧ (backToKw pos (keywordEach kws env)).filterMap (·.1) = ks ∧ (backToKw pos (keywordEach kws env)).any (·.1.isNone) = false
  | [], ks, h => by
    cases h
    exact ⟨rfl, rfl, rfl⟩
  | ⟨some n, e, p⟩ :: r, ks, h => by
    unfold kwNames at h
    obtain ⟨ks', h', rfl⟩ := Option.map_eq_some_iff.mp h
    obtain ⟨a, b, c⟩ := kw_facts (env := env) (pos := pos) h'
    exact ⟨a, congrArg (n :: ·) b, c⟩
  | ⟨none, e, p⟩ :: r, ks, h => by cases h
section
variable {X : Cx} {es : List Expr} {kws : List Keyword} {ks : List Str} {t tk : TA} {pos : Pos} {f : Value} {first : List Value}
/-- a call's arguments, whatever there are -/
theorem call_any (hk : PySem.W.keepIn X.K f = true) (hst : noStar es = true) (hks : kwNames kws = some ks) (ha : PA X es t) (hkw : PK X kws tk) (na : es = [] → ∀ σ H Q, t σ H Q → Q [] H) (nk : kws = [] → ∀ σ H Q, tk σ H Q → Q [] H)
    {pins : List (Addr × Obj)} {s : Shared} {σ : St} {H : Hp} {R : List V → List V → Hp → Prop} {Q : Value → Shared → Prop}
    (I : Inv X pins σ H s) (h : t σ H fun vs H1 => tk σ H1 fun zs H2 => R vs zs H2)
    (go : ∀ us ws s2 vs zs H2, Inv X pins σ H2 s2 → Vals vs us → Vals zs ws → R vs zs H2 → wpAny (model X.prog X.w) X.A (call f (first ++ us) (ks.zip ws)) Q X.xe s2) :
    wpAny (model X.prog X.w) X.A (callWith pos f first (backTo pos (starEach es X.env)) (backToKw pos (keywordEach kws X.env))) Q X.xe s := by
  obtain ⟨k1, k2, k3⟩ := kw_facts (env := X.env) (pos := pos) hks
  cases kws with
  | nil =>
    cases hks
    cases es with
    | nil => exact PySem.W.callWith_K0 I.kIn hk (go [] [] s [] [] H I .nil .nil (nk rfl _ _ _ (na rfl _ _ _ h)))
    | cons e es =>
      unfold noStar at hst
      rw [Bool.and_eq_true] at hst
      exact PySem.W.callWith_K (h₀ := X.base) I.ok.mod.kin hk (thn (ha.run pos pins s σ H _ I h) fun us s1 ⟨vs, H1, I1, r1, q1⟩ => ⟨I1.kIn, go us [] s1 vs [] H1 I1 r1 .nil (nk rfl _ _ _ q1)⟩) (star_one hst.1) (star_any hst.2)
  | cons kw kws =>
    cases es with
    | nil =>
      refine PySem.W.callWith_KW0 (h₀ := X.base) I.ok.mod.kin hk k1 ?_ (by rw [k3]; rfl)
      refine thn (hkw.run pos pins s σ H _ I (na rfl _ _ _ h)) fun ws s2 ⟨zs, H2, I2, r2, q2⟩ => ⟨I2.kIn, ?_⟩
      rw [k2]
      exact go [] ws s2 [] zs H2 I2 .nil r2 q2
    | cons e es =>
      have hst' := hst
      unfold noStar at hst
      rw [Bool.and_eq_true] at hst
      refine PySem.W.callWith_KW (h₀ := X.base) I.ok.mod.kin hk k1 (thn (ha.run pos pins s σ H _ I h) fun us s1 ⟨vs, H1, I1, r1, q1⟩ => ?_) (by rw [star_any hst', k3]; rfl) (star_one hst.1)
      refine thn (hkw.run pos pins s1 σ H1 _ I1 q1) fun ws s2 ⟨zs, H2, I2, r2, q2⟩ => ⟨I2.kIn, ?_⟩
      rw [k2]
      exact go us ws s2 vs zs H2 I2 r1 r2 q2
end
section
variable {Γ : Ge} {N : List Str} {sc : Scope} {cs : List Cau} {W : WX} {hot : Bool} {k : Nat} {X : Cx} {P : Par} {a b c : C} {ea eb ec : Expr} {pos : Pos}
theorem e_of (h : PE X ea (tO Γ cs W a (evE P a))) (ha : a.isPk = false) : PE X ea (tE Γ cs W (evE P a)) :=
  h.weak fun σ H Q ⟨p, F, ι, e, m, S, q⟩ => ⟨p, F, ι, e, m, S, q.imp fun _ _ _ _ _ _ _ _ z v r => z v (r.rep fun i hi => by rw [hi] at ha; cases ha)⟩
theorem o_to {f : En → Mu → R D} (ha : a.isPk = false) (h : PE X ea (tE Γ cs W f)) : PE X ea (tO Γ cs W a f) := o_of (fun i hi => by rw [hi] at ha; cases ha) h
theorem notPk (ha : a.isPk = false) : ∀ i, a ≠ .pk i := fun i hi => by rw [hi] at ha; cases ha
/-! ### arguments -/
theorem a_nil : PA X [] (tA Γ cs W (evA P .nil)) := pa_nil.weak fun σ H Q ⟨p, F, ι, e, m, S, q⟩ => by
  have q : K1 Γ cs p F ι σ W (.ok [] e m) _ := q
  exact q.ok S [] .nil
theorem a_nil' {σ : St} {H : Hp} {Q : List V → Hp → Prop} : tA Γ cs W (evA P .nil) σ H Q → Q [] H := fun ⟨p, F, ι, e, m, S, q⟩ => by
  have q : K1 Γ cs p F ι σ W (.ok [] e m) _ := q
  exact q.ok S [] .nil
theorem tA_cons {σ : St} {H : Hp} {Q : List V → Hp → Prop} (h : tA Γ cs W (evA P (.cons a b)) σ H Q) : tCons (tE Γ cs W (evE P a)) (tA Γ cs W (evA P b)) σ H Q := by
  obtain ⟨p, F, ι, e, m, S, q⟩ := h
  have q : K1 Γ cs p F ι σ W ((evE P a e m).bind _) _ := q
  refine ⟨p, F, ι, e, m, S, q.bind.imp fun d F1 ι1 e1 m1 H1 S1 x1 q1 v r => ⟨p, F1, ι1, e1, m1, S1, ?_⟩⟩
  refine K1.imp (K1.bind q1) fun ds F2 ι2 e2 m2 H2 S2 x2 q2 vs rs => ?_
  exact K1.ok q2 S2 _ (.cons (r.mono x2) rs)
theorem a_cons {es : List Expr} (ha : PE X ea (tE Γ cs W (evE P a))) (hb : PA X es (tA Γ cs W (evA P b))) (hs : plainArg ea = true) : PA X (ea :: es) (tA Γ cs W (evA P (.cons a b))) :=
  (pa_cons ha hb (star_one hs)).weak fun _ _ _ h => tA_cons h
theorem _root_.L2.PK.weak {X : Cx} {e : List Keyword} {t t' : TA} (h : PK X e t) (hi : ∀ σ H Q, t' σ H Q → t σ H Q) : PK X e t' := ⟨fun pos pins s σ H Q I q => h.run pos pins s σ H Q I (hi σ H Q q)⟩
theorem k_nil : PK X [] (tA Γ cs W (evA P .nil)) := pk_nil.weak fun σ H Q h => a_nil' h
theorem k_cons {kws : List Keyword} {nm : Option Str} {kp : Pos} (ha : PE X ea (tE Γ cs W (evE P a))) (hb : PK X kws (tA Γ cs W (evA P b))) : PK X (⟨nm, ea, kp⟩ :: kws) (tA Γ cs W (evA P (.cons a b))) :=
  (pk_cons ha hb).weak fun _ _ _ h => tA_cons h
theorem g_tup {es : List Expr} {x1} (h : PA X es (tA Γ cs W (evA P a))) : PE X (.Tuple es x1 pos) (tE Γ cs W (evE P (.tup a))) :=
  (pe_tup h).weak fun σ H Q ⟨p, F, ι, e, m, S, q⟩ => by
    have q : K1 Γ cs p F ι σ W ((evA P a e m).bind _) _ := q
    refine ⟨p, F, ι, e, m, S, q.bind.imp fun ds F1 ι1 e1 m1 H1 S1 x1 q1 vs r => ?_⟩
    split at q1
    · rename_i hl
      refine ⟨by rw [r.length, ← sizeL_eq]; exact hl, fun p hp => ?_⟩
      obtain ⟨S2, x2⟩ := S1.alloc (o := .tup vs) hp
      exact q1 _ _ _ S2 x2 _ (.tup (.inl upd_same) (r.mono x2))
    · exact q1.elim
theorem g_lst {es : List Expr} (h : PA X es (tA Γ cs W (evA P a))) : PE X (.List es pos) (tE Γ cs W (evE P (.lst a))) :=
  (pe_lst h).weak fun σ H Q ⟨p, F, ι, e, m, S, q⟩ => by
    have q : K1 Γ cs p F ι σ W ((evA P a e m).bind _) _ := q
    refine ⟨p, F, ι, e, m, S, q.bind.imp fun ds F1 ι1 e1 m1 H1 S1 x1 q1 vs r => ?_⟩
    split at q1
    · rename_i hl
      refine ⟨by rw [r.length, ← sizeL_eq]; exact hl, fun p hp => ?_⟩
      obtain ⟨S2, x2⟩ := S1.alloc (o := .lst vs) hp
      exact q1 _ _ _ S2 x2 _ (.lst upd_same (r.mono x2))
    · exact q1.elim
/-! ### one value -/
/-- an operand, then a rule on its value -/
theorem un_run {f : En → Mu → R D} {Q : VK} {pins : List (Addr × Obj)} {s : Shared} {σ : St} {H : Hp} {G : Value → Sem Value} {g : D → En → Mu → R D} (ha : PE X ea (tO Γ cs W a f)) (I : Inv X pins σ H s)
    (h : tE Γ cs W (fun e m => (f e m).bind g) σ H Q)
    (go : ∀ v s2 x H2 p F ι e m d, Inv X pins σ H2 s2 → RelV x v → Sim Γ cs p F ι e m σ H2 → OpRl Γ F ι σ a x d → K1 Γ cs p F ι σ W (g d e m) (fun d F' ι' _ _ H' => ∀ v, Rep Γ F' ι' v d → Q v H') → wpAny (model X.prog X.w) X.A (G v) (EP X pins σ Q) X.xe s2) :
    wpAny (model X.prog X.w) X.A (eval ea X.env) (fun v s₁ => wpAny (model X.prog X.w) X.A (G v) (EP X pins σ Q) X.xe s₁) X.xe s := by
  obtain ⟨p, F, ι, e, m, S, q⟩ := h
  refine thn (ha.run pins s σ H (fun v H2 => ∃ F ι e m d, Sim Γ cs p F ι e m σ H2 ∧ OpRl Γ F ι σ a v d ∧ K1 Γ cs p F ι σ W (g d e m) (fun d F' ι' _ _ H' => ∀ v, Rep Γ F' ι' v d → Q v H')) I ⟨p, F, ι, e, m, S, q.bind.imp fun d F1 ι1 e1 m1 H1 S1 x1 q1 v r => ⟨F1, ι1, e1, m1, d, S1, r, q1⟩⟩)
    fun v s2 ⟨x, H2, I2, rx, F, ι, e, m, d, S, r, q⟩ => go v s2 x H2 p F ι e m d I2 rx S r q
theorem g_un {n : Nat} (C : Here Γ N sc cs W hot (3 * n + 2) X) (L : Lib Γ n) (T : Tops Γ) {op : UnaryOp} (na : a.isPk = false) (ha : PE X ea (tE Γ cs W (evE (parN Γ n) a))) : PE X (.UnaryOp op ea pos) (tE Γ cs W (evE (parN Γ n) (.un op a))) := by
  refine ⟨fun pins s σ H Q I h => ?_⟩
  refine UnaryOp_ (un_run (o_to na ha) I h fun v s2 x H2 p F ι e m d I2 rx S r q => ?_)
  have r := r.rep (notPk na)
  have oa : objOf a d e m = some (deref m d) := by cases a <;> first | rfl | cases na
  have rd := S.deref r
  rw [oa] at q
  split at q
  · rename_i i e1
    rw [Option.some.inj e1] at rd
    cases rd.int
    exact un_neg pins s2 σ H2 _ v Q I2 rx ⟨i, rfl, K1.ok q S _ (.int _)⟩
  · rename_i i e1
    rw [Option.some.inj e1] at rd
    cases rd.int
    exact un_inv pins s2 σ H2 _ v Q I2 rx ⟨i, rfl, K1.ok q S _ (.int _)⟩
  · rename_i c fs e1
    rw [Option.some.inj e1] at rd
    split at q
    · rename_i f hf
      obtain ⟨kl, hk, hm⟩ := meth_mem hf
      obtain ⟨a1, dx1, xs1, rfl, ha1, _⟩ := rd.ins S
      cases rx
      obtain ⟨od1, J1⟩ := inst_at I2 ha1
      obtain ⟨mm, fr⟩ := I2.fr
      have M := T.meth c kl _ f hk hm
      exact PySem.W.ksp_inv (K := Γ.K) fr (by rw [← C.K]; exact I2.ok.mod.kin) J1 M.at_ M.fn (run_meth C L T (Q := Q) (vs := [.ref a1]) I2 (.cons rfl .nil) S (.cons r .nil) hk (List.mem_append_left _ hm) q)
    · exact q.elim
  · exact q.elim
/-- x is None -/
theorem rep_non {F : Hp} {ι : List Addr} {v : V} {d : D} (r : Rep Γ F ι v d) : decide (v = .non) = isNon d := by
  cases r <;> rfl
theorem g_isN {neg : Bool} {j : Nat} {pos' : Pos} (ha : PE X ea (tE Γ cs W (evE P a))) : PE X (.Compare ea [if neg then .IsNot else .Is] [.Constant .none j pos'] pos) (tE Γ cs W (evE P (.isN neg a))) := by
  cases neg with
  | false =>
    refine (pe_cmp (pc_isN ha)).weak fun σ H Q ⟨p, F, ι, e, m, S, q⟩ => ?_
    have q : K1 Γ cs p F ι σ W ((evE P a e m).bind _) _ := q
    refine ⟨p, F, ι, e, m, S, q.bind.imp fun d F1 ι1 e1 m1 H1 S1 x1 q1 v r => ?_⟩
    show Q (.bl (decide (v = .non))) H1
    rw [rep_non r]
    have := K1.ok q1 S1 _ (.bl _)
    simpa using this
  | true =>
    refine (pe_cmp (pc_notN ha)).weak fun σ H Q ⟨p, F, ι, e, m, S, q⟩ => ?_
    have q : K1 Γ cs p F ι σ W ((evE P a e m).bind _) _ := q
    refine ⟨p, F, ι, e, m, S, q.bind.imp fun d F1 ι1 e1 m1 H1 S1 x1 q1 v r => ?_⟩
    show Q (.bl !(decide (v = .non))) H1
    rw [rep_non r]
    have := K1.ok q1 S1 _ (.bl _)
    simpa using this
theorem t_isN {neg : Bool} {j : Nat} {pos' : Pos} (ha : PE X ea (tE Γ cs W (evE P a))) : PT X (.Compare ea [if neg then .IsNot else .Is] [.Constant .none j pos'] pos) (tT Γ cs W (evT P (.isN neg a))) := by
  cases neg with
  | false =>
    refine (pt_cmp (pc_isN ha)).weak fun σ H Q ⟨p, F, ι, e, m, S, q⟩ => ?_
    have q : K1 Γ cs p F ι σ W ((evE P a e m).bind _) _ := q
    refine ⟨p, F, ι, e, m, S, q.bind.imp fun d F1 ι1 e1 m1 H1 S1 x1 q1 v r => ⟨_, rfl, ?_⟩⟩
    rw [rep_non r]
    have := K1.ok q1 S1
    simpa using this
  | true =>
    refine (pt_cmp (pc_notN ha)).weak fun σ H Q ⟨p, F, ι, e, m, S, q⟩ => ?_
    have q : K1 Γ cs p F ι σ W ((evE P a e m).bind _) _ := q
    refine ⟨p, F, ι, e, m, S, q.bind.imp fun d F1 ι1 e1 m1 H1 S1 x1 q1 v r => ⟨_, rfl, ?_⟩⟩
    rw [rep_non r]
    have := K1.ok q1 S1
    simpa using this
/-- x is True -/
theorem g_isB {neg w : Bool} {j : Nat} {pos' : Pos} (ha : PE X ea (tE Γ cs W (evE P a))) : PE X (.Compare ea [if neg then .IsNot else .Is] [.Constant (.bool w) j pos'] pos) (tE Γ cs W (evE P (.isB neg w a))) := by
  cases neg with
  | false =>
    refine (pe_cmpR op_is_bl ha pe_bl rfl).weak fun σ H Q ⟨p, F, ι, e, m, S, q⟩ => ?_
    have q : K1 Γ cs p F ι σ W ((evE P a e m).bind _) _ := q
    refine ⟨p, F, ι, e, m, S, q.bind.imp fun d F1 ι1 e1 m1 H1 S1 x1 q1 v r => ?_⟩
    split at q1
    · rename_i b
      cases r
      refine ⟨b, w, rfl, rfl, ?_⟩
      have := K1.ok q1 S1 _ (.bl _)
      cases b <;> cases w <;> simpa using this
    · exact q1.elim
  | true =>
    refine (pe_cmpR op_isnot_bl ha pe_bl rfl).weak fun σ H Q ⟨p, F, ι, e, m, S, q⟩ => ?_
    have q : K1 Γ cs p F ι σ W ((evE P a e m).bind _) _ := q
    refine ⟨p, F, ι, e, m, S, q.bind.imp fun d F1 ι1 e1 m1 H1 S1 x1 q1 v r => ?_⟩
    split at q1
    · rename_i b
      cases r
      refine ⟨b, w, rfl, rfl, ?_⟩
      have := K1.ok q1 S1 _ (.bl _)
      cases b <;> cases w <;> simpa using this
    · exact q1.elim
theorem t_isB {neg w : Bool} {j : Nat} {pos' : Pos} (ha : PE X ea (tE Γ cs W (evE P a))) : PT X (.Compare ea [if neg then .IsNot else .Is] [.Constant (.bool w) j pos'] pos) (tT Γ cs W (evT P (.isB neg w a))) := by
  cases neg with
  | false =>
    refine (pt_cmpR op_is_bl ha pe_bl rfl).weak fun σ H Q ⟨p, F, ι, e, m, S, q⟩ => ?_
    have q : K1 Γ cs p F ι σ W ((evE P a e m).bind _) _ := q
    refine ⟨p, F, ι, e, m, S, q.bind.imp fun d F1 ι1 e1 m1 H1 S1 x1 q1 v r => ?_⟩
    split at q1
    · rename_i b
      cases r
      refine ⟨b, w, rfl, rfl, _, rfl, ?_⟩
      have := K1.ok q1 S1
      cases b <;> cases w <;> simpa using this
    · exact q1.elim
  | true =>
    refine (pt_cmpR op_isnot_bl ha pe_bl rfl).weak fun σ H Q ⟨p, F, ι, e, m, S, q⟩ => ?_
    have q : K1 Γ cs p F ι σ W ((evE P a e m).bind _) _ := q
    refine ⟨p, F, ι, e, m, S, q.bind.imp fun d F1 ι1 e1 m1 H1 S1 x1 q1 v r => ?_⟩
    split at q1
    · rename_i b
      cases r
      refine ⟨b, w, rfl, rfl, _, rfl, ?_⟩
      have := K1.ok q1 S1
      cases b <;> cases w <;> simpa using this
    · exact q1.elim
end
end G
end
section
set_option Elab.async false
set_option linter.all false
set_option maxRecDepth 100000
set_option maxHeartbeats 1000000
/-! G: truth, tests, calls. -/
namespace G
open PySem PySem.Spec PyProof.Rows L2
section
variable {Γ : Ge} {N : List Str} {sc : Scope} {cs : List Cau} {W : WX} {hot : Bool} {k : Nat} {X : Cx} {P : Par} {a b c : C} {ea eb ec : Expr} {pos : Pos}
/-- the truth of built-in data -/
theorem truD_is {v : V} {d : D} {t : Bool} {p : En0} {F : Hp} {ι : List Addr} {e : En} {m : Mu} {σ : St} {H : Hp} (S : Sim Γ cs p F ι e m σ H) (r : RdR Γ F ι H v d) (h : truD d = some t) : TruV Γ.K v H t := by
  unfold truD at h
  split at h
  · cases h; cases r.non; exact rfl
  · cases h; cases r.bl; exact rfl
  · cases h; cases r.int; exact rfl
  · split at h
    · rename_i hl
      cases h
      cases r.str
      exact ⟨by rw [← sizeL_eq]; exact hl, rfl⟩
    · cases h
  · cases h
    obtain ⟨a, vs, rfl, h1, q1⟩ := r.tup S
    exact .inr (.inl ⟨vs, h1, by cases q1 <;> rfl⟩)
  · cases h
    obtain ⟨a, vs, rfl, h1, q1⟩ := r.lst S
    exact .inl ⟨vs, .inl (.inl h1), by cases q1 <;> rfl⟩
  · cases h
theorem tru_run {n : Nat} (C : Here Γ N sc cs W hot (3 * n + 2) X) (L : Lib Γ n) (T : Tops Γ) {pins : List (Addr × Obj)} {s : Shared} {σ : St} {H : Hp} {x : V} {v : Value} {Q : Bool → Hp → Prop} {p : En0} {F : Hp} {ι : List Addr} {e : En} {m : Mu} {d : D}
    (I : Inv X pins σ H s) (rx : RelV x v) (S : Sim Γ cs p F ι e m σ H) (r : OpRl Γ F ι σ a x d)
    (q : K1 Γ cs p F ι σ W ((parN Γ n).tru a.isPk d (objOf a d e m) e m) fun b _ _ _ _ H' => Q b H') :
    wpAny (model X.prog X.w) X.A (truthy v) (TP X pins σ Q) X.xe s := by
  unfold Par.tru at q
  split at q
  · rename_i c fs e1
    have rd := S.obj r e1
    cases hp : a.isPk with
    | true => rw [hp] at q; exact q.elim
    | false =>
      rw [hp] at q
      have q : K1 Γ cs p F ι σ W (match (parN Γ n).meth c "__bool__" with
        | some f => (((parN Γ n).call f [d] m).lift e).bind fun d e1 m1 => .opt (unT d) e1 m1
        | none => .no) fun b _ _ _ _ H' => Q b H' := q
      split at q
      · rename_i f hf
        obtain ⟨kl, hk, hm⟩ := meth_mem hf
        obtain ⟨a1, dx1, xs1, rfl, ha1, _⟩ := rd.ins S
        cases rx
        obtain ⟨od1, J1⟩ := inst_at I ha1
        obtain ⟨mm, fr⟩ := I.fr
        have M := T.meth c kl _ f hk hm
        refine PySem.W.truthy_K (K := Γ.K) fr (by rw [← C.K]; exact I.ok.mod.kin) J1 M.at_ M.fn ?_
        refine thn (run_meth C L T (Q := fun z H' => ∃ b, z = .bl b ∧ Q b H') (vs := [.ref a1]) I (.cons rfl .nil) S (.cons (r.rep (notPk hp)) .nil) hk (List.mem_append_left _ hm) ?_) fun u s' ⟨z, H', I', rz, b, ez, qz⟩ => ?_
        · refine K1.imp (K1.bind q) fun d' F' ι' e' m' H' S' x' q' w r' => ?_
          obtain ⟨b, hb, q'⟩ := K1.optS q'
          cases d' <;> first | (cases hb; done) | skip
          cases hb
          cases r'
          exact ⟨_, rfl, K1.ok q' S'⟩
        · subst ez
          cases rz
          exact ⟨H', I', qz⟩
      · exact q.elim
  · rename_i d1 hd e1
    have rd := S.obj r e1
    obtain ⟨t, ht, q⟩ := K1.optS q
    exact tru_ok pins s σ H x v Q I rx ⟨t, by rw [C.K]; exact truD_is S rd ht, K1.ok q S⟩
  · exact q.elim
/-- an operand's value and its truth -/
theorem ot_run {n : Nat} (C : Here Γ N sc cs W hot (3 * n + 2) X) (L : Lib Γ n) (T : Tops Γ) {α : Type} {pins : List (Addr × Obj)} {s : Shared} {σ : St} {H : Hp} {p : En0} {F : Hp} {ι : List Addr} {e : En} {m : Mu} {k : α → Hp → List Addr → En → Mu → Hp → Prop} {g : D → Bool → En → Mu → R α}
    (ha : PE X ea (tO Γ cs W a (evE (parN Γ n) a))) (I : Inv X pins σ H s) (S : Sim Γ cs p F ι e m σ H)
    (q : K1 Γ cs p F ι σ W ((evE (parN Γ n) a e m).bind fun x e1 m1 => ((parN Γ n).tru a.isPk x (objOf a x e1 m1) e1 m1).bind fun t e2 m2 => g x t e2 m2) k)
    {Qf : Value → Bool → Shared → Prop}
    (go : ∀ v t s2 x H2 F ι e m d, Inv X pins σ H2 s2 → RelV x v → Sim Γ cs p F ι e m σ H2 → OpRl Γ F ι σ a x d → K1 Γ cs p F ι σ W (g d t e m) k → Qf v t s2) :
    wpAny (model X.prog X.w) X.A (eval ea X.env) (fun v s₁ => wpAny (model X.prog X.w) X.A (truthy v) (fun t s₂ => Qf v t s₂) X.xe s₁) X.xe s := by
  refine thn (ha.run pins s σ H (fun x H2 => ∃ F ι e m d, Sim Γ cs p F ι e m σ H2 ∧ OpRl Γ F ι σ a x d ∧ K1 Γ cs p F ι σ W (((parN Γ n).tru a.isPk d (objOf a d e m) e m).bind fun t e2 m2 => g d t e2 m2) k) I ⟨p, F, ι, e, m, S, q.bind.imp fun d F1 ι1 e1 m1 H1 S1 x1 q1 v r => ⟨F1, ι1, e1, m1, d, S1, r, q1⟩⟩)
    fun v s2 ⟨x, H2, I2, rx, F, ι, e, m, d, S, r, q⟩ => ?_
  refine thn (tru_run C L T (Q := fun t H3 => ∃ F ι e m, Sim Γ cs p F ι e m σ H3 ∧ OpRl Γ F ι σ a x d ∧ K1 Γ cs p F ι σ W (g d t e m) k) I2 rx S r (K1.imp (K1.bind q) fun t F3 ι3 e3 m3 H3 S3 x3 q3 => ⟨F3, ι3, e3, m3, S3, r.mono x3, q3⟩)) fun t s3 ⟨H3, I3, F, ι, e, m, S, r, q⟩ => ?_
  exact go v t s3 x H3 F ι e m d I3 rx S r q
theorem g_and {n : Nat} (C : Here Γ N sc cs W hot (3 * n + 2) X) (L : Lib Γ n) (T : Tops Γ) {rest : List Expr} (na : a.isPk = false) (ha : PE X ea (tE Γ cs W (evE (parN Γ n) a))) (hb : PE X (.BoolOp .And (eb :: rest) pos) (tE Γ cs W (evE (parN Γ n) b))) :
    PE X (.BoolOp .And (ea :: eb :: rest) pos) (tE Γ cs W (evE (parN Γ n) (.and_ a b))) := by
  refine ⟨fun pins s σ H Q I ⟨p, F, ι, e, m, S, q⟩ => ?_⟩
  refine BoolOp_and (ot_run C L T (g := fun x t e m => if t then evE (parN Γ n) b e m else .ok x e m) (o_to na ha) I S q fun v t s2 x H2 F ι e m d I2 rx S r q => ?_)
  cases t with
  | true => exact hb.run pins s2 σ H2 Q I2 ⟨p, F, ι, e, m, S, q⟩
  | false => exact ⟨x, H2, I2, rx, K1.ok q S _ (r.rep (notPk na))⟩
theorem g_or {n : Nat} (C : Here Γ N sc cs W hot (3 * n + 2) X) (L : Lib Γ n) (T : Tops Γ) {rest : List Expr} (na : a.isPk = false) (ha : PE X ea (tE Γ cs W (evE (parN Γ n) a))) (hb : PE X (.BoolOp .Or (eb :: rest) pos) (tE Γ cs W (evE (parN Γ n) b))) :
    PE X (.BoolOp .Or (ea :: eb :: rest) pos) (tE Γ cs W (evE (parN Γ n) (.or_ a b))) := by
  refine ⟨fun pins s σ H Q I ⟨p, F, ι, e, m, S, q⟩ => ?_⟩
  refine BoolOp_or (ot_run C L T (g := fun x t e m => if t then .ok x e m else evE (parN Γ n) b e m) (o_to na ha) I S q fun v t s2 x H2 F ι e m d I2 rx S r q => ?_)
  cases t with
  | true => exact ⟨x, H2, I2, rx, K1.ok q S _ (r.rep (notPk na))⟩
  | false => exact hb.run pins s2 σ H2 Q I2 ⟨p, F, ι, e, m, S, q⟩
theorem g_not {n : Nat} (C : Here Γ N sc cs W hot (3 * n + 2) X) (L : Lib Γ n) (T : Tops Γ) (ha : PE X ea (tO Γ cs W a (evE (parN Γ n) a))) : PE X (.UnaryOp .Not ea pos) (tE Γ cs W (evE (parN Γ n) (.not_ a))) := by
  refine ⟨fun pins s σ H Q I ⟨p, F, ι, e, m, S, q⟩ => ?_⟩
  refine UnaryOp_ (thn (ot_run (α := D) (k := fun d F' ι' _ _ H' => ∀ v, Rep Γ F' ι' v d → Q v H') C L T (g := fun x t e m => R.ok (D.bl (!t)) e m) (Qf := fun v t s => EP X pins σ Q (.bool (!t)) s) ha I S q fun v t s2 x H2 F ι e m d I2 rx S r q => ⟨V.bl (!t), H2, I2, rfl, K1.ok q S _ (.bl _)⟩) fun v s1 h => not_of h)
theorem g_ite {n : Nat} (hc : PT X ec (tT Γ cs W (evT (parN Γ n) c))) (ha : PE X ea (tE Γ cs W (evE (parN Γ n) a))) (hb : PE X eb (tE Γ cs W (evE (parN Γ n) b))) : PE X (.IfExp ec ea eb pos) (tE Γ cs W (evE (parN Γ n) (.ite c a b))) :=
  (pe_ifExp hc ha hb).weak fun σ H Q ⟨p, F, ι, e, m, S, q⟩ => by
    have q : K1 Γ cs p F ι σ W ((evT (parN Γ n) c e m).bind _) _ := q
    refine ⟨p, F, ι, e, m, S, q.bind.imp fun t F1 ι1 e1 m1 H1 S1 x1 q1 => ?_⟩
    cases t with
    | true => exact ⟨p, F1, ι1, e1, m1, S1, q1⟩
    | false => exact ⟨p, F1, ι1, e1, m1, S1, q1⟩
/-! ### tests -/
theorem t_ite {n : Nat} (hc : PT X ec (tT Γ cs W (evT (parN Γ n) c))) (ha : PT X ea (tT Γ cs W (evT (parN Γ n) a))) (hb : PT X eb (tT Γ cs W (evT (parN Γ n) b))) : PT X (.IfExp ec ea eb pos) (tT Γ cs W (evT (parN Γ n) (.ite c a b))) := by
  refine ⟨fun pins s σ H Q I ⟨p, F, ι, e, m, S, q⟩ => ?_⟩
  have q : K1 Γ cs p F ι σ W ((evT (parN Γ n) c e m).bind _) _ := q
  refine isTrue_IfExp (thn (hc.run pins s σ H (fun t H1 => ∃ F1 ι1 e1 m1, Sim Γ cs p F1 ι1 e1 m1 σ H1 ∧ K1 Γ cs p F1 ι1 σ W (if t then evT (parN Γ n) a e1 m1 else evT (parN Γ n) b e1 m1) fun b _ _ _ _ H' => Q b H') I ⟨p, F, ι, e, m, S, q.bind.imp fun t F1 ι1 e1 m1 H1 S1 x1 q1 => ⟨F1, ι1, e1, m1, S1, q1⟩⟩) fun t s2 ⟨H2, I2, F1, ι1, e1, m1, S1, q1⟩ => ?_)
  cases t with
  | true => exact ha.run pins s2 σ H2 Q I2 ⟨p, F1, ι1, e1, m1, S1, q1⟩
  | false => exact hb.run pins s2 σ H2 Q I2 ⟨p, F1, ι1, e1, m1, S1, q1⟩
theorem t_and {n : Nat} {rest : List Expr} (ha : PT X ea (tT Γ cs W (evT (parN Γ n) a))) (hb : PW X (.BoolOp .And (eb :: rest) pos) (tT Γ cs W (evT (parN Γ n) b))) : PW X (.BoolOp .And (ea :: eb :: rest) pos) (tT Γ cs W (evT (parN Γ n) (.and_ a b))) := by
  refine ⟨fun whole pins s σ H Q I ⟨p, F, ι, e, m, S, q⟩ => (pw_and ha hb).run whole pins s σ H Q I ?_⟩
  have q : K1 Γ cs p F ι σ W ((evT (parN Γ n) a e m).bind _) _ := q
  refine ⟨p, F, ι, e, m, S, q.bind.imp fun t F1 ι1 e1 m1 H1 S1 x1 q1 => ?_⟩
  cases t with
  | true => exact ⟨p, F1, ι1, e1, m1, S1, q1⟩
  | false => exact K1.ok q1 S1
theorem t_or {n : Nat} {rest : List Expr} (ha : PT X ea (tT Γ cs W (evT (parN Γ n) a))) (hb : PW X (.BoolOp .Or (eb :: rest) pos) (tT Γ cs W (evT (parN Γ n) b))) : PW X (.BoolOp .Or (ea :: eb :: rest) pos) (tT Γ cs W (evT (parN Γ n) (.or_ a b))) := by
  refine ⟨fun whole pins s σ H Q I ⟨p, F, ι, e, m, S, q⟩ => (pw_or ha hb).run whole pins s σ H Q I ?_⟩
  have q : K1 Γ cs p F ι σ W ((evT (parN Γ n) a e m).bind _) _ := q
  refine ⟨p, F, ι, e, m, S, q.bind.imp fun t F1 ι1 e1 m1 H1 S1 x1 q1 => ?_⟩
  cases t with
  | true => exact K1.ok q1 S1
  | false => exact ⟨p, F1, ι1, e1, m1, S1, q1⟩
theorem t_not {n : Nat} (ha : PT X ea (tT Γ cs W (evT (parN Γ n) a))) : PT X (.UnaryOp .Not ea pos) (tT Γ cs W (evT (parN Γ n) (.not_ a))) :=
  (pt_not ha).weak fun σ H Q ⟨p, F, ι, e, m, S, q⟩ => by
    have q : K1 Γ cs p F ι σ W ((evT (parN Γ n) a e m).bind _) _ := q
    exact ⟨p, F, ι, e, m, S, q.bind.imp fun t F1 ι1 e1 m1 H1 S1 x1 q1 => K1.ok q1 S1⟩
/-- what is tested by its value -/
def plainTest : Expr → Bool
  | .UnaryOp .Not _ _ => false
  | .BoolOp _ _ _ => false
  | .IfExp _ _ _ _ => false
  | .Compare _ _ _ _ => false
  | _ => true
theorem plainTest_is {e : Expr} {env : Env} {whole : Sem Value} (h : plainTest e = true) : isTrue e env whole = (do let v ← whole; standAt e.pos; holding [v] (truthy v)) := by
  cases e <;> first | rfl | (cases h; done) | skip
  rename_i op x p
  cases op <;> first | rfl | cases h
theorem t_tru {n : Nat} (C : Here Γ N sc cs W hot (3 * n + 2) X) (L : Lib Γ n) (T : Tops Γ) (hp : plainTest ea = true) (ha : PE X ea (tO Γ cs W a (evE (parN Γ n) a))) : PT X ea (tT Γ cs W (evT (parN Γ n) (.tru a))) := by
  refine ⟨fun pins s σ H Q I ⟨p, F, ι, e, m, S, q⟩ => ?_⟩
  have q : K1 Γ cs p F ι σ W ((evE (parN Γ n) a e m).bind _) _ := q
  refine isTrue_plain (thn (ha.run pins s σ H (fun x H2 => ∃ F ι e m d, Sim Γ cs p F ι e m σ H2 ∧ OpRl Γ F ι σ a x d ∧ K1 Γ cs p F ι σ W ((parN Γ n).tru a.isPk d (objOf a d e m) e m) fun b _ _ _ _ H' => Q b H') I ⟨p, F, ι, e, m, S, q.bind.imp fun d F1 ι1 e1 m1 H1 S1 x1 q1 v r => ⟨F1, ι1, e1, m1, d, S1, r, q1⟩⟩)
    fun v s2 ⟨x, H2, I2, rx, F, ι, e, m, d, S, r, q⟩ => tru_run C L T I2 rx S r q) (plainTest_is hp)
/-- a op1 b op2 c, of built-in data -/
theorem chn_run {n : Nat} {o1 o2 : CmpOp} {Q : V → Hp → Prop} {Qb : Bool → Hp → Prop} (C : Here Γ N sc cs W hot (3 * n + 2) X) {pins : List (Addr × Obj)} {s : Shared} {σ : St} {H : Hp} {x y : V} {v u : Value} {F : Hp} {ι : List Addr} {e : En} {m : Mu} {d1 d2 : D} {p : En0}
    (I : Inv X pins σ H s) (rx : RelV x v) (ry : RelV y u) (S : Sim Γ cs p F ι e m σ H) (r1 : Rep Γ F ι x d1) (r2 : Rep Γ F ι y d2) {t : Bool} (ht : cmpD o1 (deref m d1) (deref m d2) = some t) {Q' : Value → Shared → Prop} (h : ∀ s', Inv X pins σ H s' → Q' (.bool t) s') :
    wpAny (model X.prog X.w) X.A (compareOp o1 v u) Q' X.xe s := by
  have hu : X.A.units + 64 < cLine := by have := C.unit; omega
  refine thn (op_cmpD C.K hu o1 pins s σ H x y v u (fun z H' => z = .bl t ∧ H' = H) I rx ry ⟨cs, p, F, ι, e, m, σ, _, _, t, S, S.deref r1, S.deref r2, ht, rfl, rfl⟩) fun w s' ⟨z, H', I', rz, ez, eh⟩ => ?_
  subst ez eh
  cases rz
  exact h s' I'
theorem g_chn {n : Nat} {o1 o2 : CmpOp} (C : Here Γ N sc cs W hot (3 * n + 2) X) (hs : noSet ec = true) (ha : PE X ea (tE Γ cs W (evE P a))) (hb : PE X eb (tE Γ cs W (evE P b))) (hc : PE X ec (tE Γ cs W (evE P c))) :
    PE X (.Compare ea [o1, o2] [eb, ec] pos) (tE Γ cs W (evE P (.chn o1 o2 a b c))) := by
  refine ⟨fun pins s σ H Q I ⟨p, F, ι, e, m, S, q⟩ => ?_⟩
  have q : K1 Γ cs p F ι σ W ((evE P a e m).bind _) _ := q
  refine Compare_chain (thn (ha.run pins s σ H _ I ⟨p, F, ι, e, m, S, q.bind.imp fun d1 F1 ι1 e1 m1 H1 S1 x1 q1 v r => (⟨F1, ι1, e1, m1, d1, S1, r, q1⟩ : (fun v H1 => ∃ F1 ι1 e1 m1 d1, Sim Γ cs p F1 ι1 e1 m1 σ H1 ∧ Rep Γ F1 ι1 v d1 ∧ K1 Γ cs p F1 ι1 σ W ((evE P b e1 m1).bind fun y e2 m2 => match cmpD o1 (deref m2 d1) (deref m2 y) with
      | some true => (evE P c e2 m2).bind fun z e3 m3 => .opt ((cmpD o2 (deref m3 y) (deref m3 z)).map .bl) e3 m3
      | some false => .ok (.bl false) e2 m2
      | none => .no) fun d F' ι' _ _ H' => ∀ v, Rep Γ F' ι' v d → Q v H') v H1)⟩) fun v s1 ⟨x, H1, I1, rx, F1, ι1, e1, m1, d1, S1, r1, q1⟩ => chain_link ?_) (noSet_m hs)
  refine thn (hb.run pins s1 σ H1 _ I1 ⟨p, F1, ι1, e1, m1, S1, (K1.bind q1).imp fun d2 F2 ι2 e2 m2 H2 S2 x2 q2 v r => (⟨F2, ι2, e2, m2, d2, S2, r1.mono x2, r, q2⟩ : (fun v H2 => ∃ F2 ι2 e2 m2 d2, Sim Γ cs p F2 ι2 e2 m2 σ H2 ∧ Rep Γ F2 ι2 x d1 ∧ Rep Γ F2 ι2 v d2 ∧ K1 Γ cs p F2 ι2 σ W (match cmpD o1 (deref m2 d1) (deref m2 d2) with
      | some true => (evE P c e2 m2).bind fun z e3 m3 => .opt ((cmpD o2 (deref m3 d2) (deref m3 z)).map .bl) e3 m3
      | some false => .ok (.bl false) e2 m2
      | none => .no) fun d F' ι' _ _ H' => ∀ v, Rep Γ F' ι' v d → Q v H') v H2)⟩) fun u s2 ⟨y, H2, I2, ry, F2, ι2, e2, m2, d2, S2, r1, r2, q2⟩ => ?_
  split at q2
  · rename_i ht
    refine chn_run (o2 := o2) (Q := Q) (Qb := fun _ _ => True) C I2 rx ry S2 r1 r2 ht fun s3 I3 => wpAny_truthy_bool (ite_tt (chain_last ?_))
    refine thn (hc.run pins s3 σ H2 _ I3 ⟨p, F2, ι2, e2, m2, S2, (K1.bind q2).imp fun d3 F3 ι3 e3 m3 H3 S3 x3 q3 v r => (⟨F3, ι3, e3, m3, d3, S3, r2.mono x3, r, q3⟩ : (fun v H3 => ∃ F3 ι3 e3 m3 d3, Sim Γ cs p F3 ι3 e3 m3 σ H3 ∧ Rep Γ F3 ι3 y d2 ∧ Rep Γ F3 ι3 v d3 ∧ K1 Γ cs p F3 ι3 σ W (.opt ((cmpD o2 (deref m3 d2) (deref m3 d3)).map .bl) e3 m3) fun d F' ι' _ _ H' => ∀ v, Rep Γ F' ι' v d → Q v H') v H3)⟩) fun w s4 ⟨z, H4, I4, rz, F3, ι3, e3, m3, d3, S3, r2, r3, q3⟩ => ?_
    obtain ⟨d, hd, q3⟩ := K1.optS q3
    obtain ⟨t, ht2, rfl⟩ := Option.map_eq_some_iff.mp hd
    exact chn_run (o2 := o2) (Q := Q) (Qb := fun _ _ => True) C I4 ry rz S3 r2 r3 ht2 fun s5 I5 => ⟨.bl t, H4, I5, rfl, K1.ok q3 S3 _ (.bl _)⟩
  · rename_i ht
    exact chn_run (o2 := o2) (Q := Q) (Qb := fun _ _ => True) C I2 rx ry S2 r1 r2 ht fun s3 I3 => wpAny_truthy_bool (ite_ff ⟨.bl false, H2, I3, rfl, K1.ok q2 S2 _ (.bl _)⟩)
  · exact q2.elim
theorem t_chn {n : Nat} {o1 o2 : CmpOp} (C : Here Γ N sc cs W hot (3 * n + 2) X) (hs : noSet ec = true) (ha : PE X ea (tE Γ cs W (evE P a))) (hb : PE X eb (tE Γ cs W (evE P b))) (hc : PE X ec (tE Γ cs W (evE P c))) :
    PT X (.Compare ea [o1, o2] [eb, ec] pos) (tT Γ cs W (evT P (.chn o1 o2 a b c))) := by
  refine ⟨fun pins s σ H Q I ⟨p, F, ι, e, m, S, q⟩ => ?_⟩
  have q : K1 Γ cs p F ι σ W ((evE P a e m).bind _) _ := q
  refine isTrue_chain (thn (ha.run pins s σ H _ I ⟨p, F, ι, e, m, S, q.bind.imp fun d1 F1 ι1 e1 m1 H1 S1 x1 q1 v r => (⟨F1, ι1, e1, m1, d1, S1, r, q1⟩ : (fun v H1 => ∃ F1 ι1 e1 m1 d1, Sim Γ cs p F1 ι1 e1 m1 σ H1 ∧ Rep Γ F1 ι1 v d1 ∧ K1 Γ cs p F1 ι1 σ W ((evE P b e1 m1).bind fun y e2 m2 => match cmpD o1 (deref m2 d1) (deref m2 y) with
      | some true => (evE P c e2 m2).bind fun z e3 m3 => .opt (cmpD o2 (deref m3 y) (deref m3 z)) e3 m3
      | some false => .ok false e2 m2
      | none => .no) fun b _ _ _ _ H' => Q b H') v H1)⟩) fun v s1 ⟨x, H1, I1, rx, F1, ι1, e1, m1, d1, S1, r1, q1⟩ => test_link ?_) (noSet_m hs)
  refine thn (hb.run pins s1 σ H1 _ I1 ⟨p, F1, ι1, e1, m1, S1, (K1.bind q1).imp fun d2 F2 ι2 e2 m2 H2 S2 x2 q2 v r => (⟨F2, ι2, e2, m2, d2, S2, r1.mono x2, r, q2⟩ : (fun v H2 => ∃ F2 ι2 e2 m2 d2, Sim Γ cs p F2 ι2 e2 m2 σ H2 ∧ Rep Γ F2 ι2 x d1 ∧ Rep Γ F2 ι2 v d2 ∧ K1 Γ cs p F2 ι2 σ W (match cmpD o1 (deref m2 d1) (deref m2 d2) with
      | some true => (evE P c e2 m2).bind fun z e3 m3 => .opt (cmpD o2 (deref m3 d2) (deref m3 z)) e3 m3
      | some false => .ok false e2 m2
      | none => .no) fun b _ _ _ _ H' => Q b H') v H2)⟩) fun u s2 ⟨y, H2, I2, ry, F2, ι2, e2, m2, d2, S2, r1, r2, q2⟩ => ?_
  split at q2
  · rename_i ht
    refine chn_run (o2 := o2) (Q := fun _ _ => True) (Qb := Q) C I2 rx ry S2 r1 r2 ht fun s3 I3 => wpAny_truthy_bool (ite_tt (test_last ?_))
    refine thn (hc.run pins s3 σ H2 _ I3 ⟨p, F2, ι2, e2, m2, S2, (K1.bind q2).imp fun d3 F3 ι3 e3 m3 H3 S3 x3 q3 v r => (⟨F3, ι3, e3, m3, d3, S3, r2.mono x3, r, q3⟩ : (fun v H3 => ∃ F3 ι3 e3 m3 d3, Sim Γ cs p F3 ι3 e3 m3 σ H3 ∧ Rep Γ F3 ι3 y d2 ∧ Rep Γ F3 ι3 v d3 ∧ K1 Γ cs p F3 ι3 σ W (.opt (cmpD o2 (deref m3 d2) (deref m3 d3)) e3 m3) fun b _ _ _ _ H' => Q b H') v H3)⟩) fun w s4 ⟨z, H4, I4, rz, F3, ι3, e3, m3, d3, S3, r2, r3, q3⟩ => ?_
    obtain ⟨t, ht2, q3⟩ := K1.optS q3
    exact chn_run (o2 := o2) (Q := fun _ _ => True) (Qb := Q) C I4 ry rz S3 r2 r3 ht2 fun s5 I5 => wpAny_truthy_bool ⟨H4, I5, K1.ok q3 S3⟩
  · rename_i ht
    exact chn_run (o2 := o2) (Q := fun _ _ => True) (Qb := Q) C I2 rx ry S2 r1 r2 ht fun s3 I3 => wpAny_truthy_bool (ite_ff ⟨H2, I3, K1.ok q2 S2⟩)
  · exact q2.elim
end
end G
end
section
set_option Elab.async false
set_option linter.all false
set_option maxRecDepth 100000
set_option maxHeartbeats 1000000
/-! G: names of the module, calls. -/
namespace G
open PySem PySem.Spec PyProof.Rows L2
def gloB (sc : Scope) (x : Str) : Bool := (match sc.names.lookup x with
  | some .globalImplicit => true
  | _ => false) && !(x == ("__debug__" : Str))
/-- no super() -/
def noSuper : Expr → Bool
  | .Call (.Name _ _) [] [] _ => false
  | _ => true
theorem base_is {o : Expr} {nm : Str} {env : Env} {whole : Sem Value} (h : noSuper o = true) : attributeBase o nm env whole = whole := by
  unfold attributeBase
  split
  · cases h
  · rfl
/-- o.m(..), so few values -/
def fewB (es : List Expr) (kws : List Keyword) (apos pos : Pos) : Bool := noStar es && (kwNames kws).isSome && decide (es.length + kws.length < 29) && (apos.endLine == pos.line)
theorem few_is {es : List Expr} {kws : List Keyword} {apos pos : Pos} {env : Env} (h : fewB es kws apos pos = true) :
    methodCallForm (es.length + kws.length) (backTo pos (starEach es env)) (backToKw pos (keywordEach kws env)) = true ∧ (apos.endLine == pos.line) = true ∧ noStar es = true := by
  unfold fewB at h
  simp only [Bool.and_eq_true, decide_eq_true_eq] at h
  obtain ⟨⟨⟨h1, h2⟩, h3⟩, h4⟩ := h
  refine ⟨?_, h4, h1⟩
  unfold methodCallForm
  obtain ⟨ks, hk⟩ := Option.isSome_iff_exists.mp h2
  obtain ⟨k1, _, _⟩ := kw_facts (env := env) (pos := pos) hk
  have a1 : (backTo pos (starEach es env)).all (fun x => !x.1) = true := by
    have := star_any (env := env) (pos := pos) h1
    rw [List.any_eq_false] at this
    rw [List.all_eq_true]
    intro x hx
    have := this x hx
    simpa using this
  rw [a1, k1]
  simp only [Bool.true_and, decide_eq_true_eq]
  split <;> omega
theorem mcall_eq {o : Expr} {nm : Str} {es : List Expr} {kws : List Keyword} {apos pos : Pos} {env : Env} (hs : noSuper o = true) (hf : fewB es kws apos pos = true) :
    eval (.Call (.Attribute o nm apos) es kws pos) env = (do
      let ov ← eval o env
      standAt apos.atName
      let (f, first) ← holding [ov] (getMethod ov nm (do return (← importBound o env).getD true))
      callWith pos f first (backTo pos (starEach es env)) (backToKw pos (keywordEach kws env))) := by
  obtain ⟨h1, h2, h3⟩ := few_is (env := env) hf
  rw [arm_eval_Call, base_is hs]
  unfold methodCall
  rw [h1]
  have e : methodCallPos true o env apos pos = pure pos := by
    unfold methodCallPos
    rw [h2]
    rfl
  simp only [e, pure_bind]
  rfl
section
variable {Γ : Ge} {N : List Str} {sc : Scope} {cs : List Cau} {W : WX} {hot : Bool} {k : Nat} {X : Cx} {P : Par} {a b c : C} {ea eb ec : Expr} {pos p1 apos : Pos}
theorem glo_of (C : Here Γ N sc cs W hot k X) {x : Str} (h : gloB sc x = true) : Gl X x ∧ (x == ("__debug__" : Str)) = false := by
  unfold gloB at h
  rw [Bool.and_eq_true] at h
  refine ⟨?_, by simpa using h.2⟩
  show X.env.scope.names.lookup x = _
  rw [C.sc]
  have h1 := h.1
  split at h1
  · assumption
  · cases h1
theorem g_glb {n i : Nat} (C : Here Γ N sc cs W hot k X) (T : Tops Γ) {x : Str} (hg : gloB sc x = true) (hx : x = Γ.tb.g i) : PE X (.Name x pos) (tE Γ cs W (evE (parN Γ n) (.glb i))) := by
  subst hx
  obtain ⟨g1, g2⟩ := glo_of C hg
  refine ⟨fun pins s σ H Q I ⟨p, F, ι, e, m, S, q⟩ => ?_⟩
  have q : K1 Γ cs p F ι σ W (.opt (Γ.pg.gl[i]?) e m) _ := q
  obtain ⟨d, hd, q⟩ := K1.optS q
  obtain ⟨v, u, hm, rv, rd⟩ := T.gl i d hd
  exact ld_glob I g1 (by rw [C.mg]; exact hm) ⟨v, H, I, rv, K1.ok q S v (rd.mono (Ext.mk (fun _ _ h => by unfold nowhere at h; cases h) ⟨ι, rfl⟩))⟩ g2
/-! ### calls of the text's own -/
theorem take_app {α : Type} {us ws : List α} {n : Nat} (h : ws.length = n) : (us ++ ws).take ((us ++ ws).length - n) = us ∧ (us ++ ws).drop ((us ++ ws).length - n) = ws := by
  subst h
  rw [List.length_append, Nat.add_sub_cancel]
  exact ⟨List.take_left, List.drop_left⟩
theorem arrK_is {fo : Fo} {ds zs qs : List D} (h : arrK fo ds zs = some qs) : zs.length = fo.ks.length ∧ arrN fo.nw (ds ++ zs) fo.ar = some qs := by
  unfold arrK at h
  split at h
  · exact ⟨by assumption, h⟩
  · cases h
/-- the arguments, then the keywords' values -/
theorem args2 {σ : St} {H : Hp} {p : En0} {F : Hp} {ι : List Addr} {e : En} {m : Mu} {α : Type} {f : List D → List D → En → Mu → R α} {k : α → Hp → List Addr → En → Mu → Hp → Prop} (S : Sim Γ cs p F ι e m σ H)
    (q : K1 Γ cs p F ι σ W ((evA P a e m).bind fun ds e1 m1 => (evA P b e1 m1).bind fun zs e2 m2 => f ds zs e2 m2) k) :
    tA Γ cs W (evA P a) σ H fun vs H1 => tA Γ cs W (evA P b) σ H1 fun ws H2 => ∃ F2 ι2 e m ds zs, Sim Γ cs p F2 ι2 e m σ H2 ∧ Ext F ι F2 ι2 ∧ Reps Γ F2 ι2 vs ds ∧ Reps Γ F2 ι2 ws zs ∧ K1 Γ cs p F2 ι2 σ W (f ds zs e m) k :=
  ⟨p, F, ι, e, m, S, q.bind.imp fun ds F1 ι1 e1 m1 H1 S1 x1 q1 vs r1 => ⟨p, F1, ι1, e1, m1, S1, (K1.bind q1).imp fun zs F2 ι2 e2 m2 H2 S2 x2 q2 ws r2 => ⟨F2, ι2, e2, m2, ds, zs, S2, x1.trans x2, r1.mono x2, r2, q2⟩⟩⟩
theorem g_call {n i : Nat} (C : Here Γ N sc cs W hot (3 * n + 2) X) (L : Lib Γ n) (T : Tops Γ) {x : Str} {es : List Expr} {kws : List Keyword} {fo : Fo} (hg : gloB sc x = true) (hfo : Γ.pg.fos[i]? = some fo) (hx : x = Γ.tb.f fo.f) (hst : noStar es = true) (hks : kwNames kws = some fo.ks)
    (ha : PA X es (tA Γ cs W (evA (parN Γ n) a))) (hb : PK X kws (tA Γ cs W (evA (parN Γ n) b))) (na : es = [] → a = .nil) (nb : kws = [] → b = .nil) :
    PE X (.Call (.Name x p1) es kws pos) (tE Γ cs W (evE (parN Γ n) (.call i a b))) := by
  subst hx
  obtain ⟨g1, g2⟩ := glo_of C hg
  refine ⟨fun pins s σ H Q I ⟨p, F, ι, e, m, S, q⟩ => ?_⟩
  have q : K1 Γ cs p F ι σ W ((evA (parN Γ n) a e m).bind fun ds e1 m1 => (evA (parN Γ n) b e1 m1).bind fun zs e2 m2 => match Γ.pg.fos[i]? with
    | some fo => match arrK fo ds zs with
      | some vs => ((run Γ.pg n fo.f vs m2).lift e2)
      | none => .no
    | none => .no) _ := q
  simp only [hfo] at q
  cases n with
  | zero =>
    refine wpAny_Call_Name_kw (ld_glob I g1 (by rw [C.mg]; exact T.fmg i fo hfo) ?_ g2)
    -- nothing is promised at depth 0
    have no : ∀ {α : Type} {ds zs : List D} {e : En} {m : Mu}, (match arrK fo ds zs with
      | some vs => ((run Γ.pg 0 fo.f vs m).lift e)
      | none => .no) = (.no : R D) := by
      intro α ds zs e m
      split <;> rfl
    have h := args2 S q
    have hk : PySem.W.keepIn X.K (.ref (Γ.fad fo.f)) = true := by
      rw [C.K]
      exact T.fkp i fo hfo
    refine call_any (first := []) hk hst hks ha hb (fun e σ H Q h => by have := na e; subst this; exact a_nil' h) (fun e σ H Q h => by have := nb e; subst this; exact a_nil' h) I h fun us ws s2 vs zs H2 I2 r1 r2 ⟨F, ι, e, m, ds, zs, S, _, _, _, q⟩ => ?_
    rw [no (α := D)] at q
    exact q.elim
  | succ n =>
    refine wpAny_Call_Name_kw (ld_glob I g1 (by rw [C.mg]; exact T.fmg i fo hfo) ?_ g2)
    have hk : PySem.W.keepIn X.K (.ref (Γ.fad fo.f)) = true := by
      rw [C.K]
      exact T.fkp i fo hfo
    refine call_any (first := []) hk hst hks ha hb (fun e σ H Q h => by have := na e; subst this; exact a_nil' h) (fun e σ H Q h => by have := nb e; subst this; exact a_nil' h) I (args2 S q) fun us ws s2 vs zs H2 I2 r1 r2 ⟨F, ι, e, m, ds, zs, S, xx, rd1, rd2, q⟩ => ?_
    split at q
    · rename_i qs hq
      obtain ⟨l1, hq⟩ := arrK_is hq
      cases ht : Γ.pg.fns[fo.f]? with
      | none => simp only [run, ht] at q; exact q.elim
      | some t =>
        have hl : qs.length = t.np := by
          by_cases z : qs.length = t.np
          · exact z
          · simp only [run, ht, if_neg z] at q; exact q.elim
        have lw : ws.length = fo.ks.length := by rw [← r2.length, rd2.length, l1]
        obtain rfl := C.cool (by omega)
        have := run_own C (L.fn fo.f t ht) (by omega) (T.bind i fo hfo) (Q := Q) I2 (r1.append r2) (rd1.append rd2) hq (by rw [hl, T.np _ t ht]) (fun ws' rw' => spF_of S rw' q)
        rw [(take_app lw).1, (take_app lw).2] at this
        exact this
    · exact q.elim
/-- C(..): a new instance -/
theorem run_mk {n : Nat} (C : Here Γ N sc cs W hot (3 * n + 2) X) (L : Lib Γ n) (T : Tops Γ) {cn nw : Nat} {kl : Cl} {ks : List Str} {ar : List Ar} (hk : Γ.pg.cls[cn]? = some kl) (hb : BindM Γ (Γ.fdd kl.init) (Γ.fps kl.init) nw ks ar)
    {pins : List (Addr × Obj)} {s : Shared} {σ : St} {H : Hp} {Q : VK} {xs : List Value} {vs : List V} {ds qs : List D} {p : En0} {F : Hp} {ι : List Addr} {e : En} {m : Mu}
    (I : Inv X pins σ H s) (rv : Vals vs xs) (S : Sim Γ cs p F ι e m σ H) (rd : Reps Γ F ι vs ds) (ha : arrN nw ds ar = some qs) (hl : qs.length + 1 = (Γ.fps kl.init).length)
    (q : K1 Γ cs p F ι σ W ((mk Γ.pg n cn qs m).lift e) fun d F' ι' _ _ H' => ∀ v, Rep Γ F' ι' v d → Q v H') :
    wpAny (model X.prog X.w) X.A (call (.ref (Γ.cad cn)) (xs.take (xs.length - ks.length)) (ks.zip (xs.drop (xs.length - ks.length)))) (EP X pins σ Q) X.xe s := by
  have Fa := L.mks cn kl hk
  have M := T.mks cn kl hk
  rw [← C.K] at M
  have hF : FnG X.prog X.w X.K X.mg X.base (L2.CX X.prog X.w) (3 * n) (Γ.fad kl.init) (Γ.fdd kl.init) (Γ.fps kl.init) (spI Γ n cn) := by rw [C.prog, C.w, C.K, C.mg, C.base]; exact Fa.ok
  have hne : s.heap.objs.size ≠ s.heap.objs.size + 1 := Nat.ne_of_lt (Nat.lt_succ_self _)
  have h1 : H (s.heap.objs.size + 1) = none := I.hok.fresh (Nat.le_succ _)
  have h2 : H s.heap.objs.size = none := I.hok.fresh (Nat.le_refl _)
  have I2 := Inv.made (C := Γ.cad cn) I
  have kin : Γ.K.In ({ s with heap := (s.heap.push PySem.W.emptyDict).push (PySem.W.instObj (Γ.cad cn) s.heap.objs.size) } : Shared).heap := by rw [← C.K]; exact I2.kIn
  obtain ⟨ys, ws, b, rw', rq⟩ := hb _ (.ref (s.heap.objs.size + 1)) xs vs F ι ds qs kin rv rd ha hl
  have hq : spI Γ n cn (.ref (s.heap.objs.size + 1) :: ws) (upd (upd H s.heap.objs.size (.own (s.heap.objs.size + 1))) (s.heap.objs.size + 1) (.ins (Γ.cad cn) s.heap.objs.size [])) (fun v H2 => v = .non ∧ Q (.ref (s.heap.objs.size + 1)) H2) (WE W σ) := by
    refine ⟨H, F, ι, qs, m, _, _, ws, rfl, rfl, h1, h2, hne, S.start, rq, ?_⟩
    have := kr_of (f := 0) S q
    cases hr : mk Γ.pg n cn qs m with
    | no => rw [hr] at this; exact this.elim
    | ex c fs m' => rw [hr] at this; exact this
    | ok d m' =>
      rw [hr] at this
      exact fun v F' ι' H' T x r ev => ⟨rfl, ev ▸ this v F' ι' H' T x r⟩
  have h0 : hot = false := by
    cases n with
    | zero => exact (q : False).elim
    | succ n => exact C.cool (by omega)
  have hr : RoomG (3 * n + 1) X.A := ⟨(C.room h0).mono (by omega), C.gds⟩
  refine wpAny_call (make_map (f := Γ.fad kl.init) I.kIn M.makes M.init (beq_iff_eq.mp M.fn) (codeAny_mono (hF.run _ X.stack _ _ _ (Value.ref (s.heap.objs.size + 1) :: ys) (V.ref (s.heap.objs.size + 1) :: ws) _ (WE W σ) (hr.make (Γ.cad cn) _ _)
    (I2.env0.make (Γ.cad cn) _ _) b (.cons rfl rw') hq) fun r s' hq' => ?_))
  cases r with
  | error x => exact passAt C.tk σ pins _ _ x s' I2 hq'
  | ok fl =>
    cases fl with
    | ret u =>
      obtain ⟨v, H', I3, rv, ev, q3⟩ := I2.after hq'
      subst ev
      exact ⟨rv, ⟨V.ref (s.heap.objs.size + 1), H', I3, rfl, q3⟩⟩
    | next => exact False.elim hq'
    | brk => exact False.elim hq'
    | cont => exact False.elim hq'
theorem g_make {n i : Nat} (C : Here Γ N sc cs W hot (3 * n + 2) X) (L : Lib Γ n) (T : Tops Γ) {x : Str} {es : List Expr} {kws : List Keyword} {fo : Fo} {kl : Cl} (hg : gloB sc x = true) (hfo : Γ.pg.mfos[i]? = some fo) (hk : Γ.pg.cls[fo.f]? = some kl) (hx : x = Γ.tb.c fo.f) (hst : noStar es = true) (hks : kwNames kws = some fo.ks)
    (ha : PA X es (tA Γ cs W (evA (parN Γ n) a))) (hb : PK X kws (tA Γ cs W (evA (parN Γ n) b))) (na : es = [] → a = .nil) (nb : kws = [] → b = .nil) :
    PE X (.Call (.Name x p1) es kws pos) (tE Γ cs W (evE (parN Γ n) (.make i a b))) := by
  subst hx
  obtain ⟨g1, g2⟩ := glo_of C hg
  refine ⟨fun pins s σ H Q I ⟨p, F, ι, e, m, S, q⟩ => ?_⟩
  have q : K1 Γ cs p F ι σ W ((evA (parN Γ n) a e m).bind fun ds e1 m1 => (evA (parN Γ n) b e1 m1).bind fun zs e2 m2 => match Γ.pg.mfos[i]? with
    | some fo => match arrK fo ds zs with
      | some vs => ((mk Γ.pg n fo.f vs m2).lift e2)
      | none => .no
    | none => .no) _ := q
  simp only [hfo] at q
  refine wpAny_Call_Name_kw (ld_glob I g1 (by rw [C.mg]; exact T.cmg fo.f kl hk) ?_ g2)
  have hkp : PySem.W.keepIn X.K (.ref (Γ.cad fo.f)) = true := by rw [C.K]; exact (T.mks fo.f kl hk).kp
  refine call_any (first := []) hkp hst hks ha hb (fun e σ H Q h => by have := na e; subst this; exact a_nil' h) (fun e σ H Q h => by have := nb e; subst this; exact a_nil' h) I (args2 S q) fun us ws s2 vs zs H2 I2 r1 r2 ⟨F, ι, e, m, ds, zs, S, xx, rd1, rd2, q⟩ => ?_
  split at q
  · rename_i qs hq
    obtain ⟨l1, hq⟩ := arrK_is hq
    have lw : ws.length = fo.ks.length := by rw [← r2.length, rd2.length, l1]
    cases n with
    | zero => exact q.elim
    | succ n =>
      cases ht : Γ.pg.fns[kl.init]? with
      | none => simp only [mk, hk, ht] at q; exact q.elim
      | some t =>
        have hl : qs.length + 1 = t.np := by
          by_cases z : qs.length + 1 = t.np
          · exact z
          · simp only [mk, hk, ht, if_neg z] at q; exact q.elim
        have := run_mk C L T hk (T.mbind i fo kl hfo hk) (Q := Q) I2 (r1.append r2) S (rd1.append rd2) hq (by rw [hl, T.np _ t ht]) q
        rw [(take_app lw).1, (take_app lw).2] at this
        exact this
  · exact q.elim
/-- o.m(..), a method of the text -/
theorem g_meth {n : Nat} (C : Here Γ N sc cs W hot (3 * n + 2) X) (L : Lib Γ n) (T : Tops Γ) {nm : Str} {es : List Expr} (no : a.isPk = false) (hs : noSuper ea = true) (hf : fewB es [] apos pos = true) (ha : PE X ea (tE Γ cs W (evE (parN Γ n) a))) (hb : PA X es (tA Γ cs W (evA (parN Γ n) b))) (nb : es = [] → b = .nil) :
    PE X (.Call (.Attribute ea nm apos) es [] pos) (tE Γ cs W (evE (parN Γ n) (.meth a nm b))) := by
  refine ⟨fun pins s σ H Q I ⟨p, F, ι, e, m, S, q⟩ => ?_⟩
  have q : K1 Γ cs p F ι σ W ((evE (parN Γ n) a e m).bind _) _ := q
  refine PySem.W.methodCall_KW (pl := _) ?_ (mcall_eq hs hf)
  refine thn (ha.run pins s σ H _ I ⟨p, F, ι, e, m, S, q.bind.imp fun d F1 ι1 e1 m1 H1 S1 x1 q1 v r => (⟨F1, ι1, e1, m1, d, S1, r, q1⟩ : (fun v H1 => ∃ F1 ι1 e1 m1 d, Sim Γ cs p F1 ι1 e1 m1 σ H1 ∧ Rep Γ F1 ι1 v d ∧ K1 Γ cs p F1 ι1 σ W (match objOf a d e1 m1 with
    | some (.ins c fs) => if a.isPk then .no else match (parN Γ n).meth c nm with
      | some g => if (fs.lookup nm).isSome then .no else (evA (parN Γ n) b e1 m1).bind fun ds e2 m2 => ((parN Γ n).call g (d :: ds) m2).lift e2
      | none => .no
    | _ => .no) fun d F' ι' _ _ H' => ∀ v, Rep Γ F' ι' v d → Q v H') v H1)⟩) fun v s1 ⟨x, H1, I1, rx, F1, ι1, e1, m1, d, S1, r, q1⟩ => ?_
  have oa : objOf a d e1 m1 = some (deref m1 d) := by cases a <;> first | rfl | cases no
  rw [oa] at q1
  have rd := S1.deref r
  split at q1
  · rename_i c fs e2
    rw [no] at q1
    rw [Option.some.inj e2] at rd
    have q1 : K1 Γ cs p F1 ι1 σ W (match (parN Γ n).meth c nm with
      | some g => if (fs.lookup nm).isSome then .no else (evA (parN Γ n) b e1 m1).bind fun ds e2 m2 => ((parN Γ n).call g (d :: ds) m2).lift e2
      | none => .no) fun d F' ι' _ _ H' => ∀ v, Rep Γ F' ι' v d → Q v H' := q1
    split at q1
    · rename_i f hf'
      obtain ⟨kl, hk, hm⟩ := meth_mem hf'
      split at q1
      · exact q1.elim
      · rename_i hnone
        obtain ⟨a1, dx1, xs1, rfl, ha1, rF⟩ := rd.ins S1
        cases rx
        have M := T.meth c kl _ f hk hm
        have hCl := (T.cls c kl hk).1
        rw [← C.K] at M hCl
        have hno : xs1.lookup nm = none := (rF.look (f := nm)).2 (by cases hz : fs.lookup nm with | none => rfl | some z => rw [hz] at hnone; exact absurd rfl hnone)
        refine getmeth_ok I1 ha1 hCl M hno ?_
        have hkp := M.kp
        refine call_any (ks := []) (kws := []) (first := [.ref a1]) hkp (few_is (env := X.env) hf).2.2 rfl hb (k_nil (Γ := Γ) (cs := cs) (W := W) (P := parN Γ n)) (fun e σ H Q h => by have := nb e; subst this; exact a_nil' h) (fun _ σ H Q h => a_nil' h) I1
          (args2 (P := parN Γ n) (b := .nil) (f := fun ds _ e2 m2 => ((parN Γ n).call f (d :: ds) m2).lift e2) S1 q1) fun us ws s2 vs zs H2 I2 r1 r2 ⟨F, ι, e, m, ds, zs, S, xx, rd1, rd2, q⟩ => ?_
        have := run_meth C L T (Q := Q) (vs := .ref a1 :: vs) I2 (.cons rfl r1) S (.cons (r.mono xx) rd1) hk (List.mem_append_left _ hm) q
        simpa using this
    · exact q1.elim
  · exact q1.elim
theorem kr_nox {σ : St} {H : Hp} {p : En0} {F : Hp} {ι : List Addr} {e : En} {m : Mu} {Q : VK} {r : R0} (S : Sim Γ cs p F ι e m σ H) (h : K1 Γ cs p F ι σ W (r.lift e).nox fun d F' ι' _ _ H' => ∀ v, Rep Γ F' ι' v d → Q v H') : KR Γ ⟨H, F, ι, none⟩ F ι r Q (fun _ _ _ => False) := by
  cases r with
  | ok d m' => exact fun v F' ι' H' T x r => h F' ι' H' (S.back T) x v r
  | ex c fs m' => exact h.elim
  | no => exact h
/-- e.f: an attribute, a property -/
theorem g_att {n : Nat} (C : Here Γ N sc cs W hot (3 * n + 2) X) (L : Lib Γ n) (T : Tops Γ) {nm : Str} (hs : noSuper ea = true) (ha : PE X ea (tO Γ cs W a (evE (parN Γ n) a))) :
    PE X (.Attribute ea nm pos) (tE Γ cs W (evE (parN Γ n) (.att a nm))) := by
  refine ⟨fun pins s σ H Q I ⟨p, F, ι, e, m, S, q⟩ => ?_⟩
  have q : K1 Γ cs p F ι σ W ((evE (parN Γ n) a e m).bind _) _ := q
  refine attr_of (base_is hs) ?_
  refine thn (ha.run pins s σ H _ I ⟨p, F, ι, e, m, S, q.bind.imp fun d F1 ι1 e1 m1 H1 S1 x1 q1 v r => (⟨F1, ι1, e1, m1, d, S1, r, q1⟩ : (fun v H1 => ∃ F1 ι1 e1 m1 d, Sim Γ cs p F1 ι1 e1 m1 σ H1 ∧ OpRl Γ F1 ι1 σ a v d ∧ K1 Γ cs p F1 ι1 σ W (match objOf a d e1 m1 with
    | some (.ins c fs) => match (parN Γ n).prop c nm with
      | some g => if a.isPk then .no else (((parN Γ n).call g [d] m1).lift e1).nox
      | none => if (parN Γ n).fld c nm then .opt (fs.lookup nm) e1 m1 else .no
    | _ => .no) fun d F' ι' _ _ H' => ∀ v, Rep Γ F' ι' v d → Q v H') v H1)⟩) fun v s1 ⟨x, H1, I1, rx, F1, ι1, e1, m1, d, S1, r, q1⟩ => ?_
  split at q1
  · rename_i c fs e2
    have rd := S1.obj r e2
    obtain ⟨a1, dx1, xs1, rfl, ha1, rF⟩ := rd.ins S1
    cases rx
    split at q1
    · rename_i g hg
      obtain ⟨kl, hk, hm⟩ := prop_mem hg
      obtain ⟨pa, hp⟩ := T.prop c kl nm g hk hm
      have hCl := (T.cls c kl hk).1
      rw [← C.K] at hp hCl
      cases hpk : a.isPk with
      | true => rw [hpk] at q1; exact q1.elim
      | false =>
        rw [hpk] at q1
        have r := r.rep (notPk hpk)
        have q1 : K1 Γ cs p F1 ι1 σ W ((run Γ.pg n g [d] m1).lift e1).nox fun d F' ι' _ _ H' => ∀ v, Rep Γ F' ι' v d → Q v H' := q1
        cases n with
        | zero => exact q1.elim
        | succ n =>
          cases ht : Γ.pg.fns[g]? with
          | none => simp only [run, ht] at q1; exact q1.elim
          | some t =>
            have hl : ([d] : List D).length = t.np := by
              by_cases z : ([d] : List D).length = t.np
              · exact z
              · simp only [run, ht, if_neg z] at q1; exact q1.elim
            have hl : 1 = t.np := hl
            have Fa := L.fn g t ht
            have hF : FnG X.prog X.w X.K X.mg X.base (L2.CX X.prog X.w) (3 * (n + 1)) (Γ.fad g) (Γ.fdd g) (Γ.fps g) (spF Γ (n + 1) g) := by rw [C.prog, C.w, C.K, C.mg, C.base]; exact Fa.ok
            obtain ⟨mA, O, _, _, _, _⟩ := ins_get I1.hok ha1
            obtain ⟨od, J, _⟩ := O.look
            obtain ⟨rest, hrec⟩ := hp.rec_
            have I2 := I1.tok (s1.toks + 1)
            have hc : (PySem.W.clsIn X.K (Γ.cad c)).isSome = true := by
              obtain ⟨cd, hc, _⟩ := PySem.W.any_some hCl.hd
              rw [hc]
              rfl
            have hsp : spF Γ (n + 1) g [.ref a1] H1 Q (fun _ _ _ => False) := ⟨F1, ι1, [d], m1, S1.start, .cons r .nil, kr_nox S1 q1⟩
            have hb := T.plain c kl nm g hk (List.mem_append_right _ hm)
            rw [← C.K] at hb
            have hb2 := hb { s1 with toks := s1.toks + 1 } [.ref a1] I2.kIn (by rw [List.append_nil, ← T.np g t ht, ← hl]; rfl)
            refine PySem.W.get_bind I1.kIn J (PySem.W.plainGet_of (hCl.get nm)).1 (PySem.W.findObj_data hc hp.at_ hp.get hp.tak) (PySem.W.plainGet_of (hCl.get nm)).2 (wpAny_call (PySem.W.prop_get (s := { s1 with toks := s1.toks + 1 }) I1.kIn hrec ?_))
            refine codeAny_mono (hF.run X.A.in1 X.stack { s1 with toks := s1.toks + 1 } H1 ⟨[.ref a1], []⟩ [.ref a1] [.ref a1] Q (fun _ _ _ => False) (RoomG.in1 ⟨(C.room (C.cool (by omega))).mono (by omega), C.gds⟩) I2.env0.in1 (by simpa using hb2) (.cons rfl .nil) hsp) fun r s' hq => ?_
            cases r with
            | error er =>
              obtain ⟨_, _, _, _, _, _, _, _, _, _, _, _, hE⟩ := hq
              exact hE.elim
            | ok fl =>
              cases fl with
              | ret u =>
                obtain ⟨v, H', I3, rv, q3⟩ := I2.after hq
                show wpAny _ _ (handedOut u) _ _ _
                rw [PySem.W.handedOut_of (handed_of rv)]
                exact wpAny_pure ⟨v, H', I3, rv, q3⟩
              | next => exact False.elim hq
              | brk => exact False.elim hq
              | cont => exact False.elim hq
    · split at q1
      · rename_i hf
        obtain ⟨y, hy, q1⟩ := K1.optS q1
        unfold Par.fld at hf
        split at hf
        · rename_i kl hk
          have hk : Γ.pg.cls[c]? = some kl := hk
          have hf := of_decide_eq_true hf
          have hn := T.noat c kl nm hk hf
          have hCl := (T.cls c kl hk).1
          rw [← C.K] at hn hCl
          obtain ⟨w, hw, rw'⟩ := (rF.look (f := nm)).1 y hy
          exact getattr_ok I1 ha1 hCl hn hw fun u s2 I2 ru => ⟨w, H1, I2, ru, K1.ok q1 S1 w rw'⟩
        · cases hf
      · exact q1.elim
  · exact q1.elim
end
end G
end
section
set_option Elab.async false
set_option linter.all false
set_option maxRecDepth 100000
set_option maxHeartbeats 1000000
/-! G: built-in functions, methods of built-in data, subscripts. -/
namespace G
open PySem PySem.Spec PyProof.Rows L2
section
variable {Γ : Ge} {N : List Str} {sc : Scope} {cs : List Cau} {W : WX} {hot : Bool} {k : Nat} {X : Cx} {P : Par} {a b c : C} {ea eb ec : Expr} {pos p1 apos : Pos} {F : Hp} {ι : List Addr}
theorem reps_ints : ∀ {vs : List V} {ds : List D} {ns : List Int}, Reps Γ F ι vs ds → toInts ds = some ns → vs = ns.map V.int
  | _, _, _, .nil, h => by cases h; rfl
  | _, _, ns, .cons (d := d) r t, h => by
    cases d <;> first | (cases h; done) | skip
    rename_i i
    obtain ⟨ms, hm, rfl⟩ := Option.map_eq_some_iff.mp h
    cases r
    rw [reps_ints t hm]
    rfl
theorem ints_reps : ∀ (ns : List Int), Reps Γ F ι (ns.map V.int) (ns.map D.int)
  | [] => .nil
  | n :: ns => .cons (.int n) (ints_reps ns)
theorem reps_strs : ∀ {vs : List V} {ds : List D} {ns : List Str}, Reps Γ F ι vs ds → toStrs ds = some ns → vs = ns.map V.str
  | _, _, _, .nil, h => by cases h; rfl
  | _, _, ns, .cons (d := d) r t, h => by
    cases d <;> first | (cases h; done) | skip
    obtain ⟨ms, hm, rfl⟩ := Option.map_eq_some_iff.mp h
    cases r
    rw [reps_strs t hm]
    rfl
theorem reps_bls : ∀ {vs : List V} {ds : List D} {ns : List Bool}, Reps Γ F ι vs ds → toBls ds = some ns → vs = ns.map V.bl
  | _, _, _, .nil, h => by cases h; rfl
  | _, _, ns, .cons (d := d) r t, h => by
    cases d <;> first | (cases h; done) | skip
    obtain ⟨ms, hm, rfl⟩ := Option.map_eq_some_iff.mp h
    cases r
    rw [reps_bls t hm]
    rfl
/-- sorted ints -/
theorem mem_insertI {x y : Int} : ∀ {l : List Int}, y ∈ insertI x l → y = x ∨ y ∈ l
  | [], h => .inl (by simpa [insertI] using h)
  | z :: l, h => by
    unfold insertI at h
    split at h
    · exact List.mem_cons.mp h
    · rcases List.mem_cons.mp h with rfl | h
      · exact .inr List.mem_cons_self
      · exact (mem_insertI h).imp id (List.mem_cons_of_mem _)
theorem perm_insertI (x : Int) : ∀ (l : List Int), (insertI x l).Perm (x :: l)
  | [] => .refl _
  | z :: l => by
    unfold insertI
    split
    · exact .refl _
    · exact ((perm_insertI x l).cons z).trans (.swap x z l)
theorem perm_sortI : ∀ (l : List Int), (sortI l).Perm l
  | [] => .refl _
  | x :: l => (perm_insertI x _).trans ((perm_sortI l).cons x)
theorem pw_insertI (x : Int) : ∀ {l : List Int}, l.Pairwise (· ≤ ·) → (insertI x l).Pairwise (· ≤ ·)
  | [], _ => by simp [insertI]
  | z :: l, h => by
    have h' := List.pairwise_cons.mp h
    unfold insertI
    split
    · rename_i hx
      refine List.pairwise_cons.mpr ⟨fun y hy => ?_, h⟩
      rcases List.mem_cons.mp hy with rfl | hy
      · exact hx
      · exact Int.le_trans hx (h'.1 y hy)
    · rename_i hx
      refine List.pairwise_cons.mpr ⟨fun y hy => ?_, pw_insertI x h'.2⟩
      rcases mem_insertI hy with rfl | hy
      · omega
      · exact h'.1 y hy
theorem pw_sortI : ∀ (l : List Int), (sortI l).Pairwise (· ≤ ·)
  | [] => .nil
  | x :: l => pw_insertI x (pw_sortI l)
theorem sorted_uniq {l1 l2 : List Int} (h : l1.Perm l2) (h1 : l1.Pairwise (· ≤ ·)) (h2 : l2.Pairwise (· ≤ ·)) : l1 = l2 :=
  h.eq_of_pairwise (fun a b _ _ x y => Int.le_antisymm x y) h1 h2
/-- bool(a tuple) -/
theorem meets_bool_tup (l : Addr) (items : Array Value) : Meets (Builtin.«bool.__new__» ⟨[.type "bool", .ref l], []⟩) (fun _ R s => (PyProof.Rows.IsTup s.heap l items ∧ (items.size : Int) < 2 ^ 63) ∧ R (.ok (.ret (.bool (!items.isEmpty)))) { s with toks := s.toks + 1 + 1 }) :=
  Meets.of_wp fun prog w A R s hs => by
    obtain ⟨⟨hl, hfit⟩, hs⟩ := hs
    obtain ⟨hp, g, d, tk, os⟩ := s
    have f1 := F.conv_sub_bool
    repeat (any_goals (first | assumption | (with_reducible refine PyProof.Rows.truthy_tuple hl hfit ?_) | wp_step))
    all_goals first | exact ⟨_, rfl, hs⟩ | exact hs | skip
theorem call_bool_tup {prog : Program} {w : World} {A : Around} {E : Value → Shared → Prop} {s : Shared} {l : Addr} {items : Array Value} {Q : Value → Shared → Prop} (hl : PyProof.Rows.IsTup s.heap l items) (hfit : (items.size : Int) < 2 ^ 63)
    (h : Q (.bool (!items.isEmpty)) { s with toks := s.toks + 1 + 1 }) : wpAny (model prog w) A (call (.type "bool") [.ref l]) Q E s :=
  call_bool_1 (meets_bool_tup l items) ⟨⟨hl, hfit⟩, rfl, h⟩
/-- a built-in function of one argument -/
def rB1 (Γ : Ge) (f : B1) : List V → Hp → VK → Prop := fun xs H Q => ∃ x cs p F ι e m σ d1 d, xs = [x] ∧ Sim Γ cs p F ι e m σ H ∧ RdR Γ F ι H x d1 ∧ b1D f d1 = some d ∧ Gives Γ cs p F ι e m σ H d Q
def b1V : B1 → Value
  | .len => .builtin "len"
  | .abs => .builtin "abs"
  | .int => .type "int"
  | .bool => .type "bool"
  | .list => .type "list"
  | .tuple => .type "tuple"
  | .all => .builtin "all"
  | .any => .builtin "any"
  | .sum => .builtin "sum"
  | .sorted => .builtin "sorted"
  | .repr => .builtin "repr"
  | _ => .none
theorem sq_of {H : Hp} {cs : List Cau} {p : En0} {F : Hp} {ι : List Addr} {e : En} {m : Mu} {σ : St} {v : V} {ds : List D} (S : Sim Γ cs p F ι e m σ H) (r : RdR Γ F ι H v (.lst ds)) : ∃ a vs, v = .ref a ∧ SqL Γ.K H a vs ∧ Reps Γ F ι vs ds := by
  obtain ⟨a, vs, e, h, q⟩ := r.lst S
  exact ⟨a, vs, e, .inl (.inl h), q⟩
theorem reps_nil {vs : List V} {ds : List D} (r : Reps Γ F ι vs ds) : (!vs.isEmpty) = !ds.isEmpty := by cases r <;> rfl
theorem call_b1 (hK : X.K = Γ.K) (hc : X.calm = true) (hgd : X.A.guards = some []) (hun : X.A.units + 64 < cLine) (f : B1) : CallR X (b1V f) (rB1 Γ f) := by
  intro pins s σ' H xs us Q I rxs h
  obtain ⟨x, cs, p, F, ι, e, m, σ, d1, d, rfl, S, r, hd, k⟩ := h
  unfold b1D at hd
  split at hd
  · cases hd
    obtain ⟨a, vs, rfl, h1, q1⟩ := sq_of S r
    exact call_len pins s σ' H _ us Q I rxs ⟨_, _, rfl, .inl ⟨vs, by rw [hK]; exact h1, rfl⟩, by rw [q1.length]; exact k.now S (.int _)⟩
  · cases hd
    obtain ⟨a, ob, vs, rfl, h1, q1⟩ := r.scr S
    exact call_len pins s σ' H _ us Q I rxs ⟨_, _, rfl, .inl ⟨vs, .inl (.inr ⟨ob, h1⟩), rfl⟩, by rw [q1.length]; exact k.now S (.int _)⟩
  · cases hd
    obtain ⟨a, vs, rfl, h1, q1⟩ := r.tup S
    exact call_len pins s σ' H _ us Q I rxs ⟨_, _, rfl, .inr ⟨vs, by rw [hK]; exact h1, rfl⟩, by rw [q1.length]; exact k.now S (.int _)⟩
  · split at hd
    · rename_i hl
      cases hd
      cases r.str
      exact call_len pins s σ' H _ us Q I rxs ⟨_, _, rfl, ⟨by rw [← sizeL_eq]; exact hl, rfl⟩, k.now S (.int _)⟩
    · cases hd
  · cases hd
    cases r.int
    exact call_abs pins s σ' H _ us Q I rxs ⟨_, rfl, k.now S (.int _)⟩
  · cases hd
    cases r.int
    exact call_int1 pins s σ' H _ us Q I rxs (.inl ⟨_, rfl, k.now S (.int _)⟩)
  · cases hd
    cases r.bl
    exact call_int1 pins s σ' H _ us Q I rxs (.inr ⟨_, rfl, k.now S (.int _)⟩)
  · cases hd
    cases r.bl
    exact call_bool1 pins s σ' H _ us Q I rxs (.inr ⟨_, rfl, k.now S (.bl _)⟩)
  · cases hd
    obtain ⟨a, vs, rfl, h1, q1⟩ := r.tup S
    obtain rfl := Vals.ref1 rxs
    obtain ⟨its, rv, pl, hz⟩ := I.tuple (by rw [hK]; exact h1)
    have hl := line63
    have hlen := rv.length
    refine call_bool_tup pl (by simp only [List.size_toArray]; omega) ⟨.bl (!vs.isEmpty), H, I.tok _, by rw [isEmpty_of rv]; rfl, ?_⟩
    rw [reps_nil q1]
    exact k.now S (.bl _)
  · cases hd
    obtain ⟨a, vs, rfl, h1, q1⟩ := sq_of S r
    exact call_boolL pins s σ' H _ us Q I rxs ⟨_, _, rfl, by rw [hK]; exact h1, by rw [reps_nil q1]; exact k.now S (.bl _)⟩
  · cases hd
    obtain ⟨a, vs, rfl, h1, q1⟩ := sq_of S r
    exact call_list_of pins s σ' H _ us Q I rxs ⟨_, _, rfl, .inl (by rw [hK]; exact h1), k.lst S q1⟩
  · cases hd
    obtain ⟨a, ob, vs, rfl, h1, q1⟩ := r.scr S
    exact call_list_of pins s σ' H _ us Q I rxs ⟨_, _, rfl, .inl (.inl (.inr ⟨ob, h1⟩)), k.lst S q1⟩
  · cases hd
    obtain ⟨a, vs, rfl, h1, q1⟩ := r.tup S
    exact call_list_of pins s σ' H _ us Q I rxs ⟨_, _, rfl, .inr (by rw [hK]; exact h1), k.lst S q1⟩
  · cases hd
    obtain ⟨a, vs, rfl, h1, q1⟩ := sq_of S r
    exact call_tuple_of pins s σ' H _ us Q I rxs ⟨_, _, rfl, .inl ⟨by rw [hK]; exact h1, k.tup S q1⟩⟩
  · cases hd
    obtain ⟨a, vs, e1, h1, q1⟩ := r.tup S
    subst e1
    refine call_tuple_of pins s σ' H _ us Q I rxs ⟨_, _, rfl, .inr ⟨by rw [hK]; exact h1, ?_⟩⟩
    cases r with
    | rep r _ => exact k.now S r
    | obj r => cases r
  · obtain ⟨bs, hb, rfl⟩ := Option.map_eq_some_iff.mp hd
    obtain ⟨a, vs, rfl, h1, q1⟩ := sq_of S r
    cases reps_bls q1 hb
    exact cr_all hc pins s σ' H _ us Q I rxs ⟨_, _, rfl, by rw [hK]; exact h1, k.now S (.bl _)⟩
  · obtain ⟨bs, hb, rfl⟩ := Option.map_eq_some_iff.mp hd
    obtain ⟨a, vs, rfl, h1, q1⟩ := sq_of S r
    cases reps_bls q1 hb
    exact cr_any hc pins s σ' H _ us Q I rxs ⟨_, _, rfl, by rw [hK]; exact h1, k.now S (.bl _)⟩
  · obtain ⟨bs, hb, rfl⟩ := Option.map_eq_some_iff.mp hd
    obtain ⟨a, vs, rfl, h1, q1⟩ := sq_of S r
    cases reps_ints q1 hb
    exact cr_sum hc pins s σ' H _ us Q I rxs ⟨_, _, rfl, by rw [hK]; exact h1, k.now S (.int _)⟩
  · obtain ⟨ns, hb, rfl⟩ := Option.map_eq_some_iff.mp hd
    obtain ⟨a, vs, rfl, h1, q1⟩ := sq_of S r
    cases reps_ints q1 hb
    refine cr_sortedI pins s σ' H _ us Q I rxs ⟨_, _, rfl, by rw [hK]; exact h1, fun ns' p hp hw hn => ?_⟩
    cases sorted_uniq (hp.trans (perm_sortI ns).symm) hw (pw_sortI ns)
    exact k.lst S (ints_reps _) p hn
  · obtain ⟨z, hz, rfl⟩ := Option.map_eq_some_iff.mp hd
    unfold reprD at hz
    split at hz
    · rename_i hq
      simp only [Bool.and_eq_true, decide_eq_true_eq] at hq
      obtain ⟨⟨q1, q2⟩, q3⟩ := hq
      cases hz
      obtain ⟨u, rfl, ru⟩ := rxs.one
      have dp := r.dp S q1
      rw [← hK] at dp
      obtain ⟨as, rd⟩ := Dp.reads I _ _ _ dp ru
      have dep := (can_of q1).2
      rw [sizeL_eq] at q3
      have fin : ∀ (s' : Shared) (t : Nat), Inv X pins σ' H s' → EP X pins σ' Q (.str (toPy d1).shown t) s' := fun s' t I' => ⟨.str _, H, I', ⟨t, rfl⟩, k.now S (.str _)⟩
      have nd : (toPy d1).hasDict = true → sysModules ∉ as := fun h => by rw [noDict_of] at h; cases h
      generalize toPy d1 = pd at q2 q3 rd dep fin nd
      cases u with
      | ref a => exact repr_of_reads' rd q2 nd hgd (by omega) (fun _ _ e => e) (fun h' u tk hk => fin _ u (I.kept hk)) q3
      | none =>
        cases rd
        simp only [PyData.shown] at fin q3
        exact P.repr_of_none (fin _ _ (I.tok _))
      | bool b =>
        cases rd
        simp only [PyData.shown] at fin q3
        exact P.repr_of_bool (fin _ _ (I.tok _))
      | int i t =>
        cases rd
        simp only [PyData.shown] at fin q3
        simp only [PyData.showable, decide_eq_true_eq] at q2
        exact P.repr_of_int q2 (fin _ _ (I.tok _))
      | str x t =>
        cases rd
        simp only [PyData.shown] at fin q3
        exact P.repr_of_str (fin _ _ (I.tok _)) q3
      | _ => cases rd
    · cases hz
  · cases hd
def b1N : B1 → Option Str
  | .len => some "len"
  | .abs => some "abs"
  | .int => some "int"
  | .bool => some "bool"
  | .list => some "list"
  | .tuple => some "tuple"
  | .all => some "all"
  | .any => some "any"
  | .sum => some "sum"
  | .sorted => some "sorted"
  | .repr => some "repr"
  | _ => none
/-- what of the text stands behind a name, where the module has none of it -/
theorem blt_of (T : Tops Γ) (C : Here Γ N sc cs W hot k X) {x : Str} (h : x ∈ (["len", "abs", "int", "bool", "list", "tuple", "all", "any", "sum", "sorted", "repr", "max", "min", "str", "ord", "set", "isinstance", "range", "enumerate", "zip", "dict", "ValueError"] : List Str)) : X.mg x = none := by rw [C.mg]; exact T.blt x h
theorem oneArg {es : Expr} (ha : PE X ea (tO Γ cs W a (evE P a))) (hp : plainArg ea = true) : PA X [ea] (tCons (tO Γ cs W a (evE P a)) tNil) := pa_cons ha pa_nil (star_one hp)
theorem g_b1 {n : Nat} (C : Here Γ N sc cs W false (3 * n + 2) X) (T : Tops Γ) {f : B1} {x : Str} (hx : b1N f = some x) (hg : gloB sc x = true) (hp : plainArg ea = true) (ha : PE X ea (tO Γ cs W a (evE (parN Γ n) a))) :
    PE X (.Call (.Name x p1) [ea] [] pos) (tE Γ cs W (evE (parN Γ n) (.b1 f a))) := by
  obtain ⟨g1, g2⟩ := glo_of C hg
  have hr := call_b1 C.K (C.calm rfl) C.gds (by have := C.unit; omega) f
  have hw : ∀ σ H Q, tE Γ cs W (evE (parN Γ n) (.b1 f a)) σ H Q → tCB (rB1 Γ f) (tCons (tO Γ cs W a (evE (parN Γ n) a)) tNil) σ H Q := by
    intro σ H Q ⟨p, F, ι, e, m, S, q⟩
    have q : K1 Γ cs p F ι σ W ((evE (parN Γ n) a e m).bind _) _ := q
    refine ⟨p, F, ι, e, m, S, q.bind.imp fun d F1 ι1 e1 m1 H1 S1 x1 q1 v r => ?_⟩
    split at q1
    · rename_i d1 h1
      obtain ⟨d2, h2, q2⟩ := K1.optS q1
      exact ⟨v, cs, p, F1, ι1, e1, m1, σ, d1, d2, rfl, S1, S1.obj r h1, h2, fun v F' H' S' x' r' => q2 F' ι1 H' S' x' v r'⟩
    · exact q1.elim
  have pa : PA X [ea] (tCons (tO Γ cs W a (evE (parN Γ n) a)) tNil) := pa_cons ha pa_nil (star_one hp)
  cases f <;> first
    | (cases hx; done)
    | (cases hx; exact (pe_callB hr g1 (blt_of T C (by decide +kernel)) (by decide +kernel) pa (by decide +kernel) g2 (star_one hp) rfl).weak hw)
    | (cases hx; exact (pe_callTy hr g1 (blt_of T C (by decide +kernel)) (by decide +kernel) pa (by decide +kernel) g2 (star_one hp) rfl).weak hw)
/-! ### max, min of two -/
theorem g_b2 {n : Nat} (C : Here Γ N sc cs W false (3 * n + 2) X) (T : Tops Γ) {f : B2} {x : Str} (hx : x = (match f with | .max => "max" | .min => "min")) (hg : gloB sc x = true) (hp : noStar [ea, eb] = true) (ha : PE X ea (tE Γ cs W (evE (parN Γ n) a))) (hb : PE X eb (tE Γ cs W (evE (parN Γ n) b))) :
    PE X (.Call (.Name x p1) [ea, eb] [] pos) (tE Γ cs W (evE (parN Γ n) (.b2 f a b))) := by
  obtain ⟨g1, g2⟩ := glo_of C hg
  have pa : PA X [ea, eb] (tA Γ cs W (evA (parN Γ n) (.cons a (.cons b .nil)))) := by
    unfold noStar noStar at hp
    simp only [Bool.and_eq_true] at hp
    exact a_cons ha (a_cons hb a_nil hp.2.1) hp.1
  have hst : plainArg ea = true ∧ noStar [eb] = true := by
    unfold noStar at hp
    simpa only [Bool.and_eq_true] using hp
  have hw : ∀ (g : Int → Int → Int), (∀ x y d, b2D f x y = some d → ∃ i j, x = .int i ∧ y = .int j ∧ d = .int (g i j)) → ∀ σ H Q, tE Γ cs W (evE (parN Γ n) (.b2 f a b)) σ H Q → tCB (fun xs H Q => ∃ i j, xs = [.int i, .int j] ∧ Q (.int (g i j)) H) (tA Γ cs W (evA (parN Γ n) (.cons a (.cons b .nil)))) σ H Q := by
    intro g hgg σ H Q ⟨p, F, ι, e, m, S, q⟩
    have q : K1 Γ cs p F ι σ W ((evE (parN Γ n) a e m).bind fun x e1 m1 => (evE (parN Γ n) b e1 m1).bind fun y e2 m2 => .opt (b2D f x y) e2 m2) _ := q
    refine ⟨p, F, ι, e, m, S, ?_⟩
    show K1 Γ cs p F ι σ W ((evE (parN Γ n) a e m).bind fun x e1 m1 => ((evE (parN Γ n) b e1 m1).bind fun y e2 m2 => R.bind (.ok [] e2 m2) fun ds e3 m3 => .ok (y :: ds) e3 m3).bind fun ds e2 m2 => .ok (x :: ds) e2 m2) _
    cases hr : evE (parN Γ n) a e m with
    | no => rw [hr] at q; exact q.elim
    | ex c fs e1 m1 => rw [hr] at q; exact q
    | ok x e1 m1 =>
      rw [hr] at q
      simp only [R.bind_ok] at q ⊢
      cases hr2 : evE (parN Γ n) b e1 m1 with
      | no => rw [hr2] at q; exact q.elim
      | ex c fs e1 m1 => rw [hr2] at q; exact q
      | ok y e2 m2 =>
        rw [hr2] at q
        simp only [R.bind_ok] at q ⊢
        obtain ⟨d, hd, q⟩ := K1.optS q
        obtain ⟨i, j, rfl, rfl, rfl⟩ := hgg x y d hd
        intro F' ι' H' S' x' vs rv
        cases rv with
        | cons r1 rv =>
          cases rv with
          | cons r2 rv =>
            cases rv
            cases r1
            cases r2
            exact ⟨i, j, rfl, q F' ι' H' S' x' _ (.int _)⟩
  cases f with
  | max =>
    subst hx
    exact (pe_callB (call_max2 (C.calm rfl)) g1 (blt_of T C (by decide +kernel)) (by decide +kernel) pa (by decide +kernel) g2 (star_one hst.1) (star_any hst.2)).weak (hw (fun i j => if j > i then j else i) fun x y d hd => by
      cases x <;> cases y <;> first | (cases hd; done) | exact ⟨_, _, rfl, rfl, (Option.some.inj hd).symm⟩)
  | min =>
    subst hx
    exact (pe_callB (call_min2 (C.calm rfl)) g1 (blt_of T C (by decide +kernel)) (by decide +kernel) pa (by decide +kernel) g2 (star_one hst.1) (star_any hst.2)).weak (hw (fun i j => if j < i then j else i) fun x y d hd => by
      cases x <;> cases y <;> first | (cases hd; done) | exact ⟨_, _, rfl, rfl, (Option.some.inj hd).symm⟩)
/-! ### methods of texts and lists -/
theorem g_upper {n : Nat} (hs : noSuper ea = true) (hl : (apos.endLine == pos.line) = true) (ha : PE X ea (tE Γ cs W (evE (parN Γ n) a))) : PE X (.Call (.Attribute ea "upper" apos) [] [] pos) (tE Γ cs W (evE (parN Γ n) (.m0 .upper a))) :=
  (pe_upper ha (base_is hs) hl).weak fun σ H Q ⟨p, F, ι, e, m, S, q⟩ => by
    have q : K1 Γ cs p F ι σ W ((evE (parN Γ n) a e m).bind _) _ := q
    refine ⟨p, F, ι, e, m, S, q.bind.imp fun d F1 ι1 e1 m1 H1 S1 x1 q1 v r => ?_⟩
    obtain ⟨d2, h2, q2⟩ := K1.optS q1
    cases d <;> first | (cases h2; done) | skip
    simp only [m0D] at h2
    split at h2
    · rename_i hl
      cases h2
      cases r
      exact ⟨⟨_, rfl⟩, _, rfl, rfl, hl, K1.ok q2 S1 _ (.str _)⟩
    · cases h2
def isBk (k : Bool) (v : Value) : Bool := match v with
  | .bool b => b == k
  | _ => false
theorem cnt_bls {k : Bool} : ∀ {bs : List Bool} {us : List Value}, Vals (bs.map V.bl) us → us.countP (isBk k) = bs.count k ∧ ∀ y ∈ us, ∃ b, y = .bool b
  | [], _, .nil => ⟨rfl, fun y hy => by cases hy⟩
  | b :: bs, _, .cons r t => by
    cases r
    obtain ⟨h1, h2⟩ := cnt_bls (k := k) t
    refine ⟨?_, fun y hy => ?_⟩
    · rw [List.countP_cons, List.count_cons, h1]
      rfl
    · rcases List.mem_cons.mp hy with rfl | hy
      · exact ⟨_, rfl⟩
      · exact h2 y hy
theorem mt_bcount : MtR X "list.count" (fun x xs H Q => ∃ (p : Addr) (bs : List Bool) (k : Bool), x = .ref p ∧ xs = [.bl k] ∧ SqL X.K H p (bs.map V.bl) ∧ Q (.int (bs.count k : Nat)) H) := by
  intro pins s σ H x xs v us Q I rx rxs h
  obtain ⟨p, bs, k, rfl, rfl, hs, q⟩ := h
  cases rx
  obtain ⟨u, rfl, ru⟩ := rxs.one
  cases ru
  obtain ⟨its, rv, ⟨⟨cls, dd, data, sl⟩, n, ho, hc, hdn, hd⟩, hlen⟩ := I.list hs
  simp only at hc hd
  subst hc hd
  obtain ⟨h1, h2⟩ := cnt_bls (k := k) rv
  refine call_meets PySem.F.slot_list_count ⟨_, ho, rfl⟩ PySem.F.entry_list_count (PySem.F.args_list_count_2 _ _)
    (SeqAt.list_countAt p its.toArray n dd sl (.bool k) (isBk k)) ⟨ho, fun y hy => ?_, ?_⟩
  · obtain ⟨b, rfl⟩ := h2 y (by simpa using hy)
    have := eqAt_flat (A := X.A.in1) (s := s) (x := .bl b) (y := .bl k) (u := .bool b) (w := .bool k) rfl rfl rfl rfl
    have e : eqV (toV (.bl b)) (toV (.bl k)) = isBk k (.bool b) := by cases b <;> cases k <;> decide
    rw [e] at this
    first | exact this | exact this _ _ | exact fun _ => this
  · have ec : its.toArray.toList.countP (isBk k) = bs.count k := h1
    refine ⟨.int (bs.count k : Nat), H, I.tok _, ⟨s.toks, ?_⟩, q⟩
    show Value.int ((its.toArray.toList.countP (isBk k) : Nat) : Int) s.toks = Value.int ((bs.count k : Nat) : Int) s.toks
    rw [ec]
/-- o.m(e): the object's type is looked at, then e runs -/
theorem m1_weak {f : M1} {n : Nat} {P0 : V → Prop} {r : V → V → Hp → VK → Prop} {σ : St} {H : Hp} {Q : VK} (na : a.isPk = false) (h0 : ∀ x v F ι, Rep Γ F ι v x → m1Ok f x = true → P0 v)
    (hr : ∀ x y v w d p F ι e m H2, Rep Γ F ι v x → Sim Γ cs p F ι e m σ H2 → RdR Γ F ι H2 w y → m1D f x y = some d → Gives Γ cs p F ι e m σ H2 d Q → r v w H2 Q) (h : tE Γ cs W (evE (parN Γ n) (.m1 f a b)) σ H Q) :
    tE Γ cs W (evE (parN Γ n) a) σ H fun v H1 => P0 v ∧ tO Γ cs W b (evE (parN Γ n) b) σ H1 fun w H2 => r v w H2 Q := by
  obtain ⟨p, F, ι, e, m, S, q⟩ := h
  have q : K1 Γ cs p F ι σ W ((evE (parN Γ n) a e m).bind _) _ := q
  refine ⟨p, F, ι, e, m, S, q.bind.imp fun x F1 ι1 e1 m1 H1 S1 x1 q1 v rv => ?_⟩
  split at q1
  · rename_i hok
    refine ⟨h0 x v F1 ι1 rv hok, p, F1, ι1, e1, m1, S1, (K1.bind q1).imp fun y F2 ι2 e2 m2 H2 S2 x2 q2 w rw' => ?_⟩
    split at q2
    · rename_i d2 h2
      obtain ⟨d, hd, q3⟩ := K1.optS q2
      exact hr x d2 v w d p F2 ι2 e2 m2 H2 (rv.mono x2) S2 (S2.obj rw' h2) hd fun v F' H' S' x' r' => q3 F' ι2 H' S' x' v r'
    · exact q2.elim
  · exact q1.elim
theorem isStr_of {x : D} {v : V} {F : Hp} {ι : List Addr} (r : Rep Γ F ι v x) (h : (match x with | .str _ => true | _ => false) = true) : ∃ z, v = .str z := by
  cases x <;> first | (cases h; done) | skip
  cases r
  exact ⟨_, rfl⟩
theorem g_join {n : Nat} (C : Here Γ N sc cs W hot k X) (na : a.isPk = false) (hs : noSuper ea = true) (hl : (apos.endLine == pos.line) = true) (hp : plainArg eb = true) (ha : PE X ea (tE Γ cs W (evE (parN Γ n) a))) (hb : PE X eb (tO Γ cs W b (evE (parN Γ n) b))) : PE X (.Call (.Attribute ea "join" apos) [eb] [] pos) (tE Γ cs W (evE (parN Γ n) (.m1 .join a b))) :=
  (pe_join ha hb (star_one hp) (base_is hs) hl).weak fun σ H Q h => m1_weak (r := fun v w H Q => ∃ a p, ∃ ys : List Str, v = .str a ∧ [w] = [V.ref p] ∧ (SqL X.K H p (ys.map V.str) ∨ SqT X.K H p (ys.map V.str)) ∧ (ys.map (·.length)).sum + ys.length * a.length ≤ 16777216 ∧ Q (.str (Txt.join a ys)) H) na (fun x v F ι r h => isStr_of r (by cases x <;> first | rfl | cases h)) (fun x y v w d p F ι e m H2 rv S rd hd k => by
    cases x <;> cases y <;> first | (cases hd; done) | skip
    obtain ⟨ys, hy, hd⟩ := Option.bind_eq_some_iff.mp hd
    split at hd
    · rename_i hz
      cases hd
      cases rv
      obtain ⟨a, vs, rfl, h1, q1⟩ := sq_of S rd
      cases reps_strs q1 hy
      exact ⟨_, _, ys, rfl, rfl, .inl (by rw [C.K]; exact h1), hz, k.now S (.str _)⟩
    · cases hd) h
theorem g_startswith {n : Nat} (na : a.isPk = false) (hs : noSuper ea = true) (hl : (apos.endLine == pos.line) = true) (hp : plainArg eb = true) (ha : PE X ea (tE Γ cs W (evE (parN Γ n) a))) (hb : PE X eb (tO Γ cs W b (evE (parN Γ n) b))) : PE X (.Call (.Attribute ea "startswith" apos) [eb] [] pos) (tE Γ cs W (evE (parN Γ n) (.m1 .startswith a b))) :=
  (pe_m1 F.slot_str_startswith F.type_str_startswith mt_startswith ha hb (star_one hp) (base_is hs) hl).weak fun σ H Q h => m1_weak (r := fun v w H Q => ∃ a b, v = .str a ∧ [w] = [V.str b] ∧ Q (.bl (Txt.startswith a b)) H) na (fun x v F ι r h => isStr_of r (by cases x <;> first | rfl | cases h)) (fun x y v w d p F ι e m H2 rv S rd hd k => by
    cases x <;> cases y <;> first | (cases hd; done) | skip
    cases hd
    cases rv
    cases rd.str
    exact ⟨_, _, rfl, rfl, k.now S (.bl _)⟩) h
theorem g_strip {n : Nat} (na : a.isPk = false) (hs : noSuper ea = true) (hl : (apos.endLine == pos.line) = true) (hp : plainArg eb = true) (ha : PE X ea (tE Γ cs W (evE (parN Γ n) a))) (hb : PE X eb (tO Γ cs W b (evE (parN Γ n) b))) : PE X (.Call (.Attribute ea "strip" apos) [eb] [] pos) (tE Γ cs W (evE (parN Γ n) (.m1 .strip a b))) :=
  (pe_m1 F.slot_str_strip F.type_str_strip mt_stripChars ha hb (star_one hp) (base_is hs) hl).weak fun σ H Q h => m1_weak (r := fun v w H Q => ∃ a b, v = .str a ∧ [w] = [V.str b] ∧ a.length ≤ sizeLine ∧ Q (.str (Txt.stripChars a b)) H) na (fun x v F ι r h => isStr_of r (by cases x <;> first | rfl | cases h)) (fun x y v w d p F ι e m H2 rv S rd hd k => by
    cases x <;> cases y <;> first | (cases hd; done) | skip
    simp only [m1D] at hd
    split at hd
    · rename_i hz
      cases hd
      cases rv
      cases rd.str
      exact ⟨_, _, rfl, rfl, by rw [← sizeL_eq]; exact hz, k.now S (.str _)⟩
    · cases hd) h
/-- l.count(b) of a list of bools: the list is a datum -/
theorem g_count {n : Nat} (C : Here Γ N sc cs W hot k X) (na : a.isPk = false) (hs : noSuper ea = true) (hl : (apos.endLine == pos.line) = true) (hp : plainArg eb = true) (ha : PE X ea (tE Γ cs W (evE (parN Γ n) a))) (hb : PE X eb (tO Γ cs W b (evE (parN Γ n) b))) : PE X (.Call (.Attribute ea "count" apos) [eb] [] pos) (tE Γ cs W (evE (parN Γ n) (.m1 .count a b))) := by
  have pl : (backTo pos (starEach [] X.env)).any (·.1) = false := rfl
  have few : ((backTo pos (starEach [eb] X.env)).all (fun x => !x.1) && (backToKw pos (keywordEach [] X.env)).all (fun x => x.1.isSome) && decide (([eb] : List Expr).length + ([] : List Keyword).length + (if ([] : List Keyword).isEmpty then 0 else 1) < 30)) = true := by
    rw [star_one hp]
    rfl
  refine (pe_bm F.plainAttrs_list F.slot_list_count F.type_list_count mt_bcount ha (pa_cons hb pa_nil (star_one hp)) (base_is hs) few hl (star_one hp) pl).weak fun σ H Q ⟨p, F, ι, e, m, S, q⟩ => ?_
  have q : K1 Γ cs p F ι σ W ((evE (parN Γ n) a e m).bind _) _ := q
  refine ⟨p, F, ι, e, m, S, q.bind.imp fun x F1 ι1 e1 m1 H1 S1 x1 q1 v rv => ?_⟩
  split at q1
  · rename_i hok
    cases x <;> first | (cases hok; done) | skip
    rename_i ds
    obtain ⟨a1, vs, rfl, h1, r1⟩ := sq_of S1 (.rep rv fun k z => by cases z)
    refine ⟨.inl ⟨rfl, vs, by rw [C.K]; exact h1⟩, p, F1, ι1, e1, m1, S1, (K1.bind q1).imp fun y F2 ι2 e2 m2 H2 S2 x2 q2 w rw' => ?_⟩
    split at q2
    · rename_i d2 h2
      obtain ⟨d, hd, q3⟩ := K1.optS q2
      cases d2 <;> first | (cases hd; done) | skip
      obtain ⟨bs, hb, rfl⟩ := Option.map_eq_some_iff.mp hd
      obtain ⟨a2, vs2, e2, h2', r2⟩ := sq_of S2 (.rep (rv.mono x2) fun k z => by cases z)
      cases e2
      cases reps_bls r2 hb
      cases (S2.obj rw' h2).bl
      exact ⟨_, bs, _, rfl, rfl, by rw [C.K]; exact h2', K1.ok q3 S2 _ (.int _)⟩
    · exact q2.elim
  · exact q1.elim
/-! ### o[i], o[i:j] -/
def plainIxB : Expr → Bool
  | .Slice _ _ _ _ => false
  | _ => true
theorem plainIx_is {e : Expr} (h : plainIxB e = true) : PlainIx e := fun o i => by
  cases e <;> first | rfl | cases h
theorem reps_at {vs : List V} {ds : List D} {i : Int} {d : D} {F : Hp} {ι : List Addr} (r : Reps Γ F ι vs ds) (h : atD ds i = some d) : ∃ v, L2.atI vs i = some v ∧ Rep Γ F ι v d := by
  unfold atD L2.atI at *
  rw [r.length]
  obtain ⟨j, hj, h⟩ := Option.bind_eq_some_iff.mp h
  obtain ⟨v, hv, rv⟩ := r.get h
  exact ⟨v, by rw [hj]; exact hv, rv⟩
theorem g_ix {n : Nat} (C : Here Γ N sc cs W hot k X) (hx : plainIxB eb = true) (ha : PE X ea (tO Γ cs W a (evE (parN Γ n) a))) (hb : PE X eb (tE Γ cs W (evE (parN Γ n) b))) : PE X (.Subscript ea eb pos) (tE Γ cs W (evE (parN Γ n) (.ix a b))) :=
  (pe_ix ix_seq ha hb (plainIx_is hx)).weak fun σ H Q ⟨p, F, ι, e, m, S, q⟩ => by
    have q : K1 Γ cs p F ι σ W ((evE (parN Γ n) a e m).bind _) _ := q
    refine ⟨p, F, ι, e, m, S, q.bind.imp fun x F1 ι1 e1 m1 H1 S1 x1 q1 v rv => ⟨p, F1, ι1, e1, m1, S1, (K1.bind q1).imp fun y F2 ι2 e2 m2 H2 S2 x2 q2 w rw' => ?_⟩⟩
    split at q2
    · rename_i d hd
      obtain ⟨d2, h2, q3⟩ := K1.optS q2
      have rd := S2.obj (rv.mono x2) hd
      rw [C.K]
      cases d <;> cases y <;> first | (cases h2; done) | skip
      · cases rd.str
        cases rw'
        simp only [ixD] at h2
        split at h2
        · rename_i hl
          obtain ⟨c, hc, rfl⟩ := Option.map_eq_some_iff.mp h2
          exact .inr (.inr ⟨_, _, c, rfl, rfl, by rw [← sizeL_eq]; exact hl, hc, K1.ok q3 S2 _ (.str _)⟩)
        · cases h2
      · obtain ⟨a1, vs, rfl, h1, q1⟩ := rd.tup S2
        cases rw'
        obtain ⟨u, hu, ru⟩ := reps_at q1 h2
        exact .inr (.inl ⟨_, _, _, _, rfl, rfl, h1, hu, K1.ok q3 S2 _ ru⟩)
      · obtain ⟨a1, vs, rfl, h1, q1⟩ := sq_of S2 rd
        cases rw'
        obtain ⟨u, hu, ru⟩ := reps_at q1 h2
        exact .inl ⟨_, _, _, _, rfl, rfl, h1, hu, K1.ok q3 S2 _ ru⟩
    · exact q2.elim
end
end G
end
section
set_option Elab.async false
set_option linter.all false
set_option maxRecDepth 100000
set_option maxHeartbeats 1000000
/-! G: slices, isinstance. -/
namespace G
open PySem PySem.Spec PyProof.Rows L2
section
variable {Γ : Ge} {N : List Str} {sc : Scope} {cs : List Cau} {W : WX} {hot : Bool} {k : Nat} {X : Cx} {P : Par} {a b c : C} {ea eb ec : Expr} {pos p1 p2 apos : Pos}
/-- a part of a slice -/
def rd3 : C → Option Expr → Bool
  | .sno, none => true
  | .sno, _ => false
  | _, some _ => true
  | _, none => false
theorem po_of {n : Nat} {eo : Option Expr} (h : rd3 b eo = true) (hb : ∀ e, eo = some e → PE X e (tE Γ cs W (evE (parN Γ n) b))) :
    PO X eo (fun σ H Q => ∃ p F ι e m, Sim Γ cs p F ι e m σ H ∧ K1 Γ cs p F ι σ W (evE (parN Γ n) b e m) fun d _ _ _ _ H' => ∃ o, partD b d = some o ∧ Q o H') := by
  cases eo with
  | none =>
    refine ⟨fun pins s σ H Q I ⟨p, F, ι, e, m, S, q⟩ => po_none.run pins s σ H Q I ?_⟩
    cases b <;> first | (cases h; done) | skip
    have q : K1 Γ cs p F ι σ W (.ok D.non e m) (fun d _ _ _ _ H' => ∃ o, partD .sno d = some o ∧ Q o H') := q
    obtain ⟨o, ho, q⟩ := K1.ok q S
    cases ho
    exact q
  | some ex =>
    refine ⟨fun pins s σ H Q I ⟨p, F, ι, e, m, S, q⟩ => (po_some (hb ex rfl)).run pins s σ H Q I ⟨p, F, ι, e, m, S, q.imp fun d F1 ι1 e1 m1 H1 S1 x1 q1 v rv => ?_⟩⟩
    obtain ⟨o, ho, q1⟩ := q1
    have : ∃ i, d = .int i ∧ o = some i := by
      unfold partD at ho
      split at ho
      · cases h
      · cases d <;> first | (cases ho; done) | exact ⟨_, rfl, (Option.some.inj ho).symm⟩
    obtain ⟨i, rfl, rfl⟩ := this
    cases rv
    exact ⟨i, rfl, q1⟩
theorem reps_cut {vs : List V} {ds : List D} {lo hi : Option Int} {F : Hp} {ι : List Addr} (r : Reps Γ F ι vs ds) : Reps Γ F ι (cutV vs lo hi) (cutD ds lo hi) := by
  unfold cutV cutD
  rw [r.length]
  exact (r.drop _).take _
theorem cut_whole {α : Type} {xs : List α} {lo hi : Option Int} (h : HT.sIx xs.length 0 lo = 0 ∧ HT.sIx xs.length xs.length hi = xs.length) : cutD xs lo hi = xs := by
  unfold cutD
  rw [h.1, h.2]
  simp
theorem g_sl {n : Nat} {c2 : C} {lo hi : Option Expr} (C : Here Γ N sc cs W hot k X) (h1 : rd3 b lo = true) (h2 : rd3 c2 hi = true) (ha : PE X ea (tO Γ cs W a (evE (parN Γ n) a))) (hb : ∀ e, lo = some e → PE X e (tE Γ cs W (evE (parN Γ n) b))) (hc : ∀ e, hi = some e → PE X e (tE Γ cs W (evE (parN Γ n) c2))) :
    PE X (.Subscript ea (.Slice lo hi none p2) pos) (tE Γ cs W (evE (parN Γ n) (.sl a b c2))) :=
  (pe_slice ((sl_list.or sl_tupA).or sl_str) ha (po_of h1 hb) (po_of h2 hc)).weak fun σ H Q ⟨p, F, ι, e, m, S, q⟩ => by
    have q : K1 Γ cs p F ι σ W ((evE (parN Γ n) a e m).bind _) _ := q
    refine ⟨p, F, ι, e, m, S, q.bind.imp fun x F1 ι1 e1 m1 H1 S1 x1 q1 v rv => ⟨p, F1, ι1, e1, m1, S1, ?_⟩⟩
    refine (K1.bind q1).imp fun l F2 ι2 e2 m2 H2 S2 x2 q2 => ?_
    split at q2
    · rename_i o1 ho1
      refine ⟨o1, ho1, p, F2, ι2, e2, m2, S2, (K1.bind q2).imp fun u F3 ι3 e3 m3 H3 S3 x3 q3 => ?_⟩
      split at q3
      · rename_i d o2 hd ho2
        refine ⟨o2, ho2, ?_⟩
        obtain ⟨d2, hd2, q3⟩ := K1.optS q3
        have rd := S3.obj ((rv.mono x2).mono x3) hd
        rw [C.K]
        cases d <;> first | (cases hd2; done) | skip
        · simp only [slD] at hd2
          split at hd2
          · rename_i hl
            cases hd2
            cases rd.str
            exact .inr ⟨_, rfl, by rw [← sizeL_eq]; exact hl, K1.ok q3 S3 _ (.str _)⟩
          · cases hd2
        · cases hd2
          obtain ⟨a1, vs, e5, h1, r1⟩ := rd.tup S3
          subst e5
          refine .inl (.inr ⟨a1, vs, rfl, h1, fun hw => ?_, fun _ p hp => ?_⟩)
          · rw [r1.length] at hw
            rw [cut_whole hw] at q3
            cases rd with
            | rep r _ => exact K1.ok q3 S3 _ r
            | obj r => cases r
          · obtain ⟨S4, x4⟩ := S3.alloc (o := .tup (cutV vs o1 o2)) hp
            exact q3 _ _ _ S4 x4 _ (.tup (.inl upd_same) ((reps_cut r1).mono x4))
        · cases hd2
          obtain ⟨a1, vs, e5, h1, r1⟩ := sq_of S3 rd
          subst e5
          refine .inl (.inl ⟨a1, vs, rfl, h1, fun p hp => ?_⟩)
          obtain ⟨S4, x4⟩ := S3.alloc (o := .lst (cutV vs o1 o2)) hp
          exact q3 _ _ _ S4 x4 _ (.lst upd_same ((reps_cut r1).mono x4))
      · exact q3.elim
    · exact q2.elim
/-! ### isinstance -/
def tyNames : List String := ["int", "bool", "str", "tuple", "list", "dict"]
def tyOk (G : Pg) : Ty → Bool
  | .b n => tyNames.contains n
  | .c i => (G.cls[i]?).isSome
def tyU (Γ : Ge) : Ty → Value
  | .b n => .type n
  | .c i => .ref (Γ.cad i)
def tyV1 (Γ : Ge) : Ty → V
  | .b n => .ty n
  | .c i => .ref (Γ.cad i)
theorem ty_cls (t : Ty) : ClsV (tyV1 Γ t) (tyU Γ t) := by
  cases t with
  | b n => exact .ty n
  | c i => exact .own _
def kindD : D → String
  | .non => "NoneType"
  | .bl _ => "bool"
  | .int _ => "int"
  | .str _ => "str"
  | .tup _ => "tuple"
  | .lst _ => "list"
  | .dic _ => "dict"
  | _ => ""
theorem kitTab : ∀ a ∈ ["NoneType", "bool", "int", "str", "tuple", "list", "dict"], ∀ b ∈ tyNames, kitB a b = some (a == b || (a == "bool" && b == "int")) := by decide +kernel
theorem isTy_b {d : D} {n : String} {r : Bool} (hn : n ∈ tyNames) (hk : kindD d ≠ "") (h : isTy d (.b n) = some r) : r = (kindD d == n || (kindD d == "bool" && n == "int")) := by
  simp only [tyNames, List.mem_cons, List.not_mem_nil, or_false] at hn
  rcases hn with rfl | rfl | rfl | rfl | rfl | rfl <;> cases d <;> first | (exact absurd rfl hk) | (cases h; rfl)
theorem kind_mem {d : D} (hk : kindD d ≠ "") : kindD d ∈ ["NoneType", "bool", "int", "str", "tuple", "list", "dict"] := by
  cases d <;> first | exact absurd rfl hk | simp [kindD]
theorem ty_of (T : Tops Γ) {cs : List Cau} {p : En0} {F : Hp} {ι : List Addr} {e : En} {m : Mu} {σ : St} {H : Hp} {v : V} {d : D} (S : Sim Γ cs p F ι e m σ H) (r : RdR Γ F ι H v d) {t0 : Ty} {r0 : Bool} (h0 : isTy d t0 = some r0) (hc : ∀ c fs, d = .ins c fs → ∃ k, Γ.pg.cls[c]? = some k) :
    ∃ u, TyX Γ.K H v u ∧ ∀ t r, tyOk Γ.pg t = true → isTy d t = some r → PySem.W.kitOne Γ.K u (tyU Γ t) = some r := by
  have plain : kindD d ≠ "" → ∀ t r, tyOk Γ.pg t = true → isTy d t = some r → PySem.W.kitOne Γ.K (.type (kindD d)) (tyU Γ t) = some r := by
    intro hk t r ht hr
    cases t with
    | b n =>
      have hn : n ∈ tyNames := by simpa [tyOk] using ht
      rw [isTy_b hn hk hr]
      exact kit_ty (kitTab _ (kind_mem hk) n hn)
    | c i =>
      obtain ⟨kl, hkl⟩ := Option.isSome_iff_exists.mp ht
      have : r = false := by cases d <;> first | exact absurd rfl hk | (cases hr; rfl)
      subst this
      exact (T.kit i kl hkl _ (kind_mem hk)).1
  cases d with
  | non => cases r.non; exact ⟨_, .base .non, plain (by simp [kindD])⟩
  | bl b => cases r.bl; exact ⟨_, .base (.bl b), plain (by simp [kindD])⟩
  | int b => cases r.int; exact ⟨_, .base (.int b), plain (by simp [kindD])⟩
  | str b => cases r.str; exact ⟨_, .base (.str b), plain (by simp [kindD])⟩
  | tup ds =>
    obtain ⟨a, vs, rfl, h, _⟩ := r.tup S
    refine ⟨.type "tuple", ?_, plain (by simp [kindD])⟩
    rcases h with (h | ⟨ob, h⟩) | ⟨o, its, n, hk, hc, _⟩
    · exact .base (.tup h)
    · exact .fTuple h
    · exact .kTuple hk hc
  | lst ds =>
    obtain ⟨a, vs, rfl, h, _⟩ := r.lst S
    exact ⟨.type "list", .base (.lst h), plain (by simp [kindD])⟩
  | dic kvs =>
    obtain ⟨a, vs, rfl, h, _⟩ := r.dic S
    refine ⟨.type "dict", ?_, plain (by simp [kindD])⟩
    rcases h with h | ⟨ob, h⟩
    · exact .base (.dK h)
    · exact .fDict h
  | ins c fs =>
    obtain ⟨a, dx, xs, rfl, h, _⟩ := r.ins S
    obtain ⟨kl, hkl⟩ := hc c fs rfl
    obtain ⟨h1, h2, h3, h4⟩ := T.cls c kl hkl
    refine ⟨.ref (Γ.cad c), .base (.ins h h1 h3 T.gget T.gtak h4), fun t r ht hr => ?_⟩
    cases t with
    | b n =>
      have hn : n ∈ tyNames := by simpa [tyOk] using ht
      have : r = false := by
        simp only [tyNames, List.mem_cons, List.not_mem_nil, or_false] at hn
        rcases hn with rfl | rfl | rfl | rfl | rfl | rfl <;> (cases hr; rfl)
      subst this
      refine (T.kit c kl hkl n ?_).2
      simp only [tyNames, List.mem_cons, List.not_mem_nil, or_false] at hn
      rcases hn with rfl | rfl | rfl | rfl | rfl | rfl <;> decide
    | c i =>
      obtain ⟨k2, hk2⟩ := Option.isSome_iff_exists.mp ht
      cases hr
      exact T.kitc c i kl k2 hkl hk2
  | scr ds => cases t0 with
    | b n => simp [isTy] at h0
    | c i => simp [isTy] at h0
  | cel k => exact r.nocel.elim
/-- a class in the text -/
def tyB (G : Pg) (tb : Tb) (sc : Scope) : Expr → Ty → Bool
  | .Name x _, .b n => gloB sc x && tyNames.contains n && decide (x = Str.ofString n)
  | .Name x _, .c i => gloB sc x && (G.cls[i]?).isSome && decide (x = tb.c i)
  | _, _ => false
theorem boot_ty : ∀ n ∈ tyNames, bootBuiltins (Str.ofString n) = some (.type n) ∧ Str.ofString n ≠ "__name__" ∧ Str.ofString n ∈ (["len", "abs", "int", "bool", "list", "tuple", "all", "any", "sum", "sorted", "repr", "max", "min", "str", "ord", "set", "isinstance", "range", "enumerate", "zip", "dict", "ValueError"] : List Str) := by
  intro n hn
  simp only [tyNames, List.mem_cons, List.not_mem_nil, or_false] at hn
  rcases hn with rfl | rfl | rfl | rfl | rfl | rfl <;> exact ⟨by rfl, by decide +kernel, by decide +kernel⟩
theorem ty_pe (T : Tops Γ) (C : Here Γ N sc cs W hot k X) {ex : Expr} {t : Ty} (h : tyB Γ.pg Γ.tb sc ex t = true) : PE X ex (tC (tyV1 Γ t)) ∧ tyOk Γ.pg t = true ∧ plainArg ex = true := by
  unfold tyB at h
  split at h
  · rename_i x p n
    simp only [Bool.and_eq_true, decide_eq_true_eq] at h
    obtain ⟨⟨hg, hn⟩, rfl⟩ := h
    obtain ⟨g1, g2⟩ := glo_of C hg
    obtain ⟨b1, b2, b3⟩ := boot_ty n (by simpa using hn)
    exact ⟨pe_bltn g1 (blt_of T C b3) b1 rfl b2 g2, hn, rfl⟩
  · rename_i x p i
    simp only [Bool.and_eq_true, decide_eq_true_eq] at h
    obtain ⟨⟨hg, hn⟩, rfl⟩ := h
    obtain ⟨g1, g2⟩ := glo_of C hg
    obtain ⟨kl, hk⟩ := Option.isSome_iff_exists.mp hn
    exact ⟨pe_glob g1 (by rw [C.mg]; exact T.cmg i kl hk) rfl g2, hn, rfl⟩
  · cases h
def tysB (G : Pg) (tb : Tb) (sc : Scope) : List Expr → List Ty → Bool
  | [], [] => true
  | e :: es, t :: ts => tyB G tb sc e t && tysB G tb sc es ts
  | _, _ => false
def tCs : List V → TA := fun vs _ H Q => Q vs H
theorem tys_pa (T : Tops Γ) (C : Here Γ N sc cs W hot k X) : ∀ {es : List Expr} {ts : List Ty}, tysB Γ.pg Γ.tb sc es ts = true → PA X es (tCs (ts.map (tyV1 Γ))) ∧ ∀ t ∈ ts, tyOk Γ.pg t = true
  | [], [], _ => ⟨pa_nil.weak fun σ H Q h => h, fun t h => by cases h⟩
  | e :: es, t :: ts, h => by
    unfold tysB at h
    rw [Bool.and_eq_true] at h
    obtain ⟨a1, a2, a3⟩ := ty_pe T C h.1
    obtain ⟨b1, b2⟩ := tys_pa T C h.2
    refine ⟨(pa_cons a1 b1 (star_one a3)).weak fun σ H Q h => h, fun u hu => ?_⟩
    rcases List.mem_cons.mp hu with rfl | hu
    · exact a2
    · exact b2 u hu
  | [], _ :: _, h => by cases h
  | _ :: _, [], h => by cases h
theorem kitAny_of {u : Value} {d : D} : ∀ {ts : List Ty} {r : Bool}, (∀ t ∈ ts, tyOk Γ.pg t = true) → (∀ t r, tyOk Γ.pg t = true → isTy d t = some r → PySem.W.kitOne Γ.K u (tyU Γ t) = some r) → isTys d ts = some r → PySem.W.kitAny Γ.K u (ts.map (tyU Γ)) = some r
  | [], r, _, _, h => by cases h; rfl
  | t :: ts, r, ht, hu, h => by
    unfold isTys at h
    rw [List.map_cons]
    split at h
    · rename_i e
      cases h
      exact kitAny_cons (hu t true (ht t List.mem_cons_self) e) (fun z => by cases z) fun _ => rfl
    · rename_i e
      exact kitAny_cons (hu t false (ht t List.mem_cons_self) e) (fun _ => kitAny_of (fun t h => ht t (List.mem_cons_of_mem _ h)) hu h) fun z => by cases z
    · cases h
theorem cls_all (ts : List Ty) : Paired ClsV (ts.map (tyV1 Γ)) (ts.map (tyU Γ)) := by
  induction ts with
  | nil => exact .nil
  | cons t ts ih => exact .cons (ty_cls t) ih
/-- isinstance(x, T), isinstance(x, (T, ..)) -/
def isiB (G : Pg) (tb : Tb) (sc : Scope) : Expr → List Ty → Bool
  | .Tuple es _ _, ts => tysB G tb sc es ts && decide (ts.length ≤ 100)
  | e, [t] => tyB G tb sc e t
  | _, _ => false
theorem insOk_is {n : Nat} {d : D} (h : (parN Γ n).insOk d = true) : ∀ c fs, d = .ins c fs → ∃ k, Γ.pg.cls[c]? = some k := fun c fs e => by
  subst e
  exact Option.isSome_iff_exists.mp h
theorem isTys_ne {d : D} {ts : List Ty} {r : Bool} (h : isTys d ts = some r) (hn : ts ≠ []) : ∃ t r, isTy d t = some r := by
  cases ts with
  | nil => exact absurd rfl hn
  | cons t ts =>
    unfold isTys at h
    split at h
    · exact ⟨t, _, by assumption⟩
    · exact ⟨t, _, by assumption⟩
    · cases h
theorem g_isi {n : Nat} {et : Expr} {ts : List Ty} (C : Here Γ N sc cs W hot k X) (T : Tops Γ) (hg : gloB sc "isinstance" = true) (hp : noStar [ea, et] = true) (hn : ts ≠ []) (h : isiB Γ.pg Γ.tb sc et ts = true) (ha : PE X ea (tO Γ cs W a (evE (parN Γ n) a))) :
    PE X (.Call (.Name "isinstance" p1) [ea, et] [] pos) (tE Γ cs W (evE (parN Γ n) (.isi a ts))) := by
  obtain ⟨g1, g2⟩ := glo_of C hg
  have hst : plainArg ea = true ∧ noStar [et] = true := by
    unfold noStar at hp
    simpa only [Bool.and_eq_true] using hp
  have pt : plainArg et = true := by
    have := hst.2
    unfold noStar at this
    simp only [Bool.and_eq_true] at this
    exact this.1
  have key : ∀ {p : En0} {F1 : Hp} {ι1 : List Addr} {e1 : En} {m1 : Mu} {σ : St} {H1 : Hp} {Q : VK} {x : D} {v : V}, Sim Γ cs p F1 ι1 e1 m1 σ H1 → OpRl Γ F1 ι1 σ a v x → K1 Γ cs p F1 ι1 σ W (match objOf a x e1 m1 with
      | some d => if (parN Γ n).insOk d then .opt ((isTys d ts).map .bl) e1 m1 else .no
      | none => .no) (fun d F' ι' _ _ H' => ∀ v, Rep Γ F' ι' v d → Q v H') →
      ∃ d r, RdR Γ F1 ι1 H1 v d ∧ (∀ c fs, d = .ins c fs → ∃ k, Γ.pg.cls[c]? = some k) ∧ isTys d ts = some r ∧ ∀ H2, Sim Γ cs p F1 ι1 e1 m1 σ H2 → Q (.bl r) H2 := by
    intro p F1 ι1 e1 m1 σ H1 Q x v S1 rv q1
    split at q1
    · rename_i d hd
      split at q1
      · rename_i hi
        obtain ⟨d2, hd2, q2⟩ := K1.optS q1
        obtain ⟨r, hr, rfl⟩ := Option.map_eq_some_iff.mp hd2
        exact ⟨d, r, S1.obj rv hd, insOk_is hi, hr, fun H2 S2 => q2 F1 ι1 H2 S2 (Ext.refl _ _) _ (.bl r)⟩
      · exact q1.elim
    · exact q1.elim
  unfold isiB at h
  split at h
  · rename_i es x1 x2 ts'
    rw [Bool.and_eq_true] at h
    obtain ⟨h, hlen⟩ := h
    have hlen := of_decide_eq_true hlen
    obtain ⟨b1, b2⟩ := tys_pa T C h
    refine (pe_callB call_isiT g1 (blt_of T C (by decide +kernel)) (by decide +kernel) (pa_cons ha (pa_cons (pe_tup b1) pa_nil (star_one pt)) (star_one hst.1)) (by decide +kernel) g2 (star_one hst.1) (star_any hst.2)).weak fun σ H Q ⟨p, F, ι, e, m, S, q⟩ => ?_
    have q : K1 Γ cs p F ι σ W ((evE (parN Γ n) a e m).bind _) _ := q
    refine ⟨p, F, ι, e, m, S, q.bind.imp fun x F1 ι1 e1 m1 H1 S1 x1 q1 v rv => ?_⟩
    obtain ⟨d, r, rd, hi, hr, k⟩ := key S1 rv q1
    refine ⟨by simp only [List.length_map]; have : sizeLine = 16777216 := sizeLine_eq; omega, fun tp htp => ?_⟩
    have S2 := S1.laid (o := .tup (ts.map (tyV1 Γ))) htp
    obtain ⟨t0, r0, h0⟩ := isTys_ne hr hn
    have rd2 : RdR Γ F1 ι1 (upd H1 tp (.tup (ts.map (tyV1 Γ)))) v d := by
      cases rd with
      | rep r n => exact .rep r n
      | obj r => exact .obj (r.mono (Ext.refl _ _) fun o ho => by rw [upd_ne (ne_of_none ho htp)]; exact ho)
    obtain ⟨u, tx, ku⟩ := ty_of T S2 rd2 h0 hi
    exact ⟨v, tp, ts.map (tyV1 Γ), u, ts.map (tyU Γ), r, rfl, upd_same, cls_all ts, by rw [C.K]; exact tx, by rw [C.K]; exact kitAny_of b2 ku hr, k _ S2⟩
  · rename_i e0 t _
    obtain ⟨b1, b2, _⟩ := ty_pe T C h
    refine (pe_callB call_isi g1 (blt_of T C (by decide +kernel)) (by decide +kernel) (pa_cons ha (pa_cons b1 pa_nil (star_one pt)) (star_one hst.1)) (by decide +kernel) g2 (star_one hst.1) (star_any hst.2)).weak fun σ H Q ⟨p, F, ι, e, m, S, q⟩ => ?_
    have q : K1 Γ cs p F ι σ W ((evE (parN Γ n) a e m).bind _) _ := q
    refine ⟨p, F, ι, e, m, S, q.bind.imp fun x F1 ι1 e1 m1 H1 S1 x1 q1 v rv => ?_⟩
    obtain ⟨d, r, rd, hi, hr, k⟩ := key S1 rv q1
    have hr1 : isTy d t = some r := by
      unfold isTys isTys at hr
      cases ht : isTy d t with
      | none => rw [ht] at hr; cases hr
      | some b =>
        rw [ht] at hr
        cases b <;> exact hr
    obtain ⟨u, tx, ku⟩ := ty_of T S1 rd hr1 hi
    exact ⟨v, tyV1 Γ t, u, tyU Γ t, r, rfl, ty_cls t, by rw [C.K]; exact tx, by rw [C.K]; exact ku t r b2 hr1, k _ S1⟩
  · cases h
end
end G
end
section
set_option Elab.async false
set_option linter.all false
set_option maxRecDepth 100000
set_option maxHeartbeats 1000000
/-! G: statements. -/
namespace G
open PySem PySem.Spec PyProof.Rows L2
section
variable (Γ : Ge) (cs : List Cau) (p : En0) (F : Hp) (ι : List Addr) (W : WX)
/-- what is asked behind statements -/
def KS (r : RS) (D : Ends) : Prop := match r with
  | .nx e m => ∀ F' ι' σ' H', Sim Γ cs p F' ι' e m σ' H' → Ext F ι F' ι' → D.nx σ' H'
  | .ret d e m => ∀ F' ι' σ' H' v, Sim Γ cs p F' ι' e m σ' H' → Ext F ι F' ι' → Rep Γ F' ι' v d → D.rt v H'
  | .brk e m => ∀ F' ι' σ' H', Sim Γ cs p F' ι' e m σ' H' → Ext F ι F' ι' → D.bk σ' H'
  | .cnt e m => ∀ F' ι' σ' H', Sim Γ cs p F' ι' e m σ' H' → Ext F ι F' ι' → D.ct σ' H'
  | .ex c fs e m => ∀ dd F' ι' σ' H', Sim Γ cs p F' ι' e m σ' H' → Ext F ι F' ι' → RepX Γ F' ι' fs dd → W (.ref (Γ.xad c)) dd σ' H'
  | .no => False
end
section
variable {Γ : Ge} {cs : List Cau} {p : En0} {F F1 : Hp} {ι ι1 : List Addr} {W : WX} {α : Type} {D D' : Ends}
theorem KS.from {r : RS} (h : KS Γ cs p F ι W r D) (x : Ext F ι F1 ι1) : KS Γ cs p F1 ι1 W r D := by
  cases r with
  | nx e m => exact fun F' ι' σ' H' S y => h F' ι' σ' H' S (x.trans y)
  | ret d e m => exact fun F' ι' σ' H' v S y => h F' ι' σ' H' v S (x.trans y)
  | brk e m => exact fun F' ι' σ' H' S y => h F' ι' σ' H' S (x.trans y)
  | cnt e m => exact fun F' ι' σ' H' S y => h F' ι' σ' H' S (x.trans y)
  | ex c fs e m => exact fun dd F' ι' σ' H' S y => h dd F' ι' σ' H' S (x.trans y)
  | no => exact h
theorem KS.to {r : RS} (h : KS Γ cs p F ι W r D) (hn : ∀ σ H, D.nx σ H → D'.nx σ H) (hr : ∀ v H, D.rt v H → D'.rt v H) (hb : ∀ σ H, D.bk σ H → D'.bk σ H) (hc : ∀ σ H, D.ct σ H → D'.ct σ H) : KS Γ cs p F ι W r D' := by
  cases r with
  | nx e m => exact fun F' ι' σ' H' S y => hn _ _ (h F' ι' σ' H' S y)
  | ret d e m => exact fun F' ι' σ' H' v S y r => hr _ _ (h F' ι' σ' H' v S y r)
  | brk e m => exact fun F' ι' σ' H' S y => hb _ _ (h F' ι' σ' H' S y)
  | cnt e m => exact fun F' ι' σ' H' S y => hc _ _ (h F' ι' σ' H' S y)
  | ex c fs e m => exact h
  | no => exact h
theorem KS.bindS {r : R α} {f : α → En → Mu → RS} {σ : St} (h : KS Γ cs p F ι W (r.bindS f) D) : K1 Γ cs p F ι σ W r (fun a F' ι' e' m' H' => KS Γ cs p F' ι' W (f a e' m') D) := by
  cases r with
  | ok a e m => exact fun F' ι' H' S x => KS.from h x
  | ex c fs e m => exact fun dd F' ι' H' S x => h dd F' ι' σ H' S x
  | no => exact h
theorem KS.bind {r : RS} {f : En → Mu → RS} (h : KS Γ cs p F ι W (r.bind f) D) : KS Γ cs p F ι W r { D with nx := fun σ H => ∃ p F' ι' e' m', Sim Γ cs p F' ι' e' m' σ H ∧ KS Γ cs p F' ι' W (f e' m') D } := by
  cases r with
  | nx e m => exact fun F' ι' σ' H' S x => ⟨p, F', ι', e, m, S, KS.from h x⟩
  | ret d e m => exact h
  | brk e m => exact h
  | cnt e m => exact h
  | ex c fs e m => exact h
  | no => exact h
theorem KS.now {e : En} {m : Mu} {σ : St} {H : Hp} (h : KS Γ cs p F ι W (.nx e m) D) (S : Sim Γ cs p F ι e m σ H) : D.nx σ H := h F ι σ H S (Ext.refl F ι)
end
/-- statements' reading -/
def tS (Γ : Ge) (cs : List Cau) (W : WX) (f : En → Mu → RS) : TS := fun D σ H => ∃ p F ι e m, Sim Γ cs p F ι e m σ H ∧ KS Γ cs p F ι W (f e m) D
/-- a def's own frame -/
structure HereS (X : Cx) : Prop where
  pass : PassesOwn (model X.prog X.w) X.A X.env X.xe
  stk : X.stack = X.env :: X.outer
  frm : X.env.frame = some X.env.locals
  fn : ∀ x, X.fn x = true
  bk : X.env.blockKind = .function
section
variable {Γ : Ge} {N : List Str} {sc : Scope} {cs : List Cau} {W : WX} {hot : Bool} {k : Nat} {X : Cx} {P : Par} {a b c : C} {ea eb ec : Expr} {sa sb : S} {st : Stmt} {sts : List Stmt} {pos p1 p2 apos : Pos}
theorem s_nil : PSs X [] (tS Γ cs W (evS P .skip)) := pss_nil.weak fun D σ H ⟨p, F, ι, e, m, S, q⟩ => KS.now q S
theorem s_pass : PS X (.Pass pos) (tS Γ cs W (evS P .skip)) := ps_pass.weak fun D σ H ⟨p, F, ι, e, m, S, q⟩ => KS.now q S
theorem s_stuck : PS X st (tS Γ cs W (evS P .stuck)) := ps_never.weak fun D σ H ⟨p, F, ι, e, m, S, q⟩ => q
theorem ss_stuck : PSs X sts (tS Γ cs W (evS P .stuck)) := pss_never.weak fun D σ H ⟨p, F, ι, e, m, S, q⟩ => q
theorem s_seq (h1 : PS X st (tS Γ cs W (evS P sa))) (h2 : PSs X sts (tS Γ cs W (evS P sb))) : PSs X (st :: sts) (tS Γ cs W (evS P (.seq sa sb))) :=
  (pss_cons h1 h2).weak fun D σ H ⟨p, F, ι, e, m, S, q⟩ => ⟨p, F, ι, e, m, S, KS.bind (f := evS P sb) q⟩
/-- what is stored is no comprehension -/
def noComp : Expr → Bool
  | .ListComp _ _ _ _ => false
  | .SetComp _ _ _ _ => false
  | .DictComp _ _ _ _ _ => false
  | _ => true
theorem swaps_no {e : Expr} {t : Option Expr} {l : Nat} {env : Env} (h : noComp e = true) : swapsWith e t l env = pure false := by
  cases e <;> first | rfl | cases h
theorem swaps_att {e : Expr} {o : Expr} {f : Str} {p : Pos} {l : Nat} {env : Env} : swapsWith e (some (.Attribute o f p)) l env = pure false := by
  cases e <;> rfl
theorem swaps_tup {e : Expr} {es : List Expr} {kk p} {l : Nat} {env : Env} : swapsWith e (some (.Tuple es kk p)) l env = pure false := by
  cases e <;> rfl
theorem s_ex (hn : noComp ea = true) (ha : PE X ea (tE Γ cs W (evE P a))) : PS X (.Expr ea pos) (tS Γ cs W (evS P (.ex a))) :=
  (ps_expr ha (swaps_no hn)).weak fun D σ H ⟨p, F, ι, e, m, S, q⟩ => by
    have q : KS Γ cs p F ι W ((evE P a e m).bindS _) D := q
    exact ⟨p, F, ι, e, m, S, (KS.bindS q).imp fun d F1 ι1 e1 m1 H1 S1 x1 q1 v r => KS.now q1 S1⟩
theorem s_ret (ha : PE X ea (tE Γ cs W (evE P a))) : PS X (.Return (some ea) pos) (tS Γ cs W (evS P (.ret a))) :=
  (ps_ret ha).weak fun D σ H ⟨p, F, ι, e, m, S, q⟩ => by
    have q : KS Γ cs p F ι W ((evE P a e m).bindS _) D := q
    exact ⟨p, F, ι, e, m, S, (KS.bindS q).imp fun d F1 ι1 e1 m1 H1 S1 x1 q1 v r => q1 F1 ι1 σ H1 v S1 (Ext.refl _ _) r⟩
theorem s_retN : PS X (.Return none pos) (tS Γ cs W (evS P .retN)) := ps_retN.weak fun D σ H ⟨p, F, ι, e, m, S, q⟩ => q F ι σ H .non S (Ext.refl _ _) .non
theorem s_brk : PS X (.Break pos) (tS Γ cs W (evS P .brk)) := ps_break.weak fun D σ H ⟨p, F, ι, e, m, S, q⟩ => q F ι σ H S (Ext.refl _ _)
theorem s_cnt : PS X (.Continue pos) (tS Γ cs W (evS P .cnt)) := ps_continue.weak fun D σ H ⟨p, F, ι, e, m, S, q⟩ => q F ι σ H S (Ext.refl _ _)
theorem s_if {s1 s2 : List Stmt} (hc : PT X ec (tT Γ cs W (evT P c))) (h1 : PSs X s1 (tS Γ cs W (evS P sa))) (h2 : PSs X s2 (tS Γ cs W (evS P sb))) : PS X (.If ec s1 s2 pos) (tS Γ cs W (evS P (.if_ c sa sb))) :=
  (ps_if hc h1 h2).weak fun D σ H ⟨p, F, ι, e, m, S, q⟩ => by
    have q : KS Γ cs p F ι W ((evT P c e m).bindS _) D := q
    refine ⟨p, F, ι, e, m, S, (KS.bindS q).imp fun t F1 ι1 e1 m1 H1 S1 x1 q1 => ?_⟩
    cases t with
    | true => exact ⟨p, F1, ι1, e1, m1, S1, q1⟩
    | false => exact ⟨p, F1, ι1, e1, m1, S1, q1⟩
/-! ### targets -/
def locB (sc : Scope) (x : Str) : Bool := match sc.names.lookup x with
  | some .local => true
  | some .cell => true
  | _ => false
def tgB (N : List Str) (sc : Scope) : Tg → Expr → Bool
  | .nm i, .Name x _ => decide (N[i]? = some x) && locB sc x
  | .nil, .Tuple [] _ _ => true
  | .cons t ts, .Tuple (e :: es) k p => plainArg e && tgB N sc t e && tgB N sc ts (.Tuple es k p)
  | _, _ => false
/-- where targets may stand -/
structure Tgt (X : Cx) (N : List Str) (sc : Scope) : Prop where
  nm : X.N = N
  nd : N.Nodup
  calm : X.calm = true
  st : ∀ x, locB sc x = true → Loc X.env.scope x ∧ (X.fn x = true ∨ X.env.scope.names.lookup x = some .local)
theorem Here.tgt (C : Here Γ N sc cs W false k X) (B : HereS X) : Tgt X N sc where
  nm := C.nm
  nd := C.nd
  calm := C.calm rfl
  st := fun x h => by
    refine ⟨?_, .inl (B.fn x)⟩
    rw [C.sc]
    unfold locB at h
    split at h <;> first | exact .inl (by assumption) | exact .inr (by assumption) | cases h
def tgIx : Tg → List Nat
  | .nm i => [i]
  | .nil => []
  | .cons t ts => tgIx t ++ tgIx ts
/-- but for the target's slots nothing changes -/
def SameBut (ix : List Nat) (σ σ' : St) : Prop := ∀ vs, (∀ i ∈ ix, i ∈ vs) → wipe σ' vs = wipe σ vs
theorem wipe_set {σ : St} {i : Nat} {x : Option V} : ∀ {vs : List Nat}, i ∈ vs → wipe (σ.set i x) vs = wipe σ vs
  | v :: vs, h => by
    unfold wipe
    by_cases hv : i ∈ vs
    · rw [wipe_set hv]
    · have e : i = v := by
        rcases List.mem_cons.mp h with e | e
        · exact e
        · exact absurd e hv
      subst e
      have key : ∀ (ws : List Nat), i ∉ ws → wipe (σ.set i x) ws = (wipe σ ws).set i x := by
        intro ws
        induction ws with
        | nil => intro _; rfl
        | cons w ws ih =>
          intro hn
          simp only [List.mem_cons, not_or] at hn
          unfold wipe
          rw [ih hn.2, List.set_comm _ _ hn.1]
      rw [key vs hv, List.set_set]
theorem SameBut.set (σ : St) (i : Nat) (x : Option V) : SameBut [i] σ (σ.set i x) := fun vs h => wipe_set (h i List.mem_cons_self)
theorem SameBut.trans {a b : List Nat} {σ1 σ2 σ3 : St} (h : SameBut a σ1 σ2) (q : SameBut b σ2 σ3) : SameBut (a ++ b) σ1 σ3 := fun vs z => (q vs fun i hi => z i (List.mem_append_right _ hi)).trans (h vs fun i hi => z i (List.mem_append_left _ hi))
def gTg (Γ : Ge) (cs : List Cau) (t : Tg) : TG := fun v σ H Q => ∃ p F ι e m d e', Sim Γ cs p F ι e m σ H ∧ Rep Γ F ι v d ∧ setT t d e = some e' ∧ ∀ σ', Sim Γ cs p F ι e' m σ' H → SameBut (tgIx t) σ σ' → Q σ' H
def gTs (Γ : Ge) (cs : List Cau) (t : Tg) : TGs := fun vs σ H Q => ∃ p F ι e m ds e', Sim Γ cs p F ι e m σ H ∧ Reps Γ F ι vs ds ∧ setT t (.tup ds) e = some e' ∧ ∀ σ', Sim Γ cs p F ι e' m σ' H → SameBut (tgIx t) σ σ' → Q σ' H
theorem assign_one {e : Expr} {es : List Expr} {env : Env} (h : plainArg e = true) : (assignEach (e :: es) env).map (·.2) = assign e env :: (assignEach es env).map (·.2) ∧ (assignEach (e :: es) env).length = (assignEach es env).length + 1 ∧ ((assignEach (e :: es) env).findIdx? (·.1) = none ↔ (assignEach es env).findIdx? (·.1) = none) := by
  cases e <;> first | (cases h; done) | exact ⟨rfl, rfl, by
    rw [List.findIdx?_eq_none_iff, List.findIdx?_eq_none_iff]
    constructor
    · intro q x hx
      exact q x (List.mem_cons_of_mem _ hx)
    · intro q x hx
      rcases List.mem_cons.mp hx with rfl | hx
      · rfl
      · exact q x hx⟩
theorem tg_len : ∀ {t : Tg} {ds : List D} {e e' : En} {es : List Expr} {kk p}, tgB N sc t (.Tuple es kk p) = true → setT t (.tup ds) e = some e' → ds.length = es.length ∧ ∀ env : Env, (assignEach es env).length = es.length ∧ (assignEach es env).findIdx? (·.1) = none
  | .nm i, _, _, _, _, _, _, h, _ => by simp [tgB] at h
  | .nil, ds, e, e', es, kk, p, h, hs => by
    cases es with
    | nil =>
      cases ds with
      | nil => exact ⟨rfl, fun _ => ⟨rfl, rfl⟩⟩
      | cons d ds => simp [setT] at hs
    | cons x es => simp [tgB] at h
  | .cons t ts, ds, e, e', es, kk, p, h, hs => by
    cases es with
    | nil => simp [tgB] at h
    | cons x es =>
      simp only [tgB, Bool.and_eq_true] at h
      cases ds with
      | nil => simp [setT] at hs
      | cons d ds =>
        simp only [setT] at hs
        obtain ⟨e1, _, h2⟩ := Option.bind_eq_some_iff.mp hs
        obtain ⟨l1, l2⟩ := tg_len (kk := kk) (p := p) h.2 h2
        refine ⟨by simp [l1], fun env => ?_⟩
        obtain ⟨a1, a2, a3⟩ := assign_one (es := es) (env := env) h.1.1
        exact ⟨by rw [a2, (l2 env).1]; rfl, a3.mpr (l2 env).2⟩
mutual
theorem pg_of (B : Tgt X N sc) (hK : X.K = Γ.K) : ∀ {t : Tg} {e : Expr}, tgB N sc t e = true → PG X e (gTg Γ cs t)
  | .nm i, e, h => by
    cases e <;> first | (simp [tgB] at h; done) | skip
    rename_i x px
    simp only [tgB, Bool.and_eq_true, decide_eq_true_eq] at h
    obtain ⟨l1, l2⟩ := B.st x h.2
    refine ⟨fun pins s σ H v u Q I r q => ?_⟩
    obtain ⟨p, F, ι, e, m, d, e', S, rd, hs, k⟩ := q
    refine (pg_name (by rw [B.nm]; exact B.nd) (by rw [B.nm]; exact h.1) l1 l2).run pins s σ H v u Q I r ?_
    unfold setT at hs
    split at hs
    · cases hs
      exact k _ (S.setVal rd) (SameBut.set _ _ _)
    · cases hs
  | .nil, e, h => by
    refine ⟨fun pins s σ H v u Q I r q => ?_⟩
    obtain ⟨p, F, ι, en, m, d, e', S, rd, hs, k⟩ := q
    cases e <;> first | (simp [tgB] at h; done) | skip
    rename_i es kk px
    have hd : ∃ ds, d = .tup ds := by
      cases d <;> first | exact ⟨_, rfl⟩ | (simp [setT] at hs; done)
    obtain ⟨ds, rfl⟩ := hd
    obtain ⟨l1, l2⟩ := tg_len h hs
    obtain ⟨a, vs, rfl, hq, rs⟩ := (show RdR Γ F ι H v (.tup ds) from RdR.rep rd (fun k z => by cases z)).tup S
    refine (pg_tup (t := gTs Γ cs .nil) (n := es.length) B.calm (pgs_of B hK h) (l2 X.env).1 (l2 X.env).2).run pins s σ H _ u Q I r ⟨a, vs, rfl, by rw [hK]; exact hq, by rw [rs.length, l1], p, F, ι, en, m, ds, e', S, rs, hs, k⟩
  | .cons t ts, e, h => by
    refine ⟨fun pins s σ H v u Q I r q => ?_⟩
    obtain ⟨p, F, ι, en, m, d, e', S, rd, hs, k⟩ := q
    cases e <;> first | (simp [tgB] at h; done) | skip
    rename_i es kk px
    have hd : ∃ ds, d = .tup ds := by
      cases d <;> first | exact ⟨_, rfl⟩ | (simp [setT] at hs; done)
    obtain ⟨ds, rfl⟩ := hd
    obtain ⟨l1, l2⟩ := tg_len h hs
    obtain ⟨a, vs, rfl, hq, rs⟩ := (show RdR Γ F ι H v (.tup ds) from RdR.rep rd (fun k z => by cases z)).tup S
    refine (pg_tup (t := gTs Γ cs (.cons t ts)) (n := es.length) B.calm (pgs_of B hK h) (l2 X.env).1 (l2 X.env).2).run pins s σ H _ u Q I r ⟨a, vs, rfl, by rw [hK]; exact hq, by rw [rs.length, l1], p, F, ι, en, m, ds, e', S, rs, hs, k⟩
theorem pgs_of (B : Tgt X N sc) (hK : X.K = Γ.K) : ∀ {t : Tg} {es : List Expr} {kk p}, tgB N sc t (.Tuple es kk p) = true → PGs X es (gTs Γ cs t)
  | .nm i, es, _, _, h => by simp [tgB] at h
  | .nil, es, kk, px, h => by
    cases es with
    | cons x es => simp [tgB] at h
    | nil =>
      refine ⟨fun pins s σ H vs us Q I r q => pgs_nil.run pins s σ H vs us Q I r ?_⟩
      obtain ⟨p, F, ι, en, m, ds, e', S, rs, hs, k⟩ := q
      cases ds with
      | cons d ds => simp [setT] at hs
      | nil =>
        cases rs
        simp only [setT, Option.some.injEq] at hs
        subst hs
        exact ⟨rfl, k σ S fun _ _ => rfl⟩
  | .cons t ts, es, kk, px, h => by
    cases es with
    | nil => simp [tgB] at h
    | cons x es =>
      simp only [tgB, Bool.and_eq_true] at h
      refine ⟨fun pins s σ H vs us Q I r q => (pgs_cons (pg_of B hK h.1.2) (pgs_of B hK h.2) (assign_one h.1.1).1).run pins s σ H vs us Q I r ?_⟩
      obtain ⟨p, F, ι, en, m, ds, e', S, rs, hs, k⟩ := q
      cases ds with
      | nil => simp [setT] at hs
      | cons d ds =>
        cases rs with
        | cons r1 rs =>
          simp only [setT] at hs
          obtain ⟨e1, h1, h2⟩ := Option.bind_eq_some_iff.mp hs
          exact ⟨_, _, rfl, p, F, ι, en, m, d, e1, S, r1, h1, fun σ' S' sb => ⟨p, F, ι, e1, m, ds, e', S', rs, h2, fun σ'' S'' sb2 => k σ'' S'' (sb.trans sb2)⟩⟩
end
/-- the value of a store: not a pair to several names -/
def noPair : Expr → Expr → Bool
  | .Tuple _ _ _, .Tuple _ _ _ => false
  | .List _ _, .Tuple _ _ _ => false
  | _, _ => true
theorem noPair_is {t e : Expr} {env : Env} (h : noPair t e = true) : swappedStores [t] e env = pure none := by
  cases t <;> cases e <;> first | rfl | cases h
def soleOk : Expr → Expr → Bool
  | .Tuple _ _ _, _ => true
  | .Name _ _, e => noComp e
  | _, _ => false
theorem soleOk_is {t e : Expr} {l : Nat} {env : Env} (h : soleOk t e = true) : swapsWithSole [t] e l env = pure false := by
  show swapsWith e (some t) l env = _
  cases t <;> first | (cases h; done) | exact swaps_no h | exact swaps_tup
theorem s_asg {t : Tg} {et : Expr} (C : Here Γ N sc cs W false k X) (B : HereS X) (ht : tgB N sc t et = true) (h1 : noPair et ea = true) (h2 : soleOk et ea = true) (hp : plainArg et = true) (ha : PE X ea (tE Γ cs W (evE P a))) : PS X (.Assign [et] ea pos) (tS Γ cs W (evS P (.asg t a))) :=
  (ps_asg ha (pg_of (cs := cs) (C.tgt B) C.K ht) (soleOk_is h2) (noPair_is h1) (by rw [(assign_one (es := []) hp).1]; rfl)).weak fun D σ H ⟨p, F, ι, e, m, S, q⟩ => by
    have q : KS Γ cs p F ι W ((evE P a e m).bindS _) D := q
    refine ⟨p, F, ι, e, m, S, (KS.bindS q).imp fun d F1 ι1 e1 m1 H1 S1 x1 q1 v r => ?_⟩
    split at q1
    · rename_i e2 h3
      exact ⟨p, F1, ι1, e1, m1, d, e2, S1, r, h3, fun σ' S' _ => KS.now q1 S'⟩
    · exact q1.elim
end
end G
end
section
set_option Elab.async false
set_option linter.all false
set_option maxRecDepth 100000
set_option maxHeartbeats 1000000
/-! G: what is walked; loops; comprehensions. -/
namespace G
open PySem PySem.Spec PyProof.Rows L2
/-- the iterator J yields ds, from states that come behind F, ι -/
def Wks (Γ : Ge) (F : Hp) (ι : List Addr) (J : It) (ds : List D) : Prop := ∀ (cs : List Cau) (p : En0) (σ : St) (i : Nat) (e : En) (m : Mu) (H F1 : Hp) (ι1 : List Addr), Sim Γ cs p F1 ι1 e m σ H → Ext F ι F1 ι1 →
  (∀ d, ds[i]? = some d → J.go i H ∧ ∀ x H', J.yld i H x H' → H' = H ∧ Rep Γ F1 ι1 x d) ∧ (ds.length ≤ i → J.stop i H)
def tI (Γ : Ge) (cs : List Cau) (W : WX) (f : En → Mu → R (List D)) : TI := fun σ H R => ∃ p F ι e m, Sim Γ cs p F ι e m σ H ∧ K1 Γ cs p F ι σ W (f e m) fun ds F' ι' _ _ H' => ∀ J, Wks Γ F' ι' J ds → R J H'
section
variable {Γ : Ge} {N : List Str} {sc : Scope} {cs : List Cau} {W : WX} {hot : Bool} {k : Nat} {X : Cx} {P : Par} {a b c : C} {ea eb ec : Expr} {pos p1 p2 apos : Pos} {F : Hp} {ι : List Addr} {tg : Expr}
theorem wks_list {a : Addr} {vs : List V} {ds : List D} (h : F a = some (.lst vs)) (r : Reps Γ F ι vs ds) : Wks Γ F ι (Itl Γ.K a) ds := by
  intro cs p σ i e m H F1 ι1 S x
  have hs : SqL Γ.K H a vs := .inl (.inl (exact_of S (x.fr _ _ h) rfl))
  refine ⟨fun d hd => ?_, fun hl => ⟨vs, hs, by rw [r.length]; exact hl⟩⟩
  obtain ⟨v, hv, rv⟩ := r.get hd
  exact ⟨⟨vs, v, hs, hv⟩, fun x' H' ⟨e1, e2⟩ => by
    have := e2 vs hs
    rw [hv] at this
    cases this
    exact ⟨e1, rv.mono x⟩⟩
theorem wks_tup {a : Addr} {vs : List V} {ds : List D} (h : F a = some (.tup vs) ∨ SqT Γ.K nowhere a vs) (r : Reps Γ F ι vs ds) : Wks Γ F ι (Itt Γ.K a) ds := by
  intro cs p σ i e m H F1 ι1 S x
  have hs : SqT Γ.K H a vs := sqT_of S (h.imp (x.fr _ _) id)
  refine ⟨fun d hd => ?_, fun hl => ⟨vs, hs, by rw [r.length]; exact hl⟩⟩
  obtain ⟨v, hv, rv⟩ := r.get hd
  exact ⟨⟨vs, v, hs, hv⟩, fun x' H' ⟨e1, e2⟩ => by
    have := e2 vs hs
    rw [hv] at this
    cases this
    exact ⟨e1, rv.mono x⟩⟩
theorem wks_str (z : Str) : Wks Γ F ι (Its z) (z.cps.toList.map fun c => .str ⟨#[c]⟩) := by
  intro cs p σ i e m H F1 ι1 S x
  refine ⟨fun d hd => ?_, fun hl => by simpa [Its] using hl⟩
  rw [List.getElem?_map] at hd
  obtain ⟨c, hc, rfl⟩ := Option.map_eq_some_iff.mp hd
  have hc' : z.cps[i]? = some c := by simpa using hc
  refine ⟨(Array.getElem?_eq_some_iff.mp hc').1, fun x' H' ⟨e1, c', h1, h2⟩ => ⟨e1, ?_⟩⟩
  rw [hc'] at h1
  cases h1
  subst h2
  exact .str _
/-- an iterable's value is walked -/
theorem iter_of {p : En0} {e : En} {m : Mu} {σ : St} {H : Hp} {s : Shared} {pins : List (Addr × Obj)} {R : It → Hp → Prop} {x : D} {v : V} {u : Value} {ds : List D} (hK : X.K = Γ.K) (I : Inv X pins σ H s) (rv : RelV v u) (S : Sim Γ cs p F ι e m σ H) (r : Rep Γ F ι v x) (h : itemsOf x = some ds)
    (q : ∀ J, Wks Γ F ι J ds → R J H) : wpAny (model X.prog X.w) X.A (pyIter u) (PIE X pins σ tg R) X.xe s := by
  cases x <;> first | (cases h; done) | skip
  · cases h
    cases r
    obtain ⟨t, rfl⟩ := rv
    rename_i z
    cases ha : z.cps.all (· < 128)
    · exact wpAny_pyIter_wide ha (pi_one (tk := s.toks) I _ (turn_str _ z t "str_iterator" (.inr rfl)) ⟨_, Heap.get?_push_size _ rfl, rfl, rfl⟩ (q _ (wks_str z)))
    · exact wpAny_pyIter_ascii ha (pi_one (tk := s.toks) I _ (turn_str _ z t "str_ascii_iterator" (.inl rfl)) ⟨_, Heap.get?_push_size _ rfl, rfl, rfl⟩ (q _ (wks_str z)))
  · cases h
    cases r with
    | @tup a vs _ h1 r1 =>
      cases rv
      have hs : SqT X.K H a vs := by rw [hK]; exact sqT_of S h1
      obtain ⟨its, rv, p, hz⟩ := I.tuple hs
      exact wpAny_pyIter_tuple (show s.heap.IsTuple a its.toArray from p) (pi_one (tk := s.toks) I _ (turn_tuple a _) ⟨_, Heap.get?_push_size _ rfl, rfl, rfl⟩ (q _ (by rw [hK]; exact wks_tup h1 r1)))
  · cases h
    cases r with
    | @lst a vs _ h1 r1 =>
      cases rv
      have hs : SqL X.K H a vs := .inl (.inl (exact_of S h1 rfl))
      obtain ⟨its, rv, p, hz⟩ := I.list hs
      exact wpAny_pyIter_list p.isList (pi_one (tk := s.toks) I _ (turn_list a _) ⟨_, Heap.get?_push_size _ rfl, rfl, rfl⟩ (q _ (by rw [hK]; exact wks_list h1 r1)))
theorem i_wk (hK : X.K = Γ.K) (ha : PE X ea (tE Γ cs W (evE P a))) : PI X tg ea (tI Γ cs W (evI P (.wk a))) := by
  refine ⟨fun pins s σ H R I ⟨p, F, ι, e, m, S, q⟩ => ?_⟩
  have q : K1 Γ cs p F ι σ W ((evE P a e m).bind fun x e1 m1 => .opt (itemsOf x) e1 m1) _ := q
  refine thn (ha.run pins s σ H (fun v H1 => ∃ F1 ι1 e1 m1 x, Sim Γ cs p F1 ι1 e1 m1 σ H1 ∧ Rep Γ F1 ι1 v x ∧ K1 Γ cs p F1 ι1 σ W (.opt (itemsOf x) e1 m1) fun ds F' ι' _ _ H' => ∀ J, Wks Γ F' ι' J ds → R J H') I ⟨p, F, ι, e, m, S, q.bind.imp fun x F1 ι1 e1 m1 H1 S1 x1 q1 v r => ⟨F1, ι1, e1, m1, x, S1, r, q1⟩⟩)
    fun u s1 ⟨v, H1, I1, rv, F1, ι1, e1, m1, x, S1, r, q1⟩ => ?_
  obtain ⟨ds, hd, q2⟩ := K1.optS q1
  exact iter_of hK I1 rv S1 r hd (K1.ok q2 S1)
theorem wks_rng (lo : Int) (n : Nat) : Wks Γ F ι (Itr lo n) (rInts lo n 1) := by
  intro cs p σ i e m H F1 ι1 S x
  have hl : (rInts lo n 1).length = n := by simp [rInts]
  refine ⟨fun d hd => ?_, fun h => by rw [hl] at h; exact h⟩
  have hi : i < n := by rw [← hl]; exact (List.getElem?_eq_some_iff.mp hd).1
  unfold rInts at hd
  rw [List.getElem?_map, List.getElem?_range hi] at hd
  cases hd
  exact ⟨hi, fun x' H' ⟨e1, e2⟩ => ⟨e1, by subst e2; show Rep Γ F1 ι1 (V.int (lo + i)) (.int (lo + (i : Int) * 1)); rw [Int.mul_one]; exact .int _⟩⟩
theorem rangeD_one {i j : Int} {ds : List D} (h : rangeD i j 1 = some ds) : (-(2 ^ 62) ≤ i ∧ i < 2 ^ 62 ∧ -(2 ^ 62) ≤ j ∧ j < 2 ^ 62) ∧ ds = rInts i (j - i).toNat 1 := by
  unfold rangeD at h
  split at h
  · rename_i hb
    simp only [Bool.and_eq_true, decide_eq_true_eq] at hb
    simp only [if_pos] at h
    exact ⟨by omega, (Option.some.inj h).symm⟩
  · cases h
theorem i_rng1 (C : Here Γ N sc cs W hot k X) (T : Tops Γ) (hg : gloB sc "range" = true) (hp : plainArg eb = true) (hb : PE X eb (tE Γ cs W (evE P b))) : PI X tg (.Call (.Name "range" p1) [eb] [] pos) (tI Γ cs W (evI P (.rng (.cst (.int 0)) b (.cst (.int 1))))) := by
  obtain ⟨g1, g2⟩ := glo_of C hg
  have h := pi_range1 (tg := tg) (p := p1) (pos := pos) g1 (blt_of T C (by decide +kernel)) (pa_cons hb pa_nil (star_one hp)) (star_one hp)
  refine ⟨fun pins s σ H RR I ⟨p, F, ι, e, m, S, q⟩ => h.run pins s σ H RR I ⟨p, F, ι, e, m, S, ?_⟩⟩
  have q : K1 Γ cs p F ι σ W ((evE P b e m).bind fun y e2 m2 => match y with
    | .int y => .opt (rangeD 0 y 1) e2 m2
    | _ => .no) (fun ds F' ι' _ _ H' => ∀ J, Wks Γ F' ι' J ds → RR J H') := by
    have e1 : evI P (.rng (.cst (.int 0)) b (.cst (.int 1))) e m = (evE P b e m).bind fun y e2 m2 => match y with
      | .int y => .opt (rangeD 0 y 1) e2 m2
      | _ => .no := by
      show (R.bind (.ok (D.int 0) e m) fun x e1 m1 => (evE P b e1 m1).bind fun y e2 m2 => (R.bind (.ok (D.int 1) e2 m2) fun z e3 m3 => match x, y, z with
        | .int x, .int y, .int z => .opt (rangeD x y z) e3 m3
        | _, _, _ => .no)) = _
      simp only [R.bind_ok]
      congr 1
      funext y e2 m2
      cases y <;> rfl
    rw [← e1]
    exact q
  refine q.bind.imp fun d F1 ι1 e1 m1 H1 S1 x1 q1 v r => ?_
  cases d <;> first | exact q1.elim | skip
  obtain ⟨ds, hd, q2⟩ := K1.optS q1
  obtain ⟨hb, rfl⟩ := rangeD_one hd
  cases r
  exact ⟨_, rfl, by omega, by omega, K1.ok q2 S1 _ (by simpa using wks_rng 0 _)⟩
theorem i_rng2 (C : Here Γ N sc cs W hot k X) (T : Tops Γ) (hg : gloB sc "range" = true) (hp : noStar [ea, eb] = true) (ha : PE X ea (tE Γ cs W (evE P a))) (hb : PE X eb (tE Γ cs W (evE P b))) : PI X tg (.Call (.Name "range" p1) [ea, eb] [] pos) (tI Γ cs W (evI P (.rng a b (.cst (.int 1))))) := by
  obtain ⟨g1, g2⟩ := glo_of C hg
  have hst : plainArg ea = true ∧ plainArg eb = true := by
    unfold noStar noStar at hp
    simp only [Bool.and_eq_true] at hp
    exact ⟨hp.1, hp.2.1⟩
  have h := pi_range2 (tg := tg) (p := p1) (pos := pos) g1 (blt_of T C (by decide +kernel)) (pa_cons ha (pa_cons hb pa_nil (star_one hst.2)) (star_one hst.1)) (by rw [star_one hst.1, star_one hst.2]; rfl) (by rw [star_one hst.2]; rfl)
  refine ⟨fun pins s σ H RR I ⟨p, F, ι, e, m, S, q⟩ => h.run pins s σ H RR I ⟨p, F, ι, e, m, S, ?_⟩⟩
  have q : K1 Γ cs p F ι σ W ((evE P a e m).bind fun x e1 m1 => (evE P b e1 m1).bind fun y e2 m2 => R.bind (.ok (D.int 1) e2 m2) fun z e3 m3 => match x, y, z with
        | .int x, .int y, .int z => .opt (rangeD x y z) e3 m3
        | _, _, _ => .no) (fun ds F' ι' _ _ H' => ∀ J, Wks Γ F' ι' J ds → RR J H') := q
  refine q.bind.imp fun d F1 ι1 e1 m1 H1 S1 x1 q1 v r => ⟨p, F1, ι1, e1, m1, S1, (K1.bind q1).imp fun d2 F2 ι2 e2 m2 H2 S2 x2 q2 w r2 => ?_⟩
  simp only [R.bind_ok] at q2
  cases d <;> cases d2 <;> first | exact q2.elim | skip
  obtain ⟨ds, hd, q3⟩ := K1.optS q2
  obtain ⟨hb, rfl⟩ := rangeD_one hd
  cases r
  cases r2
  exact ⟨_, _, rfl, hb, K1.ok q3 S2 _ (wks_rng _ _)⟩
/-! ### loops -/
theorem KS.loop {p : En0} {D : Ends} {r : RS} {g : En → Mu → RS} (h : KS Γ cs p F ι W (match r with
      | .nx e1 m1 => g e1 m1
      | .cnt e1 m1 => g e1 m1
      | .brk e1 m1 => .nx e1 m1
      | r => r) D) : KS Γ cs p F ι W r { D with
        nx := fun σ H => ∃ F' ι' e' m', Sim Γ cs p F' ι' e' m' σ H ∧ Ext F ι F' ι' ∧ KS Γ cs p F' ι' W (g e' m') D
        ct := fun σ H => ∃ F' ι' e' m', Sim Γ cs p F' ι' e' m' σ H ∧ Ext F ι F' ι' ∧ KS Γ cs p F' ι' W (g e' m') D
        bk := D.nx } := by
  cases r with
  | nx e m => exact fun F' ι' σ' H' S x => ⟨F', ι', e, m, S, x, KS.from h x⟩
  | cnt e m => exact fun F' ι' σ' H' S x => ⟨F', ι', e, m, S, x, KS.from h x⟩
  | brk e m => exact h
  | ret d e m => exact h
  | ex c fs e m => exact h
  | no => exact h
theorem fold_no {e : Expr} {env : Env} {x : Value} (h : noSet e = true) : foldedSetIterable e env x = pure x := by
  cases e <;> first | rfl | cases h
theorem s_for {t : Tg} {it : Expr} {body : List Stmt} {sb : S} (C : Here Γ N sc cs W false k X) (B : HereS X) (hs : noSet it = true) (ht : tgB N sc t tg = true) (hi : PI X tg it (tI Γ cs W (evI P a))) (hb : PSs X body (tS Γ cs W (evS P sb))) : PS X (.For tg it body [] pos) (tS Γ cs W (evS P (.for_ t a sb))) :=
  (ps_for B.pass (C.calm rfl) hi (pg_of (cs := cs) (C.tgt B) C.K ht) hb (fun _ => fold_no hs)).weak fun D σ H ⟨p, F, ι, e, m, S, q⟩ => by
    have q : KS Γ cs p F ι W ((evI P a e m).bindS _) D := q
    refine ⟨p, F, ι, e, m, S, (KS.bindS q).imp fun ds F1 ι1 e1 m1 H1 S1 x1 q1 J hJ => ?_⟩
    refine ⟨fun i n σ H => n = ds.length - i ∧ ∃ F2 ι2 e2 m2, Sim Γ cs p F2 ι2 e2 m2 σ H ∧ Ext F1 ι1 F2 ι2 ∧ KS Γ cs p F2 ι2 W (forL (fun d e2 m2 => match setT t d e2 with
      | some e3 => evS P sb e3 m2
      | none => .no) (ds.drop i) e2 m2) D, ⟨_, rfl, F1, ι1, e1, m1, S1, Ext.refl _ _, q1⟩, ?_⟩
    rintro i n σ2 H2 ⟨rfl, F2, ι2, e2, m2, S2, x2, q2⟩
    obtain ⟨w1, w2⟩ := hJ cs p σ2 i e2 m2 H2 F2 ι2 S2 x2
    by_cases hl : i < ds.length
    · have hd : ds[i]? = some ds[i] := List.getElem?_eq_getElem hl
      obtain ⟨go, yl⟩ := w1 _ hd
      rw [List.drop_eq_getElem_cons hl] at q2
      have q3 := KS.loop (r := match setT t ds[i] e2 with
        | some e3 => evS P sb e3 m2
        | none => .no) q2
      cases hst : setT t ds[i] e2 with
      | none => rw [hst] at q3; exact q3.elim
      | some e3 =>
        rw [hst] at q3
        refine .inr ⟨go, fun σ' H' => ∃ F' ι' e' m', Sim Γ cs p F' ι' e' m' σ' H' ∧ Ext F2 ι2 F' ι' ∧ KS Γ cs p F' ι' W (forL (fun d e2 m2 => match setT t d e2 with
            | some e3 => evS P sb e3 m2
            | none => .no) (ds.drop (i + 1)) e' m') D, fun σ' H' z => ?_, fun x H' y => ?_⟩
        · obtain ⟨F3, ι3, e4, m3, S3, x3, q4⟩ := z
          exact ⟨ds.length - (i + 1), by omega, rfl, F3, ι3, e4, m3, S3, x2.trans x3, q4⟩
        · obtain ⟨rfl, rx⟩ := yl x H' y
          exact ⟨p, F2, ι2, e2, m2, _, e3, S2, rx, hst, fun σ' S' _ => ⟨p, F2, ι2, e3, m2, S', q3⟩⟩
    · rw [List.drop_of_length_le (by omega)] at q2
      exact .inl ⟨w2 (by omega), KS.now q2 S2⟩
theorem s_wh {body : List Stmt} {sb : S} (B : HereS X) (hc : PT X ec (tT Γ cs W (evT P c))) (hb : PSs X body (tS Γ cs W (evS P sb))) : PS X (.While ec body [] pos) (tS Γ cs W (evS P (.wh c sb))) :=
  (ps_while B.pass hc hb).weak fun D σ H ⟨p, F, ι, e, m, S, q⟩ => by
    have q : KS Γ cs p F ι W (whL (evT P c) (evS P sb) P.fuel e m) D := q
    refine ⟨fun n σ H => ∃ F2 ι2 e2 m2, Sim Γ cs p F2 ι2 e2 m2 σ H ∧ KS Γ cs p F2 ι2 W (whL (evT P c) (evS P sb) n e2 m2) D, ⟨_, F, ι, e, m, S, q⟩, ?_⟩
    rintro n σ2 H2 ⟨F2, ι2, e2, m2, S2, q2⟩
    cases n with
    | zero => exact q2.elim
    | succ n =>
      have q2 : KS Γ cs p F2 ι2 W ((evT P c e2 m2).bindS fun b e1 m1 => if b then match evS P sb e1 m1 with
        | .nx e2 m2 => whL (evT P c) (evS P sb) n e2 m2
        | .cnt e2 m2 => whL (evT P c) (evS P sb) n e2 m2
        | .brk e2 m2 => .nx e2 m2
        | r => r
      else .nx e1 m1) D := q2
      refine ⟨p, F2, ι2, e2, m2, S2, (KS.bindS q2).imp fun t F3 ι3 e3 m3 H3 S3 x3 q3 => ?_⟩
      cases t with
      | false => exact KS.now q3 S3
      | true =>
        have q4 := KS.loop (g := whL (evT P c) (evS P sb) n) q3
        exact ⟨_, fun σ' H' ⟨F', ι', e', m', S', _, q'⟩ => ⟨n, Nat.lt_succ_self n, F', ι', e', m', S', q'⟩, p, F3, ι3, e3, m3, S3, q4⟩
end
end G
end
section
set_option Elab.async false
set_option linter.all false
set_option maxRecDepth 100000
set_option maxHeartbeats 1000000
/-! G: list comprehensions. -/
namespace G
open PySem PySem.Spec PyProof.Rows L2
def En0.put (p : En0) (D : Addr) (o : HO) : En0 := ⟨upd p.H D o, p.F, p.ι, p.me⟩
/-- an object that nobody here knows of -/
structure Apart (p : En0) (F : Hp) (ι : List Addr) (e : En) (σ : St) (D : Addr) : Prop where
  fr : F D = none
  ce : D ∉ ι
  ow : D ∉ ownA e σ
  pn : p.H D = none
section
variable {Γ : Ge} {cs : List Cau} {p : En0} {F : Hp} {ι : List Addr} {e : En} {m : Mu} {σ : St} {H : Hp} {D : Addr} {o o' : HO}
theorem Apart.base (S : Sim Γ cs p F ι e m σ H) (a : Apart p F ι e σ D) : p.F D = none ∧ D ∉ p.ι := by
  refine ⟨?_, fun h => ?_⟩
  · cases q : p.F D with
    | none => rfl
    | some u =>
      have := S.ext.fr D u q
      rw [a.fr] at this; cases this
  · obtain ⟨ν, z⟩ := S.ext.ce
    exact a.ce (by rw [z]; exact List.mem_append_left _ h)
theorem Sim.hide (S : Sim Γ cs p F ι e m σ H) (hD : H D = some o) (a : Apart p F ι e σ D) : Sim Γ cs (p.put D o) F ι e m σ H := by
  obtain ⟨as, r, nd, fr, ow⟩ := S.env
  have nas : D ∉ as := by rw [r.addr]; exact a.ow
  refine ⟨S.sub, S.ext, S.cel, ⟨as, r, nd, fr, fun b hb => ?_⟩, fun b u q hn => ?_, fun b u q => ?_, fun b hb => ?_, S.slf⟩
  · show upd p.H D o b = none
    rw [upd_ne (show b ≠ D from fun z => nas (z ▸ hb))]
    exact ow b hb
  · have q : upd p.H D o b = some u := q
    by_cases hb : b = D
    · subst hb
      rw [upd_same] at q
      cases q
      exact .inl hD
    · rw [upd_ne hb] at q
      exact S.keep b u q hn
  · have hb : b ≠ D := fun z => by rw [z, a.fr] at q; cases q
    rcases S.newF b u q with z | z
    · exact .inl z
    · refine .inr ?_
      show upd p.H D o b = none
      rw [upd_ne hb]
      exact z
  · have hbD : b ≠ D := fun z => a.ce (z ▸ hb)
    rcases S.newC b hb with z | z
    · exact .inl z
    · refine .inr ?_
      show upd p.H D o b = none
      rw [upd_ne hbD]
      exact z
theorem Sim.unhide (S : Sim Γ cs (p.put D o) F ι e m σ H) (hn : p.H D = none) (hf : p.F D = none) (hi : D ∉ p.ι) (hl : lk o = false) : Sim Γ cs p F ι e m σ H ∧ H D = some o ∧ Apart p F ι e σ D := by
  have back : ∀ {b : Addr}, upd p.H D o b = none → p.H b = none := fun {b} z => by
    by_cases hb : b = D
    · rw [hb]; exact hn
    · rwa [upd_ne hb] at z
  have some' : upd p.H D o D = some o := upd_same
  obtain ⟨as, r, nd, fr, ow⟩ := S.env
  refine ⟨⟨S.sub, S.ext, S.cel, ⟨as, r, nd, fr, fun b hb => back (ow b hb)⟩, fun b u q hb => ?_, fun b u q => (S.newF b u q).imp id back, fun b hb => (S.newC b hb).imp id back, S.slf⟩, ?_, ⟨?_, fun h => ?_, fun h => ?_, hn⟩⟩
  · have hbD : b ≠ D := fun z => by rw [z, hn] at q; cases q
    exact S.keep b u (by show upd p.H D o b = _; rw [upd_ne hbD]; exact q) hb
  · rcases S.keep D o some' hi with z | ⟨ob, _, z, _⟩
    · exact z
    · rw [hl] at z; cases z
  · cases q : F D with
    | none => rfl
    | some u =>
      rcases S.newF D u q with z | z
      · have z : p.F D = some u := z
        rw [hf] at z; cases z
      · have z : upd p.H D o D = none := z
        rw [some'] at z; cases z
  · rcases S.newC D h with z | z
    · exact hi z
    · have z : upd p.H D o D = none := z
      rw [some'] at z; cases z
  · have z : upd p.H D o D = none := ow D (by rw [r.addr]; exact h)
    rw [some'] at z; cases z
/-- what nobody knows of changes -/
theorem Sim.put (S : Sim Γ cs p F ι e m σ H) (a : Apart p F ι e σ D) : Sim Γ cs p F ι e m σ (upd H D o') := by
  obtain ⟨as, r, nd, fr, ow⟩ := S.env
  have nas : D ∉ as := by rw [r.addr]; exact a.ow
  have keepH : ∀ {b : Addr} {u : HO}, b ≠ D → H b = some u → upd H D o' b = some u := fun hb q => by rw [upd_ne hb]; exact q
  refine ⟨fun b u q => ?_, S.ext, S.cel.mono (Ext.refl F ι) fun b hb u q => keepH (fun z => a.ce (z ▸ hb)) q, ⟨as, r.mono (Ext.refl F ι) fun b hb u q => keepH (fun z => nas (z ▸ hb)) q, nd, fr, ow⟩, fun b u q hn => ?_, S.newF, S.newC, S.slf⟩
  · have hb : b ≠ D := fun z => by rw [z, a.fr] at q; cases q
    rcases S.sub b u q with z | ⟨ob, z, l⟩
    · exact .inl (keepH hb z)
    · exact .inr ⟨ob, keepH hb z, l⟩
  · have hb : b ≠ D := fun z => by rw [z, a.pn] at q; cases q
    rcases S.keep b u q hn with z | ⟨ob, z, l⟩
    · exact .inl (keepH hb z)
    · exact .inr ⟨ob, keepH hb z, l⟩
theorem Apart.new (S : Sim Γ cs p F ι e m σ H) (h : H D = none) : Apart p F ι e σ D := by
  obtain ⟨as, r, nd, fr, ow⟩ := S.env
  refine ⟨S.freeF h, S.freeC h, fun hm => ?_, S.freeP h⟩
  obtain ⟨u, z⟩ := r.there D (by rw [r.addr]; exact hm)
  rw [h] at z; cases z
/-- under the block: the new list is out of the way -/
theorem K1.under {α : Type} {W : WX} {r : R α} {k : α → Hp → List Addr → En → Mu → Hp → Prop} (h : K1 Γ cs p F ι σ W r k) (hn : p.H D = none) (hf : p.F D = none) (hi : D ∉ p.ι) (hl : lk o = false) :
    K1 Γ cs (p.put D o) F ι σ W r (fun a F' ι' e' m' H' => Sim Γ cs p F' ι' e' m' σ H' ∧ H' D = some o ∧ Apart p F' ι' e' σ D ∧ k a F' ι' e' m' H') := by
  cases r with
  | ok a e m =>
    intro F' ι' H' S x
    obtain ⟨S', hD, ap⟩ := S.unhide hn hf hi hl
    exact ⟨S', hD, ap, h F' ι' H' S' x⟩
  | ex c fs e m => exact fun dd F' ι' H' S x => h dd F' ι' H' (S.unhide hn hf hi hl).1 x
  | no => exact h
theorem Sim.wipe (S : Sim Γ cs p F ι e m σ H) : ∀ vs : List Nat, Sim Γ cs p F ι (wipeE vs e) m (L2.wipe σ vs) H
  | [] => S
  | v :: vs => (Sim.wipe S vs).setNo
theorem wipe_at {i : Nat} : ∀ {vs : List Nat}, i ∉ vs → (L2.wipe σ vs)[i]? = σ[i]?
  | [], _ => rfl
  | v :: vs, h => by
    simp only [List.mem_cons, not_or] at h
    unfold L2.wipe
    rw [List.getElem?_set_ne (Ne.symm h.1)]
    exact wipe_at h.2
theorem set_back {α : Type} {l : List α} {i : Nat} {x y : α} (h : l[i]? = some y) : (l.set i x).set i y = l := by
  rw [List.set_set]
  obtain ⟨hi, e⟩ := List.getElem?_eq_some_iff.mp h
  subst e
  exact List.set_getElem_self hi
theorem Sim.restore {e0 : En} {F0 : Hp} {ι0 : List Addr} {as0 : List Addr} {H0 : Hp} (r0 : EnvR Γ F0 ι0 H0 cs e0 σ as0) (x0 : Ext F0 ι0 F ι) : ∀ {vs : List Nat} {e : En}, vs.Nodup → Sim Γ cs p F ι e m (L2.wipe σ vs) H → Sim Γ cs p F ι (G.restore vs e0 e) m σ H
  | [], e, _, S => S
  | i :: r, e, nd, S => by
    have nd' := List.nodup_cons.mp nd
    refine (Sim.restore (vs := r) (e := e.set i (match e0[i]? with
      | some (.val d) => .val d
      | _ => .no)) r0 x0 nd'.2 ?_ : Sim Γ cs p F ι (G.restore r e0 (e.set i (match e0[i]? with
      | some (.val d) => .val d
      | _ => .no))) m σ H)
    have S : Sim Γ cs p F ι e m ((L2.wipe σ r).set i none) H := S
    by_cases hi : i < σ.length
    · have hs : (L2.wipe σ r)[i]? = some σ[i] := by rw [wipe_at nd'.1]; exact List.getElem?_eq_getElem hi
      split
      · rename_i d hd
        obtain ⟨v, e1, rv⟩ := r0.atVal hd
        have e2 : σ[i] = some v := by
          rw [List.getElem?_eq_getElem hi] at e1
          exact Option.some.inj e1
        rw [e2] at hs
        have := S.setVal (i := i) (rv.mono x0)
        rwa [set_back hs] at this
      · have := S.setNo (i := i) (v := σ[i])
        rwa [set_back hs] at this
    · have hl : σ.length ≤ i := by omega
      have e1 : (L2.wipe σ r).set i none = L2.wipe σ r := List.set_eq_of_length_le (by rw [wipe_length]; exact hl)
      rw [e1] at S
      have hlen : e.length ≤ i := by
        obtain ⟨as, q, _⟩ := S.env
        rw [q.length, wipe_length]
        exact hl
      rw [List.set_eq_of_length_le hlen]
      exact S
end
def WF : WX := fun _ _ _ _ => False
theorem K1.noxW {α : Type} {Γ : Ge} {cs : List Cau} {p : En0} {F : Hp} {ι : List Addr} {σ : St} {W W' : WX} {r : R α} {k : α → Hp → List Addr → En → Mu → Hp → Prop} (h : K1 Γ cs p F ι σ W r.nox k) : K1 Γ cs p F ι σ W' r k := by
  cases r with
  | ok a e m => exact h
  | ex c fs e m => exact h.elim
  | no => exact h
theorem R.nox_bind {α β : Type} {r : R α} {f : α → En → Mu → R β} : (r.bind f).nox = r.nox.bind fun a e m => (f a e m).nox := by
  cases r <;> rfl
section
variable {Γ : Ge} {N : List Str} {sc : Scope} {cs : List Cau} {W : WX} {hot : Bool} {k : Nat} {X : Cx} {P : Par} {a b c : C} {ea eb ec : Expr} {pos p1 p2 apos : Pos} {tg : Expr}
/-- the context of a comprehension's block -/
theorem Here.blk (C : Here Γ N sc cs W false k X) (s : Shared) (H : Hp) (scope : Scope) (Cc : Addr) (cl : List (Str × Addr)) (fp : List Addr) : Here Γ N (relS scope sc) cs WF false k (X.blk s H scope (compEnvC scope cl Cc X.env) fp) where
  prog := C.prog
  w := C.w
  K := C.K
  mg := C.mg
  base := C.base
  nm := C.nm
  nd := C.nd
  sc := by
    show relS scope X.env.scope = _
    rw [C.sc]
  calm := fun h => C.calm h
  room := fun h => C.room h
  gds := C.gds
  cold := fun h => by cases h
  nocs := C.nocs
  caus := fun x hx => by rw [C.nocs rfl] at hx; cases hx
  unit := C.unit
  tk := fun u s' ⟨_, _, _, _, _, _, _, _, _, _, _, _, _, _, _, _, h⟩ => h
theorem tgt_blk (C : Here Γ N sc cs W false k X) (s : Shared) (H : Hp) (scope : Scope) (Cc : Addr) (cl : List (Str × Addr)) (fp : List Addr) : Tgt (X.blk s H scope (compEnvC scope cl Cc X.env) fp) N scope where
  nm := C.nm
  nd := C.nd
  calm := C.calm rfl
  st := fun x h => by
    unfold locB at h
    split at h
    · rename_i h1
      have h2 : (relS scope X.env.scope).names.lookup x = some .local := lookup_relS_keep (by decide) h1
      exact ⟨.inl h2, .inr h2⟩
    · rename_i h1
      have h2 : (relS scope X.env.scope).names.lookup x = some .cell := lookup_relS_keep (by decide) h1
      exact ⟨.inr h2, .inl (by show (scope.names.lookup x == some .cell) = true; rw [h1]; rfl)⟩
    · cases h
theorem wipe_wipe {σ : St} {vs : List Nat} : ∀ {ws : List Nat}, (∀ i ∈ ws, i ∈ vs) → L2.wipe (L2.wipe σ ws) vs = L2.wipe σ vs
  | [], _ => rfl
  | w :: ws, h => by
    show L2.wipe ((L2.wipe σ ws).set w none) vs = _
    rw [wipe_set (h w List.mem_cons_self)]
    exact wipe_wipe fun i hi => h i (List.mem_cons_of_mem _ hi)
theorem Apart.no {cs : List Cau} {p : En0} {F : Hp} {ι : List Addr} {e : En} {m : Mu} {σ : St} {H : Hp} {D : Addr} {i : Nat} {v : Option V} (S : Sim Γ cs p F ι e m σ H) (a : Apart p F ι e σ D) : Apart p F ι (e.set i .no) (σ.set i v) D := by
  obtain ⟨as, r, _⟩ := S.env
  obtain ⟨as', r', sl⟩ := r.setNo (v := v) i
  refine ⟨a.fr, a.ce, fun h => a.ow ?_, a.pn⟩
  rw [← r'.addr] at h
  rw [← r.addr]
  exact sl.mem h
theorem Apart.wipe {cs : List Cau} {p : En0} {F : Hp} {ι : List Addr} {e : En} {m : Mu} {σ : St} {H : Hp} {D : Addr} (S : Sim Γ cs p F ι e m σ H) (a : Apart p F ι e σ D) : ∀ vs : List Nat, Apart p F ι (wipeE vs e) (L2.wipe σ vs) D
  | [] => a
  | v :: vs => Apart.no (S.wipe vs) (Apart.wipe S a vs)
/-- one turn -/
def turnR (P : Par) (elt : C) (t : Tg) (cond : C) (own : List Nat) : D → List D → En → Mu → R (List D) := fun d acc e2 m2 => match setT t d e2 with
  | some e3 => (evT P cond e3 m2).bind fun b e4 m4 => if b then (evE P elt e4 m4).bind fun y e5 m5 => pushR own acc y e5 m5 else .ok acc (wipeE own e4) m4
  | none => .no
theorem bind_okI {α β : Type} {r : R α} {f : α → En → Mu → R β} {b : β} {e : En} {m : Mu} (h : r.bind f = .ok b e m) : ∃ a e1 m1, r = .ok a e1 m1 ∧ f a e1 m1 = .ok b e m := by
  cases r with
  | ok a e1 m1 => exact ⟨a, e1, m1, rfl, h⟩
  | ex c fs e1 m1 => cases h
  | no => cases h
theorem lc_read {t : Tg} {vs : List Nat} (nd : vs.Nodup) (hto : ∀ i ∈ tgIx t, i ∈ vs) {σ : St} {H : Hp} {Q : VK} (h : tE Γ cs W (evE P (.lc b t a c vs)) σ H Q) : tLc (tI Γ cs W (evI P a)) (gTg Γ cs t) (tT Γ cs WF (evT P c)) (tE Γ cs WF (evE P b)) vs σ H Q := by
  obtain ⟨p, F, ι, e, m, S, q⟩ := h
  have q : K1 Γ cs p F ι σ W ((evI P a e m).bind fun w e1 m1 => (foldR (turnR P b t c vs) w [] (wipeE vs e1) m1).nox.bind fun ys e6 m6 => R.ok (D.lst ys) (restore vs e1 e6) m6) (fun d F' ι' _ _ H' => ∀ v, Rep Γ F' ι' v d → Q v H') := q
  refine ⟨p, F, ι, e, m, S, q.bind.imp fun ds F1 ι1 e1 m1 H1 S1 x1 q1 J hJ D hD => ?_⟩
  obtain ⟨ys, e6, m6, hr, q2⟩ : ∃ ys e6 m6, foldR (turnR P b t c vs) ds [] (wipeE vs e1) m1 = .ok ys e6 m6 ∧ K1 Γ cs p F1 ι1 σ W (R.ok (G.D.lst ys) (restore vs e1 e6) m6) fun d F' ι' _ _ H' => ∀ v, Rep Γ F' ι' v d → Q v H' := by
    cases hr : foldR (turnR P b t c vs) ds [] (wipeE vs e1) m1 with
    | ok ys e6 m6 => exact ⟨ys, e6, m6, rfl, by rw [hr] at q1; exact q1⟩
    | ex c fs e6 m6 => rw [hr] at q1; exact q1.elim
    | no => rw [hr] at q1; exact q1.elim
  have Sb := S1.wipe vs
  have ap := Apart.new Sb hD
  refine ⟨fun i n H => n = ds.length - i ∧ ∃ F2 ι2 e2 m2 acc accV, Sim Γ cs p F2 ι2 e2 m2 (L2.wipe σ vs) H ∧ Ext F1 ι1 F2 ι2 ∧ H D = some (.lst accV) ∧ Reps Γ F2 ι2 accV acc ∧ Apart p F2 ι2 e2 (L2.wipe σ vs) D ∧ foldR (turnR P b t c vs) (ds.drop i) acc e2 m2 = .ok ys e6 m6,
    ⟨_, rfl, F1, ι1, _, _, [], [], Sb.laid hD, Ext.refl _ _, upd_same, .nil, ap, hr⟩, ?_⟩
  rintro i n H2 ⟨rfl, F2, ι2, e2, m2, acc, accV, S2, x2, hHD, rA, ap2, hf⟩
  obtain ⟨w1, w2⟩ := hJ cs p _ i e2 m2 H2 F2 ι2 S2 x2
  by_cases hl : i < ds.length
  · obtain ⟨go, yl⟩ := w1 _ (List.getElem?_eq_getElem hl)
    rw [List.drop_eq_getElem_cons hl] at hf
    obtain ⟨acc1, e3, m3, ht1, hf1⟩ := bind_okI hf
    unfold turnR at ht1
    cases hst : setT t ds[i] e2 with
    | none => rw [hst] at ht1; cases ht1
    | some e3' =>
      rw [hst] at ht1
      obtain ⟨bb, e4, m4, hb1, ht2⟩ := bind_okI ht1
      refine .inr ⟨go, fun H' => ∃ F3 ι3 accV', Sim Γ cs p F3 ι3 e3 m3 (L2.wipe σ vs) H' ∧ Ext F1 ι1 F3 ι3 ∧ H' D = some (.lst accV') ∧ Reps Γ F3 ι3 accV' acc1 ∧ Apart p F3 ι3 e3 (L2.wipe σ vs) D,
        fun H' ⟨F3, ι3, accV', S3, x3, h3, r3, a3⟩ => ⟨ds.length - (i + 1), by omega, rfl, F3, ι3, e3, m3, acc1, accV', S3, x3, h3, r3, a3, hf1⟩, fun x H' y => ?_⟩
      obtain ⟨rfl, rx⟩ := yl x H' y
      obtain ⟨bF, bi⟩ := ap2.base S2
      refine ⟨p.put D (.lst accV), F2, ι2, e2, m2, _, e3', S2.hide hHD ap2, rx, hst, fun σ2 S' sb => ?_⟩
      have hw : L2.wipe σ2 vs = L2.wipe σ vs := (sb vs hto).trans (wipe_wipe fun _ h => h)
      refine ⟨hw, p.put D (.lst accV), F2, ι2, e3', m2, S', ?_⟩
      rw [hb1]
      intro F3 ι3 H3 S3 x3
      cases bb with
      | true =>
        have ht2 : ((evE P b e4 m4).bind fun y e5 m5 => pushR vs acc y e5 m5) = .ok acc1 e3 m3 := ht2
        obtain ⟨y, e5, m5, hy, hp⟩ := bind_okI ht2
        unfold pushR at hp
        split at hp
        · rename_i hlen
          injection hp with h1 h2 h3
          subst h1 h2 h3
          rw [if_pos rfl]
          refine ⟨p.put D (.lst accV), F3, ι3, e4, m4, S3, ?_⟩
          rw [hy]
          intro F4 ι4 H4 S4 x4 v rv
          obtain ⟨S4', hD4, a4⟩ := S4.unhide ap2.pn bF bi rfl
          refine ⟨accV, hD4, by rw [rA.length, ← sizeL_eq]; exact hlen, F4, ι4, accV ++ [v], ?_, (x2.trans x3).trans x4, upd_same, ((rA.mono x3).mono x4).append (.cons rv .nil), ?_⟩
          · have := (S4'.put (o' := .lst (accV ++ [v])) a4).wipe vs
            rwa [hw] at this
          · have := a4.wipe S4' vs
            rwa [hw] at this
        · cases hp
      | false =>
        have ht2 : (.ok acc (wipeE vs e4) m4 : R (List G.D)) = .ok acc1 e3 m3 := ht2
        injection ht2 with h1 h2 h3
        subst h1 h2 h3
        rw [if_neg Bool.false_ne_true]
        obtain ⟨S3', hD3, a3⟩ := S3.unhide ap2.pn bF bi rfl
        refine ⟨F3, ι3, accV, ?_, x2.trans x3, hD3, rA.mono x3, ?_⟩
        · have := S3'.wipe vs
          rwa [hw] at this
        · have := a3.wipe S3' vs
          rwa [hw] at this
  · rw [List.drop_of_length_le (by omega)] at hf
    have hf : (.ok acc e2 m2 : R (List G.D)) = .ok ys e6 m6 := hf
    injection hf with h1 h2 h3
    subst h1 h2 h3
    refine .inl ⟨w2 (by omega), ?_⟩
    obtain ⟨S3, x3⟩ := S2.froz hHD ap2.pn ap2.fr ap2.ce fun as r => ⟨as, r, List.Sublist.refl _, by rw [r.addr]; exact ap2.ow⟩
    obtain ⟨as0, r0, _⟩ := S1.env
    have S4 := Sim.restore r0 (x2.trans x3) nd S3
    exact q2 _ _ _ S4 (x2.trans x3) _ (.lst upd_same (rA.mono x3))
theorem g_lc {t : Tg} {it elt : Expr} {ifs : List Expr} {scope : Scope} {own : List (Str × Nat)} (Ch : Here Γ N sc cs W false k X) (hs : noSet it = true) (hi : PI X tg it (tI Γ cs W (evI P a))) (ok : BlkOk N sc scope own) (nd : (own.map (·.2)).Nodup) (ht : tgB N scope t tg = true) (hto : ∀ i ∈ tgIx t, i ∈ own.map (·.2))
    (hc : ∀ Xb, Here Γ N (relS scope sc) cs WF false k Xb → PTs Xb ifs (tT Γ cs WF (evT P c))) (he : ∀ Xb, Here Γ N (relS scope sc) cs WF false k Xb → PE Xb elt (tE Γ cs WF (evE P b))) :
    PE X (.ListComp elt [⟨tg, it, ifs, 0⟩] scope pos) (tE Γ cs W (evE P (.lc b t a c (own.map (·.2))))) :=
  (pe_lc (Ch.calm rfl) (by rw [Ch.nm]; exact Ch.nd) hi (by rw [Ch.nm, Ch.sc]; exact ok) (fun s H Cc cl fp => pg_of (cs := cs) (tgt_blk Ch s H scope Cc cl fp) Ch.K ht) (fun s H Cc cl fp => hc _ (Ch.blk s H scope Cc cl fp)) (fun s H Cc cl fp => he _ (Ch.blk s H scope Cc cl fp)) (fun _ => fold_no hs)).weak fun σ H Q h => lc_read nd hto h
/-- name = [..] on one line, or over several -/
theorem s_setLc {i : Nat} {y : Str} {py : Pos} {t : Tg} {it elt : Expr} {ifs : List Expr} {scope : Scope} {own : List (Str × Nat)} {spos : Pos} (Ch : Here Γ N sc cs W false k X) (B : HereS X) (hy : N[i]? = some y) (hyl : sc.names.lookup y = some .local) (hs : noSet it = true) (hi : PI X tg it (tI Γ cs W (evI P a))) (ok : BlkOk N sc scope own) (nd : (own.map (·.2)).Nodup)
    (hsw : (py.line == pos.line) = true ∧ (scope.names.any fun (n, k) => n == y && (k == .local || k == .cell)) = false) (ht : tgB N scope t tg = true) (hto : ∀ i ∈ tgIx t, i ∈ own.map (·.2))
    (hc : ∀ Xb, Here Γ N (relS scope sc) cs WF false k Xb → PTs Xb ifs (tT Γ cs WF (evT P c))) (he : ∀ Xb, Here Γ N (relS scope sc) cs WF false k Xb → PE Xb elt (tE Γ cs WF (evE P b))) (hbk : X.env.blockKind = .function) :
    PS X (.Assign [.Name y py] (.ListComp elt [⟨tg, it, ifs, 0⟩] scope pos) spos) (tS Γ cs W (evS P (.asg (.nm i) (.lc b t a c (own.map (·.2)))))) := by
  have hk : X.env.kindOf y = some .local := by
    show X.env.scope.names.lookup y = _
    rw [Ch.sc]
    exact hyl
  have hsw' : swapsWith (.ListComp elt [⟨tg, it, ifs, 0⟩] scope pos) (some (.Name y py)) spos.line X.env = pure true := by
    show (pure (X.env.blockKind == .function && X.env.kindOf y == some .local && py.line == pos.line && !(scope.names.any fun (n, k) => n == y && (k == .local || k == .cell))) : Sem Bool) = _
    rw [hbk, hk, hsw.1, hsw.2]
    rfl
  refine (ps_setLc (Ch.calm rfl) (by rw [Ch.nm]; exact Ch.nd) (by rw [Ch.nm]; exact hy) hk hsw' hi (by rw [Ch.nm, Ch.sc]; exact ok) (fun s H Cc cl fp => pg_of (cs := cs) (tgt_blk Ch s H scope Cc cl fp) Ch.K ht) (fun s H Cc cl fp => hc _ (Ch.blk s H scope Cc cl fp)) (fun s H Cc cl fp => he _ (Ch.blk s H scope Cc cl fp)) (fun _ => fold_no hs)).weak fun D σ H ⟨p, F, ι, e, m, S, q⟩ => ?_
  have q : KS Γ cs p F ι W ((evE P (.lc b t a c (own.map (·.2))) e m).bindS _) D := q
  refine lc_read nd hto ⟨p, F, ι, e, m, S, (KS.bindS q).imp fun d F1 ι1 e1 m1 H1 S1 x1 q1 v r => ?_⟩
  unfold setT at q1
  split at q1
  · rename_i e2 h2
    split at h2
    · cases h2
      exact KS.now q1 (S1.setVal r)
    · cases h2
  · exact q1.elim
end
end G
end
section
set_option Elab.async false
set_option linter.all false
set_option maxRecDepth 100000
set_option maxHeartbeats 1000000
/-! G: list comprehensions of two clauses. -/
namespace G
open PySem PySem.Spec PyProof.Rows L2
section
variable {Γ : Ge} {N : List Str} {sc : Scope} {cs : List Cau} {W : WX} {hot : Bool} {k : Nat} {X : Cx} {P : Par} {a a2 b c : C} {ea eb ec : Expr} {pos p1 p2 apos : Pos} {tg tg1 : Expr}
def turn2R (P : Par) (elt : C) (t : Tg) (it2 : C) (t2 : Tg) (cond : C) (own own2 : List Nat) : D → List D → En → Mu → R (List D) := fun d acc e2 m2 => match setT t d e2 with
  | some e3 => (evI P it2 e3 m2).bind fun w2 e4 m4 => (foldR (turnR P elt t2 cond own2) w2 acc (wipeE own2 e4) m4).bind fun acc9 e9 m9 => .ok acc9 (wipeE own e9) m9
  | none => .no
theorem lc2_read {t t2 : Tg} {vs vs1 : List Nat} (nd : vs.Nodup) (hv : ∀ i ∈ vs1, i ∈ vs) (hto : ∀ i ∈ tgIx t, i ∈ vs) (hto1 : ∀ i ∈ tgIx t2, i ∈ vs1) {σ : St} {H : Hp} {Q : VK} (h : tE Γ cs W (evE P (.lc2 b t a t2 a2 c vs vs1)) σ H Q) :
    tLc2 (tI Γ cs W (evI P a)) (gTg Γ cs t) (tT Γ cs WF (evT P (.tru (.cst (.bl true))))) (tI Γ cs WF (evI P a2)) (gTg Γ cs t2) (tT Γ cs WF (evT P c)) (tE Γ cs WF (evE P b)) vs vs1 σ H Q := by
  obtain ⟨p, F, ι, e, m, S, q⟩ := h
  have q : K1 Γ cs p F ι σ W ((evI P a e m).bind fun w e1 m1 => (foldR (turn2R P b t a2 t2 c vs vs1) w [] (wipeE vs e1) m1).nox.bind fun ys e6 m6 => R.ok (D.lst ys) (restore vs e1 e6) m6) (fun d F' ι' _ _ H' => ∀ v, Rep Γ F' ι' v d → Q v H') := q
  refine ⟨p, F, ι, e, m, S, q.bind.imp fun ds F1 ι1 e1 m1 H1 S1 x1 q1 J hJ D hD => ?_⟩
  obtain ⟨ys, e6, m6, hr, q2⟩ : ∃ ys e6 m6, foldR (turn2R P b t a2 t2 c vs vs1) ds [] (wipeE vs e1) m1 = .ok ys e6 m6 ∧ K1 Γ cs p F1 ι1 σ W (R.ok (G.D.lst ys) (restore vs e1 e6) m6) fun d F' ι' _ _ H' => ∀ v, Rep Γ F' ι' v d → Q v H' := by
    cases hr : foldR (turn2R P b t a2 t2 c vs vs1) ds [] (wipeE vs e1) m1 with
    | ok ys e6 m6 => exact ⟨ys, e6, m6, rfl, by rw [hr] at q1; exact q1⟩
    | ex c fs e6 m6 => rw [hr] at q1; exact q1.elim
    | no => rw [hr] at q1; exact q1.elim
  have Sb := S1.wipe vs
  have ap := Apart.new Sb hD
  refine ⟨fun i n H => n = ds.length - i ∧ ∃ F2 ι2 e2 m2 acc accV, Sim Γ cs p F2 ι2 e2 m2 (L2.wipe σ vs) H ∧ Ext F1 ι1 F2 ι2 ∧ H D = some (.lst accV) ∧ Reps Γ F2 ι2 accV acc ∧ Apart p F2 ι2 e2 (L2.wipe σ vs) D ∧ foldR (turn2R P b t a2 t2 c vs vs1) (ds.drop i) acc e2 m2 = .ok ys e6 m6,
    ⟨_, rfl, F1, ι1, _, _, [], [], Sb.laid hD, Ext.refl _ _, upd_same, .nil, ap, hr⟩, ?_⟩
  rintro i n H2 ⟨rfl, F2, ι2, e2, m2, acc, accV, S2, x2, hHD, rA, ap2, hf⟩
  obtain ⟨w1, w2⟩ := hJ cs p _ i e2 m2 H2 F2 ι2 S2 x2
  by_cases hl : i < ds.length
  · obtain ⟨go, yl⟩ := w1 _ (List.getElem?_eq_getElem hl)
    rw [List.drop_eq_getElem_cons hl] at hf
    obtain ⟨acc1, e3, m3, ht1, hf1⟩ := bind_okI hf
    unfold turn2R at ht1
    cases hst : setT t ds[i] e2 with
    | none => rw [hst] at ht1; cases ht1
    | some e3' =>
      rw [hst] at ht1
      obtain ⟨ds2, e4, m4, hb1, ht2⟩ := bind_okI ht1
      obtain ⟨acc9, e9, m9, hfi, ht3⟩ := bind_okI ht2
      injection ht3 with g1 g2 g3
      subst g1 g2 g3
      refine .inr ⟨go, fun H' => ∃ F3 ι3 accV', Sim Γ cs p F3 ι3 (wipeE vs e9) m9 (L2.wipe σ vs) H' ∧ Ext F1 ι1 F3 ι3 ∧ H' D = some (.lst accV') ∧ Reps Γ F3 ι3 accV' acc9 ∧ Apart p F3 ι3 (wipeE vs e9) (L2.wipe σ vs) D,
        fun H' ⟨F3, ι3, accV', S3, x3, h3, r3, a3⟩ => ⟨ds.length - (i + 1), by omega, rfl, F3, ι3, _, m9, acc9, accV', S3, x3, h3, r3, a3, hf1⟩, fun x H' y => ?_⟩
      obtain ⟨rfl, rx⟩ := yl x H' y
      obtain ⟨bF, bi⟩ := ap2.base S2
      refine ⟨p.put D (.lst accV), F2, ι2, e2, m2, _, e3', S2.hide hHD ap2, rx, hst, fun σ2 S' sb => ?_⟩
      have hw : L2.wipe σ2 vs = L2.wipe σ vs := (sb vs hto).trans (wipe_wipe fun _ h => h)
      refine ⟨hw, p.put D (.lst accV), F2, ι2, e3', m2, S', ?_⟩
      show K1 Γ cs _ F2 ι2 σ2 WF (R.ok true e3' m2) _
      intro F3 ι3 H3 S3 x3
      refine (if_pos rfl : (if true = true then _ else _) = _).mpr ?_
      refine ⟨p.put D (.lst accV), F3, ι3, e3', m2, S3, ?_⟩
      rw [hb1]
      intro F4 ι4 H4 S4 x4 J1 hJ1
      obtain ⟨S4', hD4, a4⟩ := S4.unhide ap2.pn bF bi rfl
      refine ⟨fun j k H => k = ds2.length - j ∧ ∃ F5 ι5 e5 m5 acc5 accV5, Sim Γ cs p F5 ι5 e5 m5 (L2.wipe σ2 vs1) H ∧ Ext F4 ι4 F5 ι5 ∧ H D = some (.lst accV5) ∧ Reps Γ F5 ι5 accV5 acc5 ∧ Apart p F5 ι5 e5 (L2.wipe σ2 vs1) D ∧ foldR (turnR P b t2 c vs1) (ds2.drop j) acc5 e5 m5 = .ok acc9 e9 m9,
        ⟨_, rfl, F4, ι4, _, _, acc, accV, S4'.wipe vs1, Ext.refl _ _, hD4, (rA.mono x3).mono x4, a4.wipe S4' vs1, hfi⟩, ?_⟩
      rintro j k H5 ⟨rfl, F5, ι5, e5, m5, acc5, accV5, S5, x5, hHD5, rA5, ap5, hf5⟩
      obtain ⟨u1, u2⟩ := hJ1 cs p _ j e5 m5 H5 F5 ι5 S5 x5
      by_cases hl2 : j < ds2.length
      · obtain ⟨go2, yl2⟩ := u1 _ (List.getElem?_eq_getElem hl2)
        rw [List.drop_eq_getElem_cons hl2] at hf5
        obtain ⟨acc6, e6', m6', hq1, hq2⟩ := bind_okI hf5
        unfold turnR at hq1
        cases hst2 : setT t2 ds2[j] e5 with
        | none => rw [hst2] at hq1; cases hq1
        | some e6a =>
          rw [hst2] at hq1
          obtain ⟨bb, e7, m7, hb2, hq3⟩ := bind_okI hq1
          refine .inr ⟨go2, fun H' => ∃ F6 ι6 accV', Sim Γ cs p F6 ι6 e6' m6' (L2.wipe σ2 vs1) H' ∧ Ext F4 ι4 F6 ι6 ∧ H' D = some (.lst accV') ∧ Reps Γ F6 ι6 accV' acc6 ∧ Apart p F6 ι6 e6' (L2.wipe σ2 vs1) D,
            fun H' ⟨F6, ι6, accV', S6, x6, h6, r6, a6⟩ => ⟨ds2.length - (j + 1), by omega, rfl, F6, ι6, e6', m6', acc6, accV', S6, x6, h6, r6, a6, hq2⟩, fun x' H' y' => ?_⟩
          obtain ⟨rfl, rx2⟩ := yl2 x' H' y'
          obtain ⟨bF5, bi5⟩ := ap5.base S5
          refine ⟨p.put D (.lst accV5), F5, ι5, e5, m5, _, e6a, S5.hide hHD5 ap5, rx2, hst2, fun σ3 S6 sb2 => ?_⟩
          have hw2 : L2.wipe σ3 vs1 = L2.wipe σ2 vs1 := (sb2 vs1 hto1).trans (wipe_wipe fun _ h => h)
          refine ⟨hw2, p.put D (.lst accV5), F5, ι5, e6a, m5, S6, ?_⟩
          rw [hb2]
          intro F7 ι7 H7 S7 x7
          cases bb with
          | true =>
            have hq3 : ((evE P b e7 m7).bind fun y e8 m8 => pushR vs1 acc5 y e8 m8) = .ok acc6 e6' m6' := hq3
            obtain ⟨y, e8, m8, hy, hp⟩ := bind_okI hq3
            unfold pushR at hp
            split at hp
            · rename_i hlen
              injection hp with h1 h2 h3
              subst h1 h2 h3
              rw [if_pos rfl]
              refine ⟨p.put D (.lst accV5), F7, ι7, e7, m7, S7, ?_⟩
              rw [hy]
              intro F8 ι8 H8 S8 x8 v rv
              obtain ⟨S8', hD8, a8⟩ := S8.unhide ap5.pn bF5 bi5 rfl
              refine ⟨accV5, hD8, by rw [rA5.length, ← sizeL_eq]; exact hlen, F8, ι8, accV5 ++ [v], ?_, (x5.trans x7).trans x8, upd_same, ((rA5.mono x7).mono x8).append (.cons rv .nil), ?_⟩
              · have := (S8'.put (o' := .lst (accV5 ++ [v])) a8).wipe vs1
                rwa [hw2] at this
              · have := a8.wipe S8' vs1
                rwa [hw2] at this
            · cases hp
          | false =>
            have hq3 : (.ok acc5 (wipeE vs1 e7) m7 : R (List G.D)) = .ok acc6 e6' m6' := hq3
            injection hq3 with h1 h2 h3
            subst h1 h2 h3
            rw [if_neg Bool.false_ne_true]
            obtain ⟨S7', hD7, a7⟩ := S7.unhide ap5.pn bF5 bi5 rfl
            refine ⟨F7, ι7, accV5, ?_, x5.trans x7, hD7, rA5.mono x7, ?_⟩
            · have := S7'.wipe vs1
              rwa [hw2] at this
            · have := a7.wipe S7' vs1
              rwa [hw2] at this
      · rw [List.drop_of_length_le (by omega)] at hf5
        have hf5 : (.ok acc5 e5 m5 : R (List G.D)) = .ok acc9 e9 m9 := hf5
        injection hf5 with h1 h2 h3
        subst h1 h2 h3
        have hww : L2.wipe (L2.wipe σ2 vs1) vs = L2.wipe σ vs := (wipe_wipe hv).trans hw
        refine .inl ⟨u2 (by omega), F5, ι5, accV5, ?_, ((x2.trans x3).trans x4).trans x5, hHD5, rA5, ?_⟩
        · have := S5.wipe vs
          rwa [hww] at this
        · have := ap5.wipe S5 vs
          rwa [hww] at this
  · rw [List.drop_of_length_le (by omega)] at hf
    have hf : (.ok acc e2 m2 : R (List G.D)) = .ok ys e6 m6 := hf
    injection hf with h1 h2 h3
    subst h1 h2 h3
    refine .inl ⟨w2 (by omega), ?_⟩
    obtain ⟨S3, x3⟩ := S2.froz hHD ap2.pn ap2.fr ap2.ce fun as r => ⟨as, r, List.Sublist.refl _, by rw [r.addr]; exact ap2.ow⟩
    obtain ⟨as0, r0, _⟩ := S1.env
    have S4 := Sim.restore r0 (x2.trans x3) nd S3
    exact q2 _ _ _ S4 (x2.trans x3) _ (.lst upd_same (rA.mono x3))
theorem g_lc2 {t t2 : Tg} {it it1 elt : Expr} {ifs1 : List Expr} {scope : Scope} {own : List (Str × Nat)} {vs1 : List Nat} (Ch : Here Γ N sc cs W false k X) (hs : noSet it = true) (hs1 : noSet it1 = true) (hi : PI X tg it (tI Γ cs W (evI P a))) (ok : BlkOk N sc scope own) (nd : (own.map (·.2)).Nodup) (hv : ∀ i ∈ vs1, i ∈ own.map (·.2))
    (ht : tgB N scope t tg = true) (hto : ∀ i ∈ tgIx t, i ∈ own.map (·.2)) (ht1 : tgB N scope t2 tg1 = true) (hto1 : ∀ i ∈ tgIx t2, i ∈ vs1)
    (hi1 : ∀ Xb, Here Γ N (relS scope sc) cs WF false k Xb → PI Xb tg1 it1 (tI Γ cs WF (evI P a2)))
    (hc : ∀ Xb, Here Γ N (relS scope sc) cs WF false k Xb → PTs Xb ifs1 (tT Γ cs WF (evT P c))) (he : ∀ Xb, Here Γ N (relS scope sc) cs WF false k Xb → PE Xb elt (tE Γ cs WF (evE P b))) :
    PE X (.ListComp elt [⟨tg, it, [], 0⟩, ⟨tg1, it1, ifs1, 0⟩] scope pos) (tE Γ cs W (evE P (.lc2 b t a t2 a2 c (own.map (·.2)) vs1))) :=
  (pe_lc2 (Ch.calm rfl) (by rw [Ch.nm]; exact Ch.nd) hi (by rw [Ch.nm, Ch.sc]; exact ok) hv (fun s H Cc cl fp => pg_of (cs := cs) (tgt_blk Ch s H scope Cc cl fp) Ch.K ht) (fun s H Cc cl fp => (⟨fun pins s σ H Q I q => pts_nil.run pins s σ H Q I (by
      obtain ⟨p, F, ι, e, m, S, q⟩ := q
      exact K1.ok (a := true) q S)⟩ : PTs _ [] (tT Γ cs WF (evT P (.tru (.cst (.bl true)))))))
    (fun s H Cc cl fp => hi1 _ (Ch.blk s H scope Cc cl fp)) (fun s H Cc cl fp => pg_of (cs := cs) (tgt_blk Ch s H scope Cc cl fp) Ch.K ht1) (fun s H Cc cl fp => hc _ (Ch.blk s H scope Cc cl fp)) (fun s H Cc cl fp => he _ (Ch.blk s H scope Cc cl fp)) (fun _ => fold_no hs) (fun _ _ => fold_no hs1)).weak fun σ H Q h => lc2_read nd hv hto hto1 h
theorem wks_rngC (lo c : Int) (n : Nat) {F : Hp} {ι : List Addr} : Wks Γ F ι (Itc lo c n) (rInts lo n c) := by
  intro cs p σ i e m H F1 ι1 S x
  have hl : (rInts lo n c).length = n := by simp [rInts]
  refine ⟨fun d hd => ?_, fun h => by rw [hl] at h; exact h⟩
  have hi : i < n := by rw [← hl]; exact (List.getElem?_eq_some_iff.mp hd).1
  unfold rInts at hd
  rw [List.getElem?_map, List.getElem?_range hi] at hd
  cases hd
  exact ⟨hi, fun x' H' ⟨e1, e2⟩ => ⟨e1, by subst e2; exact .int _⟩⟩
theorem rangeSize_two (a b : Int) : Builtin.Range.rangeSize a b 2 = (((b - a + 1) / 2).toNat : Int) := by
  unfold Builtin.Range.rangeSize
  simp only [show ((2 : Int) > 0) by decide, if_true]
  split <;> omega
theorem small_two {a b : Int} (ha : -(2 ^ 61) < a) (ha' : a < 2 ^ 61) (hb : -(2 ^ 61) < b) (hb' : b < 2 ^ 61) : Builtin.Range.small a b 2 = true := by
  unfold Builtin.Range.small
  rw [rangeSize_two]
  simp only [Builtin.Range.rangeFitsLong, Bool.and_eq_true, Bool.or_eq_true, decide_eq_true_eq, beq_iff_eq, show ((2 : Int) > 0) by decide, if_true]
  omega
theorem rangeD_is {i j s : Int} {ds : List D} (h : rangeD i j s = some ds) : ∃ n, RgC i j s n ∧ ds = rInts i n s := by
  unfold rangeD at h
  split at h
  · rename_i hb
    simp only [Bool.and_eq_true, decide_eq_true_eq] at hb
    obtain ⟨⟨⟨b1, b2⟩, b3⟩, b4⟩ := hb
    split at h
    · rename_i hs
      subst hs
      cases h
      exact ⟨(j - i).toNat, ⟨by decide, by decide, small_one (by omega) (by omega) (by omega) (by omega), by rw [rangeSize_one]; split <;> omega⟩, rfl⟩
    · split at h
      · rename_i hs
        subst hs
        cases h
        exact ⟨_, ⟨by decide, by decide, small_two b1 b2 b3 b4, rangeSize_two _ _⟩, rfl⟩
      · split at h
        · rename_i hs
          subst hs
          cases h
          exact ⟨_, RgC.neg (by omega) (by omega) (by omega) (by omega), rfl⟩
        · cases h
  · cases h
theorem i_rng3 (C : Here Γ N sc cs W hot k X) (T : Tops Γ) (hg : gloB sc "range" = true) (hp : noStar [ea, eb, ec] = true) (ha : PE X ea (tE Γ cs W (evE P a))) (hb : PE X eb (tE Γ cs W (evE P b))) (hc : PE X ec (tE Γ cs W (evE P c))) : PI X tg (.Call (.Name "range" p1) [ea, eb, ec] [] pos) (tI Γ cs W (evI P (.rng a b c))) := by
  obtain ⟨g1, g2⟩ := glo_of C hg
  have hst : plainArg ea = true ∧ plainArg eb = true ∧ plainArg ec = true := by
    unfold noStar noStar noStar at hp
    simp only [Bool.and_eq_true] at hp
    exact ⟨hp.1, hp.2.1, hp.2.2.1⟩
  have h := pi_range3 (tg := tg) (p := p1) (pos := pos) g1 (blt_of T C (by decide +kernel)) (pa_cons ha (pa_cons hb (pa_cons hc pa_nil (star_one hst.2.2)) (star_one hst.2.1)) (star_one hst.1)) (by rw [star_one hst.1, star_one hst.2.1, star_one hst.2.2]) (by rw [star_one hst.2.1, star_one hst.2.2]; rfl)
  refine ⟨fun pins s σ H RR I ⟨p, F, ι, e, m, S, q⟩ => h.run pins s σ H RR I ⟨p, F, ι, e, m, S, ?_⟩⟩
  have q : K1 Γ cs p F ι σ W ((evE P a e m).bind fun x e1 m1 => (evE P b e1 m1).bind fun y e2 m2 => (evE P c e2 m2).bind fun z e3 m3 => match x, y, z with
        | .int x, .int y, .int z => .opt (rangeD x y z) e3 m3
        | _, _, _ => .no) (fun ds F' ι' _ _ H' => ∀ J, Wks Γ F' ι' J ds → RR J H') := q
  refine q.bind.imp fun d F1 ι1 e1 m1 H1 S1 x1 q1 v r => ⟨p, F1, ι1, e1, m1, S1, (K1.bind q1).imp fun d2 F2 ι2 e2 m2 H2 S2 x2 q2 w r2 => ⟨p, F2, ι2, e2, m2, S2, (K1.bind q2).imp fun d3 F3 ι3 e3 m3 H3 S3 x3 q3 u r3 => ?_⟩⟩
  cases d <;> cases d2 <;> cases d3 <;> first | exact q3.elim | skip
  obtain ⟨ds, hd, q4⟩ := K1.optS q3
  obtain ⟨n, hb, rfl⟩ := rangeD_is hd
  cases r
  cases r2
  cases r3
  exact ⟨_, _, _, n, rfl, hb, K1.ok q4 S3 _ (wks_rngC _ _ _)⟩
end
end G
end
section
set_option Elab.async false
set_option linter.all false
set_option maxRecDepth 100000
set_option maxHeartbeats 1000000
/-! G: objects that change. -/
namespace G
open PySem PySem.Spec PyProof.Rows L2
theorem ne_mem {α : Type} {a b : α} {l : List α} (hb : b ∈ l) (ha : a ∉ l) : b ≠ a := fun z => ha (z ▸ hb)
section
variable {Γ : Ge} {cs : List Cau} {p : En0} {F : Hp} {ι : List Addr} {e : En} {m : Mu} {σ : St} {H : Hp}
theorem EnvR.putOwn {a : Addr} {o : HO} {d' : D} (q : ORep Γ F ι (upd H a o) a d') : ∀ {e : En} {σ : St} {as : List Addr} {i : Nat} {d : D}, EnvR Γ F ι H cs e σ as → as.Nodup → e[i]? = some (.own d) → σ[i]? = some (some (.ref a)) → EnvR Γ F ι (upd H a o) cs (e.set i (.own d')) σ as
  | _, _, _, _, _, .nil, _, h, _ => by simp at h
  | _, _, _, 0, _, .no _, _, h, _ => by simp at h
  | _, _, _, 0, _, .val _ _, _, h, _ => by simp at h
  | _, _, _, 0, _, .exc _ _ _, _, h, _ => by simp at h
  | _, _, _, 0, _, .own r t, nd, h, hs => by
    have nd' := List.nodup_cons.mp nd
    simp at hs
    subst hs
    exact .own q (t.mono (Ext.refl F ι) fun b hb u z => by rw [upd_ne (ne_mem hb nd'.1)]; exact z)
  | _, _, _, i + 1, d, .no t, nd, h, hs => .no (t.putOwn q nd (by simpa using h) (by simpa using hs))
  | _, _, _, i + 1, d, .val r t, nd, h, hs => .val r (t.putOwn q nd (by simpa using h) (by simpa using hs))
  | _, _, _, i + 1, d, .exc x r t, nd, h, hs => .exc x r (t.putOwn q nd (by simpa using h) (by simpa using hs))
  | _, _, _, i + 1, d, .own (a := b) r t, nd, h, hs => by
    have nd' := List.nodup_cons.mp nd
    obtain ⟨a2, e2, _, m2⟩ := t.atOwn (i := i) (d := d) (by simpa using h)
    have hs' := hs
    simp only [List.getElem?_cons_succ] at hs'
    rw [hs'] at e2
    cases e2
    refine .own (r.mono (Ext.refl F ι) fun u z => ?_) (t.putOwn q nd'.2 (by simpa using h) (by simpa using hs))
    rw [upd_ne (Ne.symm (ne_mem m2 nd'.1))]
    exact z
/-- a slot's own object changes -/
theorem Sim.putOwn {i : Nat} {d d' : D} {a : Addr} {o : HO} (S : Sim Γ cs p F ι e m σ H) (h : e[i]? = some (.own d)) (hs : σ[i]? = some (some (.ref a))) (q : ORep Γ F ι (upd H a o) a d') : Sim Γ cs p F ι (e.set i (.own d')) m σ (upd H a o) := by
  obtain ⟨as, r, nd, fr, ow⟩ := S.env
  obtain ⟨a2, e2, _, ha⟩ := r.atOwn h
  rw [hs] at e2
  cases e2
  have ndA := List.nodup_append.mp nd
  have hF : F a = none := fr a (List.mem_append_right _ ha)
  have hc : a ∉ ι := fun z => ndA.2.2 a z a ha rfl
  have hp : p.H a = none := ow a ha
  have keepH : ∀ {b : Addr} {u : HO}, b ≠ a → H b = some u → upd H a o b = some u := fun hb z => by rw [upd_ne hb]; exact z
  refine ⟨fun b u z => ?_, S.ext, S.cel.mono (Ext.refl F ι) fun b hb u z => keepH (fun w => hc (w ▸ hb)) z, ⟨as, r.putOwn q ndA.2.1 h hs, nd, fr, ow⟩, fun b u z hn => ?_, S.newF, S.newC, fun b hb d2 hd => by
    cases i with
    | zero => exact S.slf b hb d h
    | succ i => exact S.slf b hb d2 (by rwa [List.getElem?_set_ne (by omega)] at hd)⟩
  · have hb : b ≠ a := fun w => by rw [w, hF] at z; cases z
    rcases S.sub b u z with y | ⟨ob, y, l⟩
    · exact .inl (keepH hb y)
    · exact .inr ⟨ob, keepH hb y, l⟩
  · have hb : b ≠ a := fun w => by rw [w, hp] at z; cases z
    rcases S.keep b u z hn with y | ⟨ob, y, l⟩
    · exact .inl (keepH hb y)
    · exact .inr ⟨ob, keepH hb y, l⟩
/-- a cell changes -/
theorem Sim.putCell {k : Nat} {d' : D} {a : Addr} {o : HO} (S : Sim Γ cs p F ι e m σ H) (h : ι[k]? = some a) (q : ORep Γ F ι (upd H a o) a d') : Sim Γ cs p F ι e (m.set k d') σ (upd H a o) := by
  obtain ⟨as, r, nd, fr, ow⟩ := S.env
  have ndA := List.nodup_append.mp nd
  have ha : a ∈ ι := List.mem_of_getElem? h
  have hF : F a = none := fr a (List.mem_append_left _ ha)
  have keepH : ∀ {b : Addr} {u : HO}, b ≠ a → H b = some u → upd H a o b = some u := fun hb z => by rw [upd_ne hb]; exact z
  refine ⟨fun b u z => ?_, S.ext, S.cel.set q (fun b u hb z => keepH hb z) ndA.1 h, ⟨as, r.mono (Ext.refl F ι) fun b hb u z => keepH (fun w => ndA.2.2 a ha b hb w.symm) z, nd, fr, ow⟩, fun b u z hn => ?_, S.newF, S.newC, S.slf⟩
  · have hb : b ≠ a := fun w => by rw [w, hF] at z; cases z
    rcases S.sub b u z with y | ⟨ob, y, l⟩
    · exact .inl (keepH hb y)
    · exact .inr ⟨ob, keepH hb y, l⟩
  · have hb : b ≠ a := fun w => by
      subst w
      rcases S.newC b ha with y | y
      · exact hn y
      · rw [z] at y; cases y
    rcases S.keep b u z hn with y | ⟨ob, y, l⟩
    · exact .inl (keepH hb y)
    · exact .inr ⟨ob, keepH hb y, l⟩
end
section
variable {Γ : Ge} {N : List Str} {sc : Scope} {cs : List Cau} {W : WX} {hot : Bool} {k : Nat} {X : Cx} {P : Par} {a b c : C} {ea eb ec : Expr} {pos p1 p2 apos : Pos}
/-- a new list that is a cell -/
theorem g_newc {es : List Expr} (h : PA X es (tA Γ cs W (evA P a))) : PE X (.List es pos) (tE Γ cs W (evE P (.newc a))) :=
  (pe_lst h).weak fun σ H Q ⟨p, F, ι, e, m, S, q⟩ => by
    have q : K1 Γ cs p F ι σ W ((evA P a e m).bind _) _ := q
    refine ⟨p, F, ι, e, m, S, q.bind.imp fun ds F1 ι1 e1 m1 H1 S1 x1 q1 vs r => ?_⟩
    split at q1
    · rename_i hl
      refine ⟨by rw [r.length, ← sizeL_eq]; exact hl, fun p hp => ?_⟩
      obtain ⟨S2, x2⟩ := S1.giveCell (o := .lst vs) (d := .lst ds) hp (.lst upd_same (r.mono ⟨fun _ _ z => z, [p], rfl⟩))
      refine q1 _ _ _ S2 x2 _ (.cel ?_)
      rw [← S1.cel.length]
      exact List.getElem?_concat_length
    · exact q1.elim
/-- x = [..], a list that this def alone holds -/
theorem s_own {i : Nat} {x : Str} {es : List Expr} {px : Pos} (C : Here Γ N sc cs W false k X) (B : HereS X) (ht : tgB N sc (.nm i) (.Name x px) = true) (h : PA X es (tA Γ cs W (evA P a))) : PS X (.Assign [.Name x px] (.List es p1) pos) (tS Γ cs W fun e m => (evA P a e m).bindS fun ds e1 m1 => if ds.length ≤ sizeL ∧ i < e1.length ∧ 0 < i then .nx (e1.set i (.own (.lst ds))) m1 else .no) := by
  simp only [tgB, Bool.and_eq_true, decide_eq_true_eq] at ht
  obtain ⟨l1, l2⟩ := (C.tgt B).st x ht.2
  refine (ps_set (by rw [C.nm]; exact C.nd) (by rw [C.nm]; exact ht.1) l1 (pe_lst h) rfl l2).weak fun D σ H ⟨p, F, ι, e, m, S, q⟩ => ?_
  have q : KS Γ cs p F ι W ((evA P a e m).bindS _) D := q
  refine ⟨p, F, ι, e, m, S, (KS.bindS q).imp fun ds F1 ι1 e1 m1 H1 S1 x1 q1 vs r => ?_⟩
  split at q1
  · rename_i hl
    refine ⟨by rw [r.length, ← sizeL_eq]; exact hl.1, fun p hp => ?_⟩
    exact KS.now q1 (S1.giveOwn hp (.lst upd_same r) hl.2.1 hl.2.2)
  · exact q1.elim
/-- an object is written back -/
theorem wr_of {o : C} {x d d' : D} {v : V} {p : En0} {F : Hp} {ι : List Addr} {e e2 : En} {m m2 : Mu} {σ : St} {H : Hp} (S : Sim Γ cs p F ι e m σ H) (r : OpRl Γ F ι σ o v x) (hd : objOf o x e m = some d) (hw : wrO o x d' e m = some (e2, m2)) :
    ∃ a, v = .ref a ∧ ORep Γ F ι H a d ∧ ∀ u, ORep Γ F ι (upd H a u) a d' → Sim Γ cs p F ι e2 m2 σ (upd H a u) := by
  have cel : ∀ {k : Nat} {w : V}, Rep Γ F ι w (.cel k) → w = v → deref m (.cel k) = d → k < m.length → (e, m.set k d') = (e2, m2) → ∃ a, v = .ref a ∧ ORep Γ F ι H a d ∧ ∀ u, ORep Γ F ι (upd H a u) a d' → Sim Γ cs p F ι e2 m2 σ (upd H a u) := by
    intro k w r e1 e3 hk e4
    cases r with
    | @cel a _ hk2 =>
      obtain ⟨d2, hd2, r2⟩ := S.cel.getA hk2
      have : d2 = d := by
        rw [← e3]
        show d2 = (m[k]?).getD .non
        rw [hd2]
        rfl
      subst this
      cases e4
      exact ⟨a, e1.symm, r2, fun u q => S.putCell hk2 q⟩
  cases o with
  | pk i =>
    obtain ⟨as, q, _⟩ := S.env
    have r' : σ[i]? = some (some v) := r
    unfold objOf at hd
    unfold wrO at hw
    dsimp only at hd hw
    split at hw
    · rename_i d0 h0
      rw [h0] at hd
      cases hd
      cases hw
      obtain ⟨a, e1, r1, _⟩ := q.atOwn h0
      rw [r'] at e1
      cases e1
      exact ⟨a, rfl, r1, fun u q => S.putOwn h0 r' q⟩
    · rename_i k h0
      rw [h0] at hd
      split at hw
      · rename_i hk
        obtain ⟨w, e1, r1⟩ := q.atVal h0
        rw [r'] at e1
        cases e1
        exact cel r1 rfl (Option.some.inj hd) hk (Option.some.inj hw)
      · cases hw
    · cases hw
  | _ =>
    unfold wrO at hw
    dsimp only at hw
    split at hw
    · split at hw
      · rename_i hk
        exact cel r rfl (Option.some.inj hd) hk (Option.some.inj hw)
      · cases hw
    · cases hw
theorem isLst_is {p : En0} {F : Hp} {ι : List Addr} {e : En} {m : Mu} {σ : St} {H : Hp} {o : C} {x : D} {v : V} (S : Sim Γ cs p F ι e m σ H) (r : OpRl Γ F ι σ o v x) (h : isLst (objOf o x e m) = true) : ∃ a vs, v = .ref a ∧ SqL Γ.K H a vs := by
  cases ho : objOf o x e m with
  | none => rw [ho] at h; cases h
  | some d =>
    rw [ho] at h
    cases d <;> first | (cases h; done) | skip
    obtain ⟨a, vs, e1, h1, _⟩ := sq_of S (S.obj r ho)
    exact ⟨a, vs, e1, h1⟩
theorem few_one {e : Expr} {env : Env} {cp : Pos} (h : plainArg e = true) : ((backTo cp (starEach [e] env)).all (fun x => !x.1) && (backToKw cp (keywordEach [] env)).all (fun x => x.1.isSome) && decide (([e] : List Expr).length + ([] : List Keyword).length + (if ([] : List Keyword).isEmpty then 0 else 1) < 30)) = true := by
  rw [star_one h]
  rfl
/-- l.append(x) -/
theorem s_app {o v : Expr} {co : C} {cp : Pos} (C : Here Γ N sc cs W hot k X) (hs : noSuper o = true) (hl : (apos.endLine == cp.line) = true) (hp : plainArg v = true) (ho : PE X o (tO Γ cs W co (evE P co))) (hv : PE X v (tE Γ cs W (evE P a))) :
    PS X (.Expr (.Call (.Attribute o "append" apos) [v] [] cp) pos) (tS Γ cs W (evS P (.mut co .append (.cons a .nil)))) := by
  have hpe := pe_bm F.plainAttrs_list F.slot_list_append F.type_list_append (show MtR X "list.append" rAppend from mt_append) ho (a_cons hv a_nil hp) (base_is hs) (few_one hp) hl (star_one hp) (by rfl)
  refine (ps_expr hpe (swaps_no rfl)).weak fun D σ H ⟨p, F, ι, e, m, S, q⟩ => ?_
  have q : KS Γ cs p F ι W ((evE P co e m).bindS _) D := q
  refine ⟨p, F, ι, e, m, S, (KS.bindS q).imp fun x F1 ι1 e1 m1 H1 S1 x1 q1 w r => ?_⟩
  split at q1
  · rename_i hL
    obtain ⟨a1, vs1, rfl, h1⟩ := isLst_is S1 r hL
    refine ⟨.inl ⟨rfl, vs1, by rw [C.K]; exact h1⟩, p, F1, ι1, e1, m1, S1, (KS.bindS q1).imp fun ds F2 ι2 e2 m2 H2 S2 x2 q2 ws rs => ?_⟩
    split at q2
    · rename_i d hd
      split at q2
      · rename_i e3 m3 hw
        obtain ⟨d', hd', hw⟩ := Option.bind_eq_some_iff.mp hw
        obtain ⟨a2, ea, rO, k⟩ := wr_of S2 (r.mono x2) hd hw
        cases ea
        cases d <;> first | (simp [muD] at hd'; done) | skip
        rcases ds with _ | ⟨y, _ | ⟨z, rest⟩⟩ <;> first | (simp [muD] at hd'; done) | skip
        simp only [muD] at hd'
        split at hd'
        · rename_i hlen
          cases hd'
          cases rO with
          | lst hH rr =>
            cases rs with
            | cons ry rs =>
              cases rs
              exact ⟨a1, _, _, rfl, rfl, hH, by rw [rr.length, ← sizeL_eq]; exact hlen, KS.now q2 (k _ (.lst upd_same (rr.append (.cons ry .nil))))⟩
        · cases hd'
      · exact q2.elim
    · exact q2.elim
  · exact q1.elim
theorem assign_sub {o i : Expr} {ps : Pos} {env : Env} {w : Value} (h : plainIxB i = true) : assign (.Subscript o i ps) env w = (do
      let ov ← holding [w] (eval o env)
      let iv ← holding [w, ov] (eval i env)
      standAt ps
      holding [w, ov, iv] (setItem ov iv w)
      release [w, ov, iv] []) := by
  cases i <;> first | rfl | cases h
theorem repK_put {F : Hp} {ι : List Addr} {k : Key} {v : V} {d : G.D} (r : Rep Γ F ι v d) : ∀ {xs : List (Key × V)} {kvs : List (Key × G.D)}, RepK Γ F ι xs kvs → RepK Γ F ι (putK xs k v) (setK k d kvs) := by
  have ap : ∀ {xs ys : List (Key × V)} {kvs kvs2 : List (Key × G.D)}, RepK Γ F ι xs kvs → RepK Γ F ι ys kvs2 → RepK Γ F ι (xs ++ ys) (kvs ++ kvs2) := by
    intro xs ys kvs kvs2 h h2
    induction xs generalizing kvs with
    | nil => cases h; exact h2
    | cons x xs ih => cases h with
      | cons a t => exact .cons a (ih t)
  have mp : ∀ {xs : List (Key × V)} {kvs : List (Key × G.D)}, RepK Γ F ι xs kvs → RepK Γ F ι (xs.map fun kv => if kv.1 = k then (kv.1, v) else kv) (kvs.map fun kv => if kv.1 = k then (kv.1, d) else kv) := by
    intro xs kvs h
    induction xs generalizing kvs with
    | nil => cases h; exact .nil
    | cons x xs ih => cases h with
      | @cons k1 v1 d1 _ ds1 a t =>
        simp only [List.map_cons]
        by_cases hk : k1 = k
        · simp only [hk, if_true]
          exact .cons r (ih t)
        · simp only [hk, if_false]
          exact .cons a (ih t)
  have an : ∀ {xs : List (Key × V)} {kvs : List (Key × G.D)}, RepK Γ F ι xs kvs → (xs.any fun kv => decide (kv.1 = k)) = (kvs.any fun kv => decide (kv.1 = k)) := by
    intro xs kvs h
    induction xs generalizing kvs with
    | nil => cases h; rfl
    | cons x xs ih => cases h with
      | cons a t => simp only [List.any_cons, ih t]
  intro xs kvs h
  unfold putK setK
  rw [an h]
  split
  · exact mp h
  · exact ap h (.cons r .nil)
theorem repK_len {F : Hp} {ι : List Addr} {xs : List (Key × V)} {kvs : List (Key × G.D)} (h : RepK Γ F ι xs kvs) : xs.length = kvs.length := by
  induction xs generalizing kvs with
  | nil => cases h; rfl
  | cons x xs ih => cases h with
    | cons a t => simp only [List.length_cons, ih t]
def rSetLD : TSet := fun o i v H Q => rSetL o i v H Q ∨ rSetD o i v H Q
theorem set_both (hu : X.A.units + 1 < cLine) : PSet X rSetLD := by
  intro pins s σ H o i v ov iv u Q I ro ri rv h
  rcases h with h | h
  · exact set_list pins s σ H o i v ov iv u Q I ro ri rv h
  · exact set_dict hu pins s σ H o i v ov iv u Q I ro ri rv h
/-- l[i] = v -/
theorem s_seti {o i v : Expr} {co ci cv : C} {ps : Pos} (C : Here Γ N sc cs W hot k X) (hx : plainIxB i = true) (ho : PE X o (tO Γ cs W co (evE P co))) (hi : PE X i (tE Γ cs W (evE P ci))) (hv : PE X v (tE Γ cs W (evE P cv))) :
    PS X (.Assign [.Subscript o i ps] v pos) (tS Γ cs W (evS P (.seti co ci cv))) := by
  refine (ps_asg hv (pg_sub ho hi (set_both (by have := C.unit; omega)) (fun w => assign_sub hx)) (by cases v <;> rfl) (by cases v <;> rfl) (by rfl)).weak fun D σ H ⟨p, F, ι, e, m, S, q⟩ => ?_
  have q : KS Γ cs p F ι W ((evE P cv e m).bindS _) D := q
  refine ⟨p, F, ι, e, m, S, (KS.bindS q).imp fun z F1 ι1 e1 m1 H1 S1 x1 q1 w rz => ⟨p, F1, ι1, e1, m1, S1, (KS.bindS q1).imp fun x F2 ι2 e2 m2 H2 S2 x2 q2 ow ro => ⟨p, F2, ι2, e2, m2, S2, (KS.bindS q2).imp fun y F3 ι3 e3 m3 H3 S3 x3 q3 iw ri => ?_⟩⟩⟩
  split at q3
  · rename_i d hd
    split at q3
    · rename_i e4 m4 hw
      obtain ⟨d', hd', hw⟩ := Option.bind_eq_some_iff.mp hw
      obtain ⟨a2, ea, rO, k⟩ := wr_of S3 (ro.mono x3) hd hw
      subst ea
      cases d <;> first | (simp [setiD] at hd'; done) | skip
      · cases y <;> first | (simp [setiD] at hd'; done) | skip
        cases ri
        obtain ⟨j, hj, rfl⟩ := Option.map_eq_some_iff.mp hd'
        cases rO with
        | lst hH rr => exact .inl ⟨a2, _, _, j, rfl, rfl, hH, by rw [rr.length]; exact hj, KS.now q3 (k _ (.lst upd_same (rr.set ((rz.mono x2).mono x3) j)))⟩
      · obtain ⟨kk, hk, hd2⟩ := Option.bind_eq_some_iff.mp hd'
        split at hd2
        · rename_i hlen
          cases hd2
          have ek : iw = kV kk := by
            cases y <;> first | (simp [keyOf] at hk; done) | skip
            all_goals
              cases ri
              cases hk
              rfl
          subst ek
          cases rO with
          | dic hH rr => exact .inr ⟨a2, _, rfl, DPut.k hH (by rw [repK_len rr, ← sizeL_eq]; exact hlen), KS.now q3 (k _ (.dic upd_same (repK_put ((rz.mono x2).mono x3) rr)))⟩
        · cases hd2
    · exact q3.elim
  · exact q3.elim
end
end G
end
section
set_option Elab.async false
set_option linter.all false
set_option maxRecDepth 100000
set_option maxHeartbeats 1000000
/-! G: field stores, parallel stores. -/
namespace G
open PySem PySem.Spec PyProof.Rows L2
section
variable {Γ : Ge} {N : List Str} {sc : Scope} {cs : List Cau} {W : WX} {hot : Bool} {k : Nat} {X : Cx} {P : Par} {a b c : C} {ea eb ec : Expr} {pos p1 p2 apos : Pos}
theorem repF_put {F : Hp} {ι : List Addr} {f : Str} {v : V} {d : D} (r : Rep Γ F ι v d) : ∀ {vs : List (Str × V)} {ds : List (Str × D)}, RepF Γ F ι vs ds → RepF Γ F ι (L2.putF f v vs) (G.putF f d ds)
  | _, _, .nil => .cons r .nil
  | _, _, .cons (k := g) q t => by
    unfold L2.putF G.putF
    by_cases h : g = f
    · rw [if_pos h, if_pos h]
      first | exact .cons r t | (subst h; exact .cons r t)
    · rw [if_neg h, if_neg h]
      exact .cons q (repF_put r t)
/-- self.f = v, the instance that is being made -/
theorem s_fld {n i : Nat} {x f : Str} {v : Expr} {px pa : Pos} (C : Here Γ N sc cs W hot k X) (T : Tops Γ) (hx : nameB N sc i x = true) (hv : PE X v (tE Γ cs W (evE (parN Γ n) a))) : PS X (.Assign [.Attribute (.Name x px) f pa] v pos) (tS Γ cs W (evS (parN Γ n) (.fld i f a))) := by
  refine (ps_fld (pe_slot C hx) hv swaps_att).weak fun D σ H ⟨p, F, ι, e, m, S, q⟩ => ?_
  have q : KS Γ cs p F ι W ((evE (parN Γ n) a e m).bindS _) D := q
  refine ⟨p, F, ι, e, m, S, (KS.bindS q).imp fun z F1 ι1 e1 m1 H1 S1 x1 q1 w rz => ?_⟩
  split at q1
  · rename_i c fs h1
    split at q1
    · rename_i hc
      simp only [Bool.and_eq_true, decide_eq_true_eq] at hc
      obtain ⟨as, r, _⟩ := S1.env
      obtain ⟨a1, hs, rO, _⟩ := r.atOwn h1
      cases rO with
      | @ins dx _ xs _ hH rF =>
        have hf := hc.2
        unfold Par.fld at hf
        split at hf
        · rename_i kl hk
          have hk : Γ.pg.cls[c]? = some kl := hk
          have hCl := (T.cls c kl hk).1
          have hn := T.noat c kl f hk (of_decide_eq_true hf)
          rw [← C.K] at hCl hn
          refine ⟨_, hs, a1, _, _, _, rfl, hH, hCl, hn, by rw [rF.length]; omega, ?_⟩
          exact KS.now q1 (S1.putOwn h1 hs (.ins upd_same (repF_put rz rF)))
        · cases hf
    · exact q1.elim
  · exact q1.elim
theorem noStarred {ea eb : Expr} (h1 : plainArg ea = true) (h2 : plainArg eb = true) : ([ea, eb].any fun | .Starred .. => true | _ => false) = false := by
  cases ea <;> first | (cases h1; done) | (cases eb <;> first | rfl | cases h2)
theorem par_stores {x y : Str} {ea eb : Expr} {px py pt pt2 : Pos} {kt k2} {env : Env} (hbk : env.blockKind = .function) (kx : env.kindOf x = some .local) (ky : env.kindOf y = some .local) (hxy : (y == x) = false) (h1 : plainArg ea = true) (h2 : plainArg eb = true) (hl : (py.line == px.line) = true)
    (h12 : [ea, eb].all (foldedForSure 8) = false) (h13 : [ea, eb].all (constantsAlone 8) = false) : swappedStores [.Tuple [.Name x px, .Name y py] kt pt] (.Tuple [ea, eb] k2 pt2) env = pure (some [x, y]) := by
  have e1 : (env.blockKind != .function) = false := by rw [hbk]; rfl
  have e2 : [x, y].eraseDups.length = 2 := by
    simp [List.eraseDups_cons, List.filter, hxy]
  unfold swappedStores
  dsimp only
  rw [e1]
  rw [if_neg (by simp), if_neg (by rw [Bool.not_eq_true]; exact noStarred h1 h2), h12, h13]
  have hl' : py.line = px.line := by simpa using hl
  have f1 : List.filterMap (fun e => match e with
      | .Name id pos => if (env.kindOf id == some .local && pos.line == px.line) = true then some id else none
      | _ => none) [Expr.Name x px, Expr.Name y py] = [x, y] := by
    rw [List.filterMap_cons_some (b := x) (by simp [kx]), List.filterMap_cons_some (b := y) (by simp [ky, hl'])]
    rfl
  have f2 : (List.filterMap (fun e => match e with
      | .Name id pos => if (env.kindOf id == some .local && pos.line == ((Option.map (fun x => x.pos.line) [Expr.Name x px, Expr.Name y py].head?).getD 0)) = true then some id else none
      | _ => none) [Expr.Name x px, Expr.Name y py]) = [x, y] := f1
  rw [if_neg (by
    refine Bool.not_eq_true _ ▸ ?_
    refine (congrArg (fun l : List Str => (l.length != [Expr.Name x px, Expr.Name y py].length || l.eraseDups.length != l.length)) f2).trans ?_
    show ([x, y].length != 2 || [x, y].eraseDups.length != [x, y].length) = false
    rw [e2]
    rfl)]
  rw [if_neg (by simp), if_neg (by simp)]
  exact congrArg (fun l : List Str => (pure (some l) : Sem (Option (List Str)))) f2
def locP (sc : Scope) (x : Str) : Bool := match sc.names.lookup x with
  | some .local => true
  | _ => false
theorem locP_is {x : Str} (h : locP sc x = true) : sc.names.lookup x = some .local := by
  unfold locP at h
  split at h <;> first | assumption | cases h
/-- a, b = x, y -/
def parB (N : List Str) (sc : Scope) (i j : Nat) (x y : Str) (px py : Pos) (a b : Expr) : Bool :=
  decide (N[i]? = some x) && decide (N[j]? = some y) && decide (i ≠ j) && !(y == x) && locP sc x && locP sc y && (py.line == px.line) && plainArg a && plainArg b && !([a, b].all (foldedForSure 8)) && !([a, b].all (constantsAlone 8))
theorem s_par {i j : Nat} {x y : Str} {ea eb : Expr} {px py pt pt2 : Pos} {kt k2} (C : Here Γ N sc cs W false k X) (hbk : X.env.blockKind = .function) (h : parB N sc i j x y px py ea eb = true) (ha : PE X ea (tE Γ cs W (evE P a))) (hb : PE X eb (tE Γ cs W (evE P b))) :
    PS X (.Assign [.Tuple [.Name x px, .Name y py] kt pt] (.Tuple [ea, eb] k2 pt2) pos) (tS Γ cs W (evS P (.par i j a b))) := by
  unfold parB at h
  simp only [Bool.and_eq_true, decide_eq_true_eq, Bool.not_eq_true'] at h
  obtain ⟨⟨⟨⟨⟨⟨⟨⟨⟨⟨h1, h2⟩, h3⟩, h4⟩, h5⟩, h6⟩, h7⟩, h8⟩, h9⟩, h10⟩, h11⟩ := h
  have lx : X.env.scope.names.lookup x = some .local := by rw [C.sc]; exact locP_is h5
  have ly : X.env.scope.names.lookup y = some .local := by rw [C.sc]; exact locP_is h6
  refine (ps_par (C.calm rfl) (by rw [C.nm]; exact C.nd) (by rw [C.nm]; exact h1) (by rw [C.nm]; exact h2) h3 lx ly (a_cons ha (a_cons hb a_nil h9) h8) (par_stores hbk lx ly h4 h8 h9 h7 h10 h11) rfl).weak fun D σ H ⟨p, F, ι, e, m, S, q⟩ => ?_
  have q : KS Γ cs p F ι W ((evE P a e m).bindS fun x e1 m1 => (evE P b e1 m1).bindS fun y e2 m2 => if i < e2.length && j < e2.length then .nx ((e2.set i (.val x)).set j (.val y)) m2 else .no) D := q
  refine ⟨p, F, ι, e, m, S, ?_⟩
  show K1 Γ cs p F ι σ W ((evE P a e m).bind fun d e1 m1 => ((evE P b e1 m1).bind fun d2 e2 m2 => R.bind (.ok [] e2 m2) fun ds e3 m3 => .ok (d2 :: ds) e3 m3).bind fun ds e2 m2 => .ok (d :: ds) e2 m2) _
  cases hr : evE P a e m with
  | no => rw [hr] at q; exact q.elim
  | ex c fs e1 m1 => rw [hr] at q; exact fun dd F' ι' H' S x => q dd F' ι' σ H' S x
  | ok x1 e1 m1 =>
    rw [hr] at q
    simp only [R.bindS_ok, R.bind_ok] at q ⊢
    cases hr2 : evE P b e1 m1 with
    | no => rw [hr2] at q; exact q.elim
    | ex c fs e1 m1 => rw [hr2] at q; exact fun dd F' ι' H' S x => q dd F' ι' σ H' S x
    | ok y1 e2 m2 =>
      rw [hr2] at q
      simp only [R.bindS_ok, R.bind_ok] at q ⊢
      intro F' ι' H' S' x' vs rv
      cases rv with
      | cons r1 rv =>
        cases rv with
        | cons r2 rv =>
          cases rv
          split at q
          · exact ⟨_, _, rfl, q F' ι' _ H' ((S'.setVal r1).setVal r2) x'⟩
          · exact q.elim
end
end G
end
section
set_option Elab.async false
set_option linter.all false
set_option maxRecDepth 100000
set_option maxHeartbeats 1000000
/-! G: errors. -/
namespace G
open PySem PySem.Spec PySem.Calls PySem.W PyProof.Rows
/-- an error's class, asked of it, whatever dict it has -/
theorem classX {prog : Program} {w : World} {A : Around} {E : Value → Shared → Prop} {s : Shared} {K : Frag} {x D : Addr} {ob : Obj} {od : Option Obj} (C : L2.ExcC K D) (hf : findObj K D od "__class__" = some (.bind (.builtin "getset_descriptor.__get__") (.builtin "object.__class__")))
    {Q : Option Value → Shared → Prop} (X : K.In s.heap) (J : InstAt s.heap x ob D od) (h : Q (some (.ref D)) { s with toks := s.toks + 1 }) : wpAny (model prog w) A (getAttr? (.ref x) "__class__") Q E s := by
  obtain ⟨hp, gg, dd, tt, oo⟩ := s
  have T := J.type (M := model prog w)
  have T1 := looks_findIn (M := model prog w) X C.hg
  have T2 := looks_findIn (M := model prog w) X C.hk
  have T3 := looks_find (M := model prog w) X J hf
  have B : Looks (model prog w) hp (isInstance (.ref x) (.type "BaseException")) true := T.andThen (looks_subIn X C.hs)
  have z : (Value.builtin "BaseException.__getattribute__" == Value.builtin "object.__getattribute__") = false := by decide +kernel
  unfold getAttr? getAttrBy? getAttrBy
  refine wpAny_bind (wpAny_mkText (wpAny_bind (wpAny_attempt (wpAny_holding (wpAny_bind (T.at (wpAny_bind (T1.at ?_))))))))
  show wpAny _ _ (if (onTheHeap (Value.ref D) && Value.builtin "BaseException.__getattribute__" == Value.builtin "object.__getattribute__") = true then _ else _) _ _ _
  rw [z, Bool.and_false, if_neg Bool.false_ne_true]
  unfold getAttrByItsOwn hookBefore
  refine wpAny_bind ?_
  rw [if_pos (show onTheHeap (Value.ref D) = true from rfl)]
  refine T2.at (wpAny_bind (wpAny_attempt (wpAny_holding ?_)))
  unfold callGetattribute
  rw [if_neg (show ¬ (false && onTheHeap (Value.builtin "BaseException.__getattribute__")) = true from Bool.false_ne_true)]
  unfold boundAndCalled
  rw [PySem.F.excAttr_ValueError.ga.bind (.ref x)]
  refine wpAny_bind (wpAny_pure ?_)
  show wpAny _ _ (call (.builtin "BaseException.__getattribute__") [.ref x, .str "__class__" tt]) _ _ _
  refine wpAny_call (codeAny_call_builtin PySem.F.excAttr_ValueError.ga.plain PySem.F.entry_bexc_ga ?_)
  refine @check_slot (model prog w) _ _ ⟨hp, gg, dd, tt + 1, oo⟩ "BaseException.__getattribute__" "BaseException" "__getattribute__" (.ref x) [.str "__class__" tt] [] _ (by decide +kernel) (by decide +kernel) B (PySem.F.args_bexc_ga (.ref x) (.str "__class__" tt)) ?_
  unfold Builtin.«object.__getattribute__»
  refine wpAny_bind (wpAny_of_eq (a := ((Value.ref x : Value), [Value.str "__class__" tt])) (by first | rfl | (simp only [slotArgs]; rfl)) ?_)
  refine wpAny_bind (wpAny_pure (wpAny_bind (T.at (wpAny_bind (T3.at ?_)))))
  show wpAny _ _ (holding [Value.builtin "object.__class__"] (call (.builtin "getset_descriptor.__get__") [.builtin "object.__class__", .ref x, .ref D]) >>= ret) _ _ _
  refine wpAny_bind (wpAny_holding (wpAny_call (class_get (s := ⟨hp, gg, dd, tt + 1, oo⟩) (ox := ob) (od := od) X J C.hm ?_)))
  refine wpAny_pure ?_
  show wpAny _ _ (handedOut (.ref D)) _ _ _
  rw [handedOut_of (v := .ref D) rfl]
  first
    | exact wpAny_pure (wpAny_pure h)
    | exact wpAny_pure h
    | exact wpAny_pure (wpAny_bind (wpAny_pure (wpAny_pure h)))
end G

namespace G
open PySem PySem.Spec PyProof.Rows L2
section
variable {Γ : Ge} {F H : Hp} {ι : List Addr} {cs cs' : List Cau}
/-- the slots, where no error stands in any -/
theorem EnvR.less : ∀ {e : En} {σ : St} {as : List Addr}, EnvR Γ F ι H cs e σ as → noExc e = true → EnvR Γ F ι H cs' e σ as
  | _, _, _, .nil, _ => .nil
  | _, _, _, .no t, h => .no (t.less h)
  | _, _, _, .val r t, h => .val r (t.less h)
  | _, _, _, .own r t, h => .own r (t.less h)
  | _, _, _, .exc _ _ _, h => by cases h
theorem EnvR.more (hc : ∀ x ∈ cs, x ∈ cs') : ∀ {e : En} {σ : St} {as : List Addr}, EnvR Γ F ι H cs e σ as → EnvR Γ F ι H cs' e σ as
  | _, _, _, .nil => .nil
  | _, _, _, .no t => .no (t.more hc)
  | _, _, _, .val r t => .val r (t.more hc)
  | _, _, _, .own r t => .own r (t.more hc)
  | _, _, _, .exc m r t => .exc (hc _ m) r (t.more hc)
theorem EnvR.setExc {x : Cau} {fs : List (Str × D)} (hm : x ∈ cs) (q : RepX Γ F ι fs x.dd) : ∀ {e : En} {σ : St} {as : List Addr} (i : Nat), EnvR Γ F ι H cs e σ as → ∃ as', EnvR Γ F ι H cs (e.set i (.exc x.c fs)) (σ.set i (some (.ref x.a))) as' ∧ as'.Sublist as
  | _, _, _, _, .nil => ⟨[], .nil, List.Sublist.refl _⟩
  | _, _, as, 0, .no t => ⟨as, .exc hm q t, List.Sublist.refl _⟩
  | _, _, as, 0, .val _ t => ⟨as, .exc hm q t, List.Sublist.refl _⟩
  | _, _, as, 0, .exc _ _ t => ⟨as, .exc hm q t, List.Sublist.refl _⟩
  | _, _, _, 0, .own (as := as) _ t => ⟨as, .exc hm q t, List.sublist_cons_self _ _⟩
  | _, _, as, i + 1, .no t => let ⟨b, h, s⟩ := t.setExc hm q i; ⟨b, .no h, s⟩
  | _, _, as, i + 1, .val r t => let ⟨b, h, s⟩ := t.setExc hm q i; ⟨b, .val r h, s⟩
  | _, _, as, i + 1, .exc m r t => let ⟨b, h, s⟩ := t.setExc hm q i; ⟨b, .exc m r h, s⟩
  | _, _, _, i + 1, .own r t => let ⟨b, h, s⟩ := t.setExc hm q i; ⟨_, .own r h, s.cons₂ _⟩
variable {p : En0} {e : En} {m : Mu} {σ : St}
theorem Sim.less (S : Sim Γ cs p F ι e m σ H) (h : noExc e = true) : Sim Γ cs' p F ι e m σ H := by
  obtain ⟨as, r, q⟩ := S.env
  exact ⟨S.sub, S.ext, S.cel, ⟨as, r.less h, q⟩, S.keep, S.newF, S.newC, S.slf⟩
theorem Sim.more (S : Sim Γ cs p F ι e m σ H) (hc : ∀ x ∈ cs, x ∈ cs') : Sim Γ cs' p F ι e m σ H := by
  obtain ⟨as, r, q⟩ := S.env
  exact ⟨S.sub, S.ext, S.cel, ⟨as, r.more hc, q⟩, S.keep, S.newF, S.newC, S.slf⟩
theorem Sim.setExc {x : Cau} {fs : List (Str × D)} {i : Nat} (S : Sim Γ cs p F ι e m σ H) (hm : x ∈ cs) (q : RepX Γ F ι fs x.dd) : Sim Γ cs p F ι (e.set i (.exc x.c fs)) m (σ.set i (some (.ref x.a))) H :=
  S.setEnv (keepS (x := .exc x.c fs) (fun d z => by cases z) i _) fun as r => r.setExc hm q i
end
/-! ### what is asked of the classes -/
/-- the promise of an error's __init__: one field -/
def spX (C : Addr) (f : Str) : Sp := fun vs H Q _ => ∃ (a : Addr) (y : V), vs = [.ref a, y] ∧ H a = some (exo a C none) ∧ ∀ dx, H dx = none → dx ≠ a → Q .non (upd (upd H dx (exd dx [(f, y)])) a (exo a C (some dx)))
def xFlds (G : Pg) : List Str := G.exc.flatMap fun x => x.fields
structure ErrC (Γ : Ge) (c : Nat) (x : Exc) : Prop where
  oex : OexC Γ.K (Γ.xad c)
  exc : ExcC Γ.K (Γ.xad c)
  xf : XfC Γ.K (Γ.xad c)
  nof : ∀ f ∈ xFlds Γ.pg, PySem.W.findIn Γ.K (.ref (Γ.xad c)) f = some none
  mki : ∀ f, x.fields = [f] → ∃ fI fd, PySem.W.findIn Γ.K (.ref (Γ.xad c)) "__init__" = some (some (.ref fI)) ∧ PySem.W.typeIn Γ.K (.ref fI) = some (.type "function") ∧
    Binds Γ.K fd ["self", f] [] ∧ FnOk Γ.prog Γ.w Γ.K Γ.mg Γ.base (L2.CX Γ.prog Γ.w) 1 fI fd ["self", f] (spX (Γ.xad c) f)
structure Errs (Γ : Ge) : Prop where
  one : ∀ (c : Nat) (x : Exc), Γ.pg.exc[c]? = some x → ErrC Γ c x
  exm : ∀ (c c' : Nat) (x x' : Exc), Γ.pg.exc[c]? = some x → Γ.pg.exc[c']? = some x' → PySem.W.exmOne Γ.K (.ref (Γ.xad c)) (.ref (Γ.xad c')) = some (c == c' || x.up.contains c')
  kit : ∀ (c c' : Nat) (x x' : Exc), Γ.pg.exc[c]? = some x → Γ.pg.exc[c']? = some x' → PySem.W.kitOne Γ.K (.ref (Γ.xad c)) (.ref (Γ.xad c')) = some (c == c' || x.up.contains c')
  kve : ∀ (c : Nat) (x : Exc), Γ.pg.exc[c]? = some x → PySem.W.kitOne Γ.K (.ref (Γ.xad c)) (.type "ValueError") = some true
/-! ### __init__ -/
section
variable {X : Cx} {e : Expr} {es : List Expr} {ta : TA} {x : Str} {p1 p2 pos : Pos}
/-- P.__init__(self, ..), P an own class whose __init__ is ValueError's -/
theorem pe_pinit {pl : Sem Bool} {Pa : Addr} (hg : Gl X x) (hm : X.mg x = some (.ref Pa)) (hd : (x == ("__debug__" : Str)) = false) (rP : PySem.W.readsIn X.K Pa (.type "type") = true) (sP : PySem.W.specialIn X.K (.ref Pa) "__getattribute__" = some (some (.builtin "type.__getattribute__")))
    (vP : PySem.W.findCls X.K (.ref Pa) (.type "type") "__init__" = some (.val (.builtin "ValueError.__init__"))) (ha : PA X (e :: es) ta)
    (hc : eval (.Call (.Attribute (.Name x p1) "__init__" p2) (e :: es) [] pos) X.env = (do
      let ov ← eval (.Name x p1) X.env
      standAt p2.atName
      let (f, first) ← holding [ov] (getMethod ov "__init__" pl)
      callWith pos f first (backTo pos (starEach (e :: es) X.env)) (backToKw pos (keywordEach [] X.env))))
    (he : starEach (e :: es) X.env = (false, eval e X.env) :: starEach es X.env) (hpl : (backTo pos (starEach es X.env)).any (·.1) = false) :
    PE X (.Call (.Attribute (.Name x p1) "__init__" p2) (e :: es) [] pos) (tVeI X.K ta) := by
  refine ⟨fun pins s σ H Q I h => ?_⟩
  refine PySem.W.methodCall_KW (ld_glob I hg hm ?_ hd) hc
  refine PySem.W.method_cls I.kIn sP (PySem.W.cls_value I.kIn rP vP (by decide +kernel) ?_)
  show wpAny _ _ (callWith pos (Value.builtin "ValueError.__init__") [] (backTo pos (starEach (e :: es) X.env)) []) _ _ _
  refine PyProof.Rows.callWith_method1 (thn (ha.run pos pins _ σ H _ (I.tok _) h) fun us s1 ⟨vs, H1, I1, r1, a, C, ws, ev, hl, T, ea, q⟩ => ?_) he hpl
  subst ev
  cases r1 with
  | @cons _ u0 _ ur ra rw' =>
    obtain rfl : u0 = Value.ref a := ra
    have hlen : ur.length ≤ sizeLine := by
      rw [← Paired.length rw', sizeLine_eq]
      omega
    exact oinit_ok T I1 ea hlen fun s' J => ⟨.non, H1, J, rfl, q⟩
end
/-- the text of such an __init__ -/
def initB (pn f : Str) (scope : Scope) : List Stmt → Bool
  | [.Expr (.Call (.Attribute (.Name x _) nm p2) [.Name s1 _, .Constant (.str _) _ _] [] pos) _, .Assign [.Attribute (.Name s2 _) f1 _] (.Name f2 _) _] =>
    decide (x = pn) && decide (nm = "__init__") && decide (s1 = "self") && decide (s2 = "self") && decide (f1 = f) && decide (f2 = f) && (p2.endLine == pos.line) && gloB scope pn && visB scope "self" && visB scope f && decide (f ≠ "__debug__") && decide (f ≠ "__classdict__")
  | _ => false
theorem err_init {P : Program} {w : World} {K : PySem.W.Frag} {mg : Str → Option Value} {base : Heap} {CX : CXT} {x qual : Str} {params : Arguments} {body : List Stmt} {scope : Scope} {fI C Pa : Addr} {fd : FuncData} {pn f : Str}
    (Fd : FunD K x qual params body scope [] [] fI fd) (h : initB pn f scope body = true) (sc : FnScope ["self", f] ["self", f] scope) (hm : mg pn = some (.ref Pa)) (rP : PySem.W.readsIn K Pa (.type "type") = true)
    (sP : PySem.W.specialIn K (.ref Pa) "__getattribute__" = some (some (.builtin "type.__getattribute__"))) (vP : PySem.W.findCls K (.ref Pa) (.type "type") "__init__" = some (.val (.builtin "ValueError.__init__")))
    (T : OexC K C) (hno : PySem.W.findIn K (.ref C) f = some none) : FnOk P w K mg base CX 1 fI fd ["self", f] (spX C f) := by
  unfold initB at h
  split at h
  · rename_i x0 px nm p2 s1 ps1 m0 j0 pm pos pe s2 ps2 f1 pf1 f2 pf2 pa
    simp only [Bool.and_eq_true, decide_eq_true_eq] at h
    obtain ⟨⟨⟨⟨⟨⟨⟨⟨⟨⟨⟨rfl, rfl⟩, rfl⟩, rfl⟩, rfl⟩, rfl⟩, hl⟩, hg⟩, v1⟩, v2⟩, d1⟩, d2⟩ := h
    refine Fd.ok sc (fun vs H Q E ⟨a, y, e, _⟩ => by rw [e]; rfl) fun cdv A outer s H vs Q E hr ⟨a, y, ev, ha, k⟩ => ?_
    subst ev
    have hg' : scope.names.lookup x0 = some .globalImplicit ∧ (x0 == ("__debug__" : Str)) = false := by
      unfold gloB at hg
      rw [Bool.and_eq_true] at hg
      obtain ⟨h1, h2⟩ := hg
      refine ⟨?_, by simpa using h2⟩
      split at h1 <;> first | assumption | cases h1
    refine ⟨_, pss_cons (ps_expr (pe_pinit (pl := _) (ta := tCons (L2.tVar 0) (tCons (tC (.str m0)) tNil)) hg'.1 hm hg'.2 rP sP vP
      (pa_cons (pe_var (i := 0) rfl (vis_of v1)) (pa_cons pe_str pa_nil)) (mcall_eq rfl (by unfold fewB; rw [hl]; rfl)) rfl rfl))
      (pss_one (ps_ost (f := f2) (to := L2.tVar 0) (te := L2.tVar 1) (pe_var rfl (vis_of v1)) (pe_var rfl (vis_of v2) (by simpa using d1) (by simpa using d2)))), ?_⟩
    refine ⟨_, rfl, a, C, [.str m0], rfl, by simp, T, ha, ?_⟩
    refine ⟨_, rfl, _, rfl, a, C, rfl, T, hno, .inl ⟨ha, fun dx hn ne => k dx hn ne⟩⟩
  · cases h
end G
end
section
set_option Elab.async false
set_option linter.all false
set_option maxRecDepth 100000
set_option maxHeartbeats 1000000
/-! G: raise, try, caught errors. -/
namespace G
open PySem PySem.Spec PyProof.Rows L2
section
variable {Γ : Ge} {N : List Str} {sc : Scope} {cs : List Cau} {W : WX} {hot : Bool} {k : Nat} {X : Cx} {P : Par} {a b c : C} {ea eb ec : Expr} {pos p1 p2 apos np pos' : Pos}
theorem passF : Passes (L2.CX X.prog X.w) X (fun _ _ _ => False) := fun _ _ _ _ _ _ _ ⟨_, _, _, _, _, _, _, _, _, _, _, _, h⟩ => h.elim
/-- raise E(e) -/
theorem s_raise {n c : Nat} {x f : Str} {y : Exc} (C : Here Γ N sc cs W false (3 * n + 2) X) (T : Tops Γ) (Er : Errs Γ) (hc : Γ.pg.exc[c]? = some y) (hf : y.fields = [f]) (hx : x = Γ.tb.x c) (hg : gloB sc x = true) (hp : plainArg ea = true) (ha : PE X ea (tE Γ cs W (evE (parN Γ n) a))) :
    PS X (.Raise (some (.Call (.Name x p1) [ea] [] pos')) none pos) (tS Γ cs W (evS (parN Γ n) (.raise c (.cons a .nil)))) := by
  subst hx
  obtain ⟨g1, g2⟩ := glo_of C hg
  have Ec := Er.one c y hc
  obtain ⟨fI, fd, i1, i2, i3, i4⟩ := Ec.mki f hf
  have hT := Ec.oex
  rw [← C.K] at i1 i2 i3 hT
  have F1 : FnOk X.prog X.w X.K X.mg X.base (L2.CX X.prog X.w) 1 fI fd ["self", f] (spX (Γ.xad c) f) := by rw [C.prog, C.w, C.K, C.mg, C.base]; exact i4
  refine (ps_raise (C.calm rfl) C.tk (pmk_oex (dvs := []) (ds := []) hT i1 i2 F1 ((C.room rfl).mono (by omega)) i3 .nil passF g1 (by rw [C.mg]; exact T.xmg c y hc) (a_cons ha a_nil hp) g2 (star_one hp) (star_any rfl))).weak fun D σ H ⟨p, F, ι, e, m, S, q⟩ => ?_
  have q : KS Γ cs p F ι W ((evA (parN Γ n) (.cons a .nil) e m).bindS _) D := q
  refine ⟨p, F, ι, e, m, S, (KS.bindS q).imp fun ds F1 ι1 e1 m1 H1 S1 x1 q1 vs r => ?_⟩
  have hc' : (parN Γ n).exc[c]? = some y := hc
  rw [hc'] at q1
  dsimp only at q1
  rw [hf] at q1
  split at q1
  · rename_i hl
    cases r with
    | nil => simp at hl
    | @cons v d vs ds rv rr =>
      cases rr with
      | cons _ _ => simp at hl
      | nil =>
        have q1 : KS Γ cs p F1 ι1 W (.ex c [(f, d)] e1 m1) D := q1
        refine ⟨by simp, fun a' ha' => ⟨a', v, rfl, upd_same, fun dx hdx ne => ⟨rfl, dx, [(f, v)], upd_same, by rw [upd_ne ne, upd_same], by rw [upd_ne ne] at hdx; exact hdx, ?_⟩⟩⟩
        have hd1 : H1 dx = none := by rw [upd_ne ne] at hdx; exact hdx
        have eH : upd (del (upd (upd (upd H1 a' (exo a' (Γ.xad c) none)) dx (exd dx [(f, v)])) a' (exo a' (Γ.xad c) (some dx))) a') dx (.xd [(f, v)]) = upd H1 dx (.xd [(f, v)]) := by
          funext b
          by_cases hb : b = dx
          · rw [hb, upd_same, upd_same]
          · rw [upd_ne hb, upd_ne hb]
            by_cases hb2 : b = a'
            · rw [hb2, del_same, ha']
            · rw [del_ne hb2, upd_ne hb2, upd_ne hb, upd_ne hb2]
        rw [eH]
        obtain ⟨S2, x2⟩ := S1.alloc (o := .xd [(f, v)]) hd1
        refine q1 (some dx) _ ι1 σ _ S2 x2 (.inr ⟨dx, _, rfl, upd_same, fun g y2 hy => ?_⟩)
        by_cases hg2 : g = f
        · subst hg2
          have : y2 = d := by simpa [List.lookup] using hy.symm
          subst this
          exact ⟨v, by simp [List.lookup], rv.mono x2⟩
        · have z : (g == f) = false := by simpa using hg2
          simp [List.lookup, z] at hy
  · exact q1.elim
theorem sub_is {n c c' : Nat} {b : Bool} (h : (parN Γ n).sub c' (.c c) = some b) : ∃ y, Γ.pg.exc[c']? = some y ∧ b = (c' == c || y.up.contains c) := by
  obtain ⟨y, h1, h2⟩ := Option.map_eq_some_iff.mp h
  exact ⟨y, h1, h2.symm⟩
theorem cold_is (Γ : Ge) (n : Nat) : (parN Γ n).cold = parN Γ 0 := by
  have h1 : run Γ.pg 0 = fun _ _ _ => R0.no := by funext f ds m; rfl
  have h2 : mk Γ.pg 0 = fun _ _ _ => R0.no := by funext f ds m; rfl
  unfold parN Pg.par Par.cold
  rw [h1, h2]
/-- try: .. except E as x: .. -/
theorem s_try {n c i : Nat} {x nme : Str} {y : Exc} {body suite : List Stmt} {b₀ : Stmt} {sb ss : S} (C : Here Γ N sc [] W false (3 * n + 2) X) (B : HereS X) (T : Tops Γ) (Er : Errs Γ) (hc : Γ.pg.exc[c]? = some y) (hx : x = Γ.tb.x c) (hg : gloB sc x = true)
    (hi : N[i]? = some nme) (hl : sc.names.lookup nme = some .local)
    (hb : ∀ W' X', Here Γ N sc [] W' false (3 * n + 2) X' → HereS X' → PSs X' body (tS Γ [] W' (evS (parN Γ n) sb)))
    (hs : ∀ cs' X', Here Γ N sc cs' WF true (3 * 0 + 2) X' → HereS X' → PSs X' (b₀ :: suite) (tS Γ cs' WF (evS (parN Γ 0) ss))) :
    PS X (.Try body [.ExceptHandler (some (.Name x np)) (some nme) (b₀ :: suite) pos'] [] [] pos) (tS Γ [] W (evS (parN Γ n) (.try_ sb c i ss))) := by
  subst hx
  obtain ⟨g1, g2⟩ := glo_of C hg
  have hk : X.env.kindOf nme = some .local := by
    show X.env.scope.names.lookup nme = some .local
    rw [C.sc]
    exact hl
  refine (ps_try_as (c := .ref (Γ.xad c)) (tb := fun W' => tS Γ [] W' (evS (parN Γ n) sb)) (ts := fun a cls d => fun D σ H => ∃ c' y', cls = .ref (Γ.xad c') ∧ Γ.pg.exc[c']? = some y' ∧ tS Γ [⟨a, c', d⟩] WF (evS (parN Γ 0) ss) D σ H) (Wout := W)
    B.stk B.frm (by rw [C.nm]; exact C.nd) (by rw [C.nm]; exact hi) hk ⟨g1, g2, .inl (by rw [C.mg]; exact T.xmg c y hc)⟩ C.tk (fun W' pn xe tk ps => ?_) fun a oe cls d pn hz hf => ⟨fun pins s σ H D I ⟨c', y', e1, e2, h⟩ => ?_⟩).weak fun D σ H ⟨p, F, ι, e, m, S, q⟩ => ?_
  · exact hb W' _ ⟨C.prog, C.w, C.K, C.mg, C.base, C.nm, C.nd, C.sc, fun h => C.calm h, fun h => C.room h, C.gds, C.cold, C.nocs, (fun x hx => by cases hx), C.unit, tk⟩ ⟨ps, B.stk, B.frm, B.fn, B.bk⟩
  · subst e1
    exact (hs [⟨a, c', d⟩] (X.suite a ((a, oe) :: pn)) ⟨C.prog, C.w, C.K, C.mg, C.base, C.nm, C.nd, C.sc, fun h => (nomatch h), fun h => (nomatch h), C.gds, fun _ => Nat.le_refl _, fun h => (nomatch h), fun x hx => by
        obtain rfl : x = ⟨a, c', d⟩ := by simpa using hx
        exact ⟨oe, List.mem_cons_self, hz, hf, y', e2⟩, by have := C.unit; show X.A.units + _ + _ < _; omega, fun u s' ⟨_, _, _, _, _, _, _, _, _, _, _, _, _, _, _, _, h⟩ => h.elim⟩ ⟨PassesOwn.never, B.stk, B.frm, B.fn, B.bk⟩).run pins s σ H D I h
  · refine ⟨p, F, ι, e, m, S, ?_⟩
    have q : KS Γ [] p F ι W (match evS (parN Γ n) sb e m with
      | .ex c' fs e1 m1 => match (parN Γ n).sub c' (.c c) with
        | some true => if i < e1.length then match evS (parN Γ n).cold ss (e1.set i (.exc c' fs)) m1 with
            | .nx e2 m2 => if noExc (e2.set i .no) then .nx (e2.set i .no) m2 else .no
            | .ret d e2 m2 => if noExc (e2.set i .no) then .ret d (e2.set i .no) m2 else .no
            | _ => .no
          else .no
        | some false => .ex c' fs e1 m1
        | none => .no
      | r => r) D := q
    rw [cold_is] at q
    show KS Γ [] p F ι _ (evS (parN Γ n) sb e m) D
    cases hr : evS (parN Γ n) sb e m with
    | nx e1 m1 => rw [hr] at q; exact q
    | ret d e1 m1 => rw [hr] at q; exact q
    | brk e1 m1 => rw [hr] at q; exact q
    | cnt e1 m1 => rw [hr] at q; exact q
    | no => rw [hr] at q; exact q.elim
    | ex c' fs e1 m1 =>
      rw [hr] at q
      dsimp only at q
      intro dd F' ι' σ' H' S' x' rx
      cases hb2 : (parN Γ n).sub c' (.c c) with
      | none => rw [hb2] at q; exact q.elim
      | some bb =>
        rw [hb2] at q
        obtain ⟨y', hy', eb⟩ := sub_is hb2
        have hex := Er.exm c' c y' y hy' hc
        rw [← eb, ← C.K] at hex
        refine ⟨bb, hex, fun hbt a ha => ?_, fun hbf => ?_⟩
        · subst hbt
          dsimp only at q
          split at q
          · refine ⟨c', y', rfl, hy', p, F', ι', e1.set i (.exc c' fs), m1, (S'.more (cs' := [⟨a, c', dd⟩]) (fun x hx => by cases hx)).setExc (x := ⟨a, c', dd⟩) (by simp) rx, ?_⟩
            cases hr2 : evS (parN Γ 0) ss (e1.set i (.exc c' fs)) m1 with
            | nx e2 m2 =>
              rw [hr2] at q
              dsimp only at q
              split at q
              · rename_i hne
                exact fun F2 ι2 σ2 H2 S2 x2 => q F2 ι2 (σ2.set i none) H2 (Sim.less (S2.setNo (i := i) (v := none)) hne) (x'.trans x2)
              · exact q.elim
            | ret d e2 m2 =>
              rw [hr2] at q
              dsimp only at q
              split at q
              · rename_i hne
                exact fun F2 ι2 σ2 H2 v S2 x2 r => q F2 ι2 (σ2.set i none) H2 v (Sim.less (S2.setNo (i := i) (v := none)) hne) (x'.trans x2) r
              · exact q.elim
            | brk e2 m2 => rw [hr2] at q; exact q.elim
            | cnt e2 m2 => rw [hr2] at q; exact q.elim
            | ex _ _ e2 m2 => rw [hr2] at q; exact q.elim
            | no => rw [hr2] at q; exact q.elim
          · exact q.elim
        · subst hbf
          exact q dd F' ι' σ' H' S' x' rx
/-! ### a caught error -/
theorem kitx_excD {K : PySem.W.Frag} {D x : Addr} {ox : Obj} {od : Option Obj} (E : ExcC K D) (hf : PySem.W.findObj K D od "__class__" = some (.bind (.builtin "getset_descriptor.__get__") (.builtin "object.__class__"))) : PySem.W.KitX K (.ref x) (.ref D) (fun h => PySem.W.InstAt h x ox D od) where
  ty := fun _ _ _ I => I.type
  it := fun _ _ X _ => by
    obtain ⟨cdD, hcD, _⟩ := PySem.W.any_some E.hd
    unfold PySem.W.clsIn at hcD
    split at hcD
    · rename_i c' d' cd' sl' ho
      intro A' Q' E' s' k q
      unfold isType loadHead
      exact wpAny_bind (wpAny_loadPart (k _ _ (X _ _ ho)) (wpAny_pure q))
    · cases hcD
  ne := fun h tp dd its n sl X htp => by
    obtain ⟨cdD, hcD, _⟩ := PySem.W.any_some E.hd
    refine Bool.eq_false_iff.mpr fun q => ?_
    have e : D = tp := Value.ref.inj (beq_iff_eq.mp q)
    subst e
    unfold PySem.W.clsIn at hcD
    split at hcD
    · rename_i c' d' cd' sl' ho
      have z := (X _ _ ho).symm.trans htp
      cases z
    · cases hcD
  ca := fun X I k => classX E hf X I k
theorem find_class {K : PySem.W.Frag} {D : Addr} (E : ExcC K D) (od : Option Obj) : PySem.W.findObj K D od "__class__" = some (.bind (.builtin "getset_descriptor.__get__") (.builtin "object.__class__")) := by
  have hc : (PySem.W.clsIn K D).isSome = true := by
    obtain ⟨cd, hc, _⟩ := PySem.W.any_some E.hd
    rw [hc]
    rfl
  cases od with
  | none => exact PySem.W.findObj_dataN hc E.ha E.hn E.ht
  | some o => exact PySem.W.findObj_data hc E.ha E.hn E.ht
/-- the error, as the heap has it -/
theorem exc_at (C : Here Γ N sc cs W hot k X) {pins : List (Addr × Obj)} {s : Shared} {σ σ' : St} {H : Hp} {x : Cau} {p : En0} {F : Hp} {ι : List Addr} {e : En} {m : Mu} {fs : List (Str × D)} (I : Inv X pins σ' H s) (S : Sim Γ cs p F ι e m σ H) (hx : x ∈ cs) (r : RepX Γ F ι fs x.dd) :
    ∃ oe od, PySem.W.InstAt s.heap x.a oe (Γ.xad x.c) od ∧ (∃ y, Γ.pg.exc[x.c]? = some y) ∧ ∀ f d, fs.lookup f = some d → ∃ o v u, od = some o ∧ PySem.W.lookIn f o = some (some u) ∧ RelV v u ∧ Rep Γ F ι v d := by
  obtain ⟨oe, hm, ⟨z1, z2⟩, ⟨vs, hv⟩, hy⟩ := C.caus x hx
  obtain ⟨hget, _⟩ := I.pin (x.a, oe) (List.mem_append.mpr (.inl hm))
  rcases r with ⟨e1, e2⟩ | ⟨dd, xs, e1, e2, hl⟩
  · refine ⟨oe, none, ?_, hy, fun f d h => by rw [e2] at h; cases h⟩
    obtain ⟨oc, od, oda, osl⟩ := oe
    dsimp only at z1 z2 hv
    rw [e1] at z2
    subst z1 z2 hv
    exact ⟨hget, rfl, rfl, trivial⟩
  · have hd : ObjOk X.prog X.w H s.heap dd (.xd xs) := by
      rcases S.sub dd _ e2 with q | ⟨ob, q, ql⟩
      · exact I.hok dd _ q
      · cases ql
    obtain ⟨mA, hns, hr⟩ := hd
    obtain ⟨od, ho, hlk⟩ := lookIn_ns hns
    refine ⟨oe, some od, ⟨hget, z1, by unfold PySem.W.notCls; rw [hv] <;> rfl, by rw [z2, e1]; exact ho⟩, hy, fun f d h => ?_⟩
    obtain ⟨v, l, rv⟩ := hl f d h
    obtain ⟨u, hu, ru⟩ := RelO.some_of (v := v) (o := mA f) (by rw [← l]; exact hr f)
    exact ⟨od, v, u, rfl, by rw [hlk, hu], ru, rv⟩
/-- e.f of a caught error -/
theorem g_efld {n i : Nat} {x f : Str} (C : Here Γ N sc cs W hot k X) (Er : Errs Γ) (h : nameB N sc i x = true) (hf : f ∈ xFlds Γ.pg) :
    PE X (.Attribute (.Name x p1) f pos) (tE Γ cs W (evE (parN Γ n) (.efld i f))) := by
  refine ⟨fun pins s σ H Q I ⟨p, F, ι, e, m, S, q⟩ => ?_⟩
  have q : K1 Γ cs p F ι σ W (match e[i]? with
    | some (.exc _ fs) => .opt (fs.lookup f) e m
    | _ => .no) _ := q
  split at q
  · rename_i c fs he
    obtain ⟨d, hd, q⟩ := K1.optS q
    obtain ⟨as, r, _⟩ := S.env
    obtain ⟨x1, hx1, hσ, rfl, rx⟩ := r.atExc he
    refine attr_of (base_is rfl) (thn ((pe_slot C h).run pins s σ H (fun v H1 => v = .ref x1.a ∧ H1 = H) I ⟨_, hσ, rfl, rfl⟩) fun u s1 ⟨v, H1, I1, rv, ev, eH⟩ => ?_)
    subst ev eH
    obtain rfl : u = Value.ref x1.a := rv
    obtain ⟨oe, od, J, ⟨y, hy⟩, look⟩ := exc_at C I1 S hx1 rx
    obtain ⟨o, v, w, eo, hw, rw', rd⟩ := look f d hd
    subst eo
    have T := (Er.one x1.c y hy).xf
    have hn := (Er.one x1.c y hy).nof f hf
    rw [← C.K] at T hn
    exact HandSPX.exc_get I1.kIn J T.ga T.gg T.exC (PySem.W.findObj_own T.hdC hn rfl hw) (handed_of rw') ⟨v, H1, I1.tok _, rw', K1.ok q S v rd⟩
  · exact q.elim
/-- a class in the text, asked of an error -/
def xyB (G : Pg) (tb : Tb) (sc : Scope) : Expr → Ty → Bool
  | .Name x _, .b n => gloB sc x && (n == "ValueError") && decide (x = Str.ofString n)
  | .Name x _, .c i => gloB sc x && (G.exc[i]?).isSome && decide (x = tb.x i)
  | _, _ => false
def xyOk (G : Pg) : Ty → Bool
  | .b n => n == "ValueError"
  | .c i => (G.exc[i]?).isSome
def xyU (Γ : Ge) : Ty → Value
  | .b n => .type n
  | .c i => .ref (Γ.xad i)
def xyV (Γ : Ge) : Ty → V
  | .b n => .ty n
  | .c i => .ref (Γ.xad i)
theorem xy_cls (t : Ty) : ClsV (xyV Γ t) (xyU Γ t) := by
  cases t with
  | b n => exact .ty n
  | c i => exact .own _
theorem xy_pe (T : Tops Γ) (C : Here Γ N sc cs W hot k X) {ex : Expr} {t : Ty} (h : xyB Γ.pg Γ.tb sc ex t = true) : PE X ex (tC (xyV Γ t)) ∧ xyOk Γ.pg t = true ∧ plainArg ex = true := by
  unfold xyB at h
  split at h
  · rename_i x p n
    simp only [Bool.and_eq_true, decide_eq_true_eq] at h
    obtain ⟨⟨hg, hn⟩, rfl⟩ := h
    obtain ⟨g1, g2⟩ := glo_of C hg
    have hn2 : n = "ValueError" := by simpa using hn
    subst hn2
    exact ⟨pe_bltn g1 (blt_of T C (by decide +kernel)) (by decide +kernel) rfl (by decide +kernel) g2, hn, rfl⟩
  · rename_i x p i
    simp only [Bool.and_eq_true, decide_eq_true_eq] at h
    obtain ⟨⟨hg, hn⟩, rfl⟩ := h
    obtain ⟨g1, g2⟩ := glo_of C hg
    obtain ⟨kl, hk⟩ := Option.isSome_iff_exists.mp hn
    exact ⟨pe_glob g1 (by rw [C.mg]; exact T.xmg i kl hk) rfl g2, hn, rfl⟩
  · cases h
def xysB (G : Pg) (tb : Tb) (sc : Scope) : List Expr → List Ty → Bool
  | [], [] => true
  | e :: es, t :: ts => xyB G tb sc e t && xysB G tb sc es ts
  | _, _ => false
theorem xys_pa (T : Tops Γ) (C : Here Γ N sc cs W hot k X) : ∀ {es : List Expr} {ts : List Ty}, xysB Γ.pg Γ.tb sc es ts = true → PA X es (tCs (ts.map (xyV Γ))) ∧ ∀ t ∈ ts, xyOk Γ.pg t = true
  | [], [], _ => ⟨pa_nil.weak fun σ H Q h => h, fun t h => by cases h⟩
  | e :: es, t :: ts, h => by
    unfold xysB at h
    rw [Bool.and_eq_true] at h
    obtain ⟨a1, a2, a3⟩ := xy_pe T C h.1
    obtain ⟨b1, b2⟩ := xys_pa T C h.2
    refine ⟨(pa_cons a1 b1 (star_one a3)).weak fun σ H Q h => h, fun u hu => ?_⟩
    rcases List.mem_cons.mp hu with rfl | hu
    · exact a2
    · exact b2 u hu
  | [], _ :: _, h => by cases h
  | _ :: _, [], h => by cases h
theorem xcls_all (ts : List Ty) : Paired ClsV (ts.map (xyV Γ)) (ts.map (xyU Γ)) := by
  induction ts with
  | nil => exact .nil
  | cons t ts ih => exact .cons (xy_cls t) ih
theorem kit_sub {n c : Nat} {y : Exc} (Er : Errs Γ) (hy : Γ.pg.exc[c]? = some y) {t : Ty} {r : Bool} (ht : xyOk Γ.pg t = true) (h : (parN Γ n).sub c t = some r) : PySem.W.kitOne Γ.K (.ref (Γ.xad c)) (xyU Γ t) = some r := by
  cases t with
  | b s =>
    have : s = "ValueError" := by simpa [xyOk] using ht
    subst this
    have h : some true = some r := h
    cases h
    exact Er.kve c y hy
  | c i =>
    obtain ⟨y', h1, h2⟩ := sub_is h
    obtain ⟨y2, hk⟩ := Option.isSome_iff_exists.mp ht
    rw [hy] at h1
    cases h1
    rw [h2]
    exact Er.kit c i y y2 hy hk
theorem kitAny_sub {n c : Nat} {y : Exc} (Er : Errs Γ) (hy : Γ.pg.exc[c]? = some y) : ∀ {ts : List Ty} {r : Bool}, (∀ t ∈ ts, xyOk Γ.pg t = true) → (parN Γ n).subs c ts = some r → PySem.W.kitAny Γ.K (.ref (Γ.xad c)) (ts.map (xyU Γ)) = some r
  | [], r, _, h => by cases h; rfl
  | t :: ts, r, ht, h => by
    unfold Par.subs at h
    rw [List.map_cons]
    split at h
    · rename_i e
      cases h
      exact kitAny_cons (kit_sub Er hy (ht t List.mem_cons_self) e) (fun z => by cases z) fun _ => rfl
    · rename_i e
      exact kitAny_cons (kit_sub Er hy (ht t List.mem_cons_self) e) (fun _ => kitAny_sub Er hy (fun t h => ht t (List.mem_cons_of_mem _ h)) h) fun z => by cases z
    · cases h
/-- isinstance(e, ..) of a caught error -/
def xiB (G : Pg) (tb : Tb) (sc : Scope) : Expr → List Ty → Bool
  | .Tuple es _ _, ts => xysB G tb sc es ts && decide (ts.length ≤ 100)
  | e, [t] => xyB G tb sc e t
  | _, _ => false
/-- isinstance of a caught error, as the layer asks it -/
def rXi (X : Cx) : List V → Hp → VK → Prop := fun xs H Q => ∃ (a D : Addr) (c : V) (cv : Value) (b : Bool), xs = [.ref a, c] ∧ (∀ s pins σ, Inv X pins σ H s → ∃ oe od, PySem.W.InstAt s.heap a oe D od) ∧ ExcC X.K D ∧ ClsV c cv ∧ PySem.W.kitOne X.K (.ref D) cv = some b ∧ Q (.bl b) H
theorem call_xi : CallR X (.builtin "isinstance") (rXi X) := by
  intro pins s σ H xs us Q I r h
  obtain ⟨a, D, c, cv, b, rfl, hi, E, k, e, q⟩ := h
  obtain ⟨u1, u2, rfl, r1, r2⟩ := vals2 r
  obtain rfl : u1 = Value.ref a := r1
  have e2 := k.eq r2
  subst e2
  obtain ⟨oe, od, J⟩ := hi s pins σ I
  exact PySem.W.kia_one (kitx_excD E (find_class E od)) I.kIn J e (fun z => nomatch z) fun tk => ⟨.bl b, H, I.tok tk, rfl, q⟩
def rXiT (X : Cx) : List V → Hp → VK → Prop := fun xs H Q => ∃ (a D tp : Addr) (cs : List V) (us : List Value) (b : Bool), xs = [.ref a, .ref tp] ∧ H tp = some (.tup cs) ∧ Paired ClsV cs us ∧ (∀ s pins σ, Inv X pins σ H s → ∃ oe od, PySem.W.InstAt s.heap a oe D od) ∧ ExcC X.K D ∧ PySem.W.kitAny X.K (.ref D) us = some b ∧ Q (.bl b) H
theorem call_xiT : CallR X (.builtin "isinstance") (rXiT X) := by
  intro pins s σ H xs us Q I r h
  obtain ⟨a, D, tp, cs, ws, b, rfl, hT, k, hi, E, e, q⟩ := h
  obtain ⟨u1, u2, rfl, r1, r2⟩ := vals2 r
  obtain rfl : u1 = Value.ref a := r1
  cases (show u2 = Value.ref tp from r2)
  obtain ⟨oe, od, J⟩ := hi s pins σ I
  obtain ⟨_, its, rv, o, h1, h2, n, h3⟩ := (show ObjOk X.prog X.w H s.heap tp (.tup cs) from I.hok tp _ hT)
  have e3 := ClsV.all k rv
  subst e3
  obtain ⟨oc, od2, dt, sl⟩ := o
  simp only at h2 h3
  subst h2 h3
  exact PySem.W.kia_tup (kitx_excD E (find_class E od)) I.kIn J h1 e (fun z => nomatch z) fun tk => ⟨.bl b, H, I.tok tk, rfl, q⟩
theorem g_eisi {n i : Nat} {x : Str} {et : Expr} {ts : List Ty} (C : Here Γ N sc cs W hot k X) (T : Tops Γ) (Er : Errs Γ) (hn : nameB N sc i x = true) (hg : gloB sc "isinstance" = true) (hp : plainArg et = true) (h : xiB Γ.pg Γ.tb sc et ts = true) :
    PE X (.Call (.Name "isinstance" p1) [.Name x p2, et] [] pos) (tE Γ cs W (evE (parN Γ n) (.eisi i ts))) := by
  obtain ⟨g1, g2⟩ := glo_of C hg
  have key : ∀ {p : En0} {F : Hp} {ι : List Addr} {e : En} {m : Mu} {σ : St} {H : Hp} {Q : VK}, Sim Γ cs p F ι e m σ H → K1 Γ cs p F ι σ W (match e[i]? with
      | some (.exc c _) => .opt (((parN Γ n).subs c ts).map .bl) e m
      | _ => .no) (fun d F' ι' _ _ H' => ∀ v, Rep Γ F' ι' v d → Q v H') →
      ∃ (x1 : Cau) (y : Exc) (r : Bool), σ[i]? = some (some (.ref x1.a)) ∧ Γ.pg.exc[x1.c]? = some y ∧ (parN Γ n).subs x1.c ts = some r ∧ (∀ H2, Sim Γ cs p F ι e m σ H2 → Q (.bl r) H2) ∧ ∀ H2, Sim Γ cs p F ι e m σ H2 → ∀ s pins σ', Inv X pins σ' H2 s → ∃ oe od, PySem.W.InstAt s.heap x1.a oe (Γ.xad x1.c) od := by
    intro p F ι e m σ H Q S q
    split at q
    · rename_i c fs he
      obtain ⟨d, hd, q2⟩ := K1.optS q
      obtain ⟨r, hr, rfl⟩ := Option.map_eq_some_iff.mp hd
      obtain ⟨as, re, _⟩ := S.env
      obtain ⟨x1, hx1, hσ, rfl, rx⟩ := re.atExc he
      obtain ⟨_, _, _, _, hy⟩ := C.caus x1 hx1
      obtain ⟨y, hy⟩ := hy
      exact ⟨x1, y, r, hσ, hy, hr, fun H2 S2 => q2 F ι H2 S2 (Ext.refl _ _) _ (.bl r), fun H2 S2 s pins σ' I => by
        obtain ⟨oe, od, J, _⟩ := exc_at C I S2 hx1 rx
        exact ⟨oe, od, J⟩⟩
    · exact q.elim
  unfold xiB at h
  split at h
  · rename_i es x1 x2 ts'
    rw [Bool.and_eq_true] at h
    obtain ⟨h, hlen⟩ := h
    have hlen := of_decide_eq_true hlen
    obtain ⟨b1, b2⟩ := xys_pa T C h
    refine (pe_callB call_xiT g1 (blt_of T C (by decide +kernel)) (by decide +kernel) (pa_cons (pe_slot C hn) (pa_cons (pe_tup b1) pa_nil (star_one hp)) (star_one rfl)) (by decide +kernel) g2 (star_one rfl) (star_any (by simp [noStar, plainArg]))).weak fun σ H Q ⟨p, F, ι, e, m, S, q⟩ => ?_
    obtain ⟨x1, y, r, hσ, hy, hr, hQ, hI⟩ := key S q
    refine ⟨_, hσ, by simp only [List.length_map]; have : sizeLine = 16777216 := sizeLine_eq; omega, fun tp htp => ?_⟩
    have S2 := S.laid (o := .tup (ts.map (xyV Γ))) htp
    have E := (Er.one x1.c y hy).exc
    rw [← C.K] at E
    exact ⟨x1.a, Γ.xad x1.c, tp, ts.map (xyV Γ), ts.map (xyU Γ), r, rfl, upd_same, xcls_all ts, hI _ S2, E, by rw [C.K]; exact kitAny_sub Er hy b2 hr, hQ _ S2⟩
  · rename_i e0 t _
    obtain ⟨b1, b2, _⟩ := xy_pe T C h
    refine (pe_callB call_xi g1 (blt_of T C (by decide +kernel)) (by decide +kernel) (pa_cons (pe_slot C hn) (pa_cons b1 pa_nil (star_one hp)) (star_one rfl)) (by decide +kernel) g2 (star_one rfl) (star_any (by simp [noStar, hp]))).weak fun σ H Q ⟨p, F, ι, e, m, S, q⟩ => ?_
    obtain ⟨x1, y, r, hσ, hy, hr, hQ, hI⟩ := key S q
    have E := (Er.one x1.c y hy).exc
    rw [← C.K] at E
    have hr1 : (parN Γ n).sub x1.c t = some r := by
      unfold Par.subs Par.subs at hr
      cases ht : (parN Γ n).sub x1.c t with
      | none => rw [ht] at hr; cases hr
      | some b =>
        rw [ht] at hr
        cases b <;> exact hr
    exact ⟨_, hσ, x1.a, Γ.xad x1.c, xyV Γ t, xyU Γ t, r, rfl, hI _ S, E, xy_cls t, by rw [C.K]; exact kit_sub Er hy b2 hr1, hQ _ S⟩
  · cases h
end
end G
end
section
set_option Elab.async false
set_option linter.all false
set_option maxRecDepth 100000
set_option maxHeartbeats 1000000
/-! G: dicts; a store to one name. -/
namespace G
open PySem PySem.Spec PyProof.Rows L2
section
variable {Γ : Ge} {cs : List Cau} {p : En0} {F : Hp} {ι : List Addr} {e : En} {m : Mu} {σ : St} {H : Hp} {D : Addr} {o o' : HO}
theorem Sim.unhide2 (S : Sim Γ cs (p.put D o) F ι e m σ H) (hn : p.H D = none) (hf : p.F D = none) (hi : D ∉ p.ι) : Sim Γ cs p F ι e m σ H ∧ H D = some o ∧ Apart p F ι e σ D := by
  have back : ∀ {b : Addr}, upd p.H D o b = none → p.H b = none := fun {b} z => by
    by_cases hb : b = D
    · rw [hb]; exact hn
    · rwa [upd_ne hb] at z
  have some' : upd p.H D o D = some o := upd_same
  have fD : F D = none := by
    cases q : F D with
    | none => rfl
    | some u =>
      rcases S.newF D u q with z | z
      · have z : p.F D = some u := z
        rw [hf] at z; cases z
      · have z : upd p.H D o D = none := z
        rw [some'] at z; cases z
  obtain ⟨as, r, nd, fr, ow⟩ := S.env
  refine ⟨⟨S.sub, S.ext, S.cel, ⟨as, r, nd, fr, fun b hb => back (ow b hb)⟩, fun b u q hb => ?_, fun b u q => (S.newF b u q).imp id back, fun b hb => (S.newC b hb).imp id back, S.slf⟩, ?_, ⟨fD, fun h => ?_, fun h => ?_, hn⟩⟩
  · have hbD : b ≠ D := fun z => by rw [z, hn] at q; cases q
    exact S.keep b u (by show upd p.H D o b = _; rw [upd_ne hbD]; exact q) hb
  · rcases S.keep D o some' hi with z | ⟨ob, _, _, z⟩
    · exact z
    · rw [fD] at z; cases z
  · rcases S.newC D h with z | z
    · exact hi z
    · have z : upd p.H D o D = none := z
      rw [some'] at z; cases z
  · have z : upd p.H D o D = none := ow D (by rw [r.addr]; exact h)
    rw [some'] at z; cases z
theorem K1.under2 {α : Type} {W : WX} {r : R α} {k : α → Hp → List Addr → En → Mu → Hp → Prop} (h : K1 Γ cs p F ι σ W r k) (hn : p.H D = none) (hf : p.F D = none) (hi : D ∉ p.ι) :
    K1 Γ cs (p.put D o) F ι σ W r (fun a F' ι' e' m' H' => Sim Γ cs p F' ι' e' m' σ H' ∧ H' D = some o ∧ Apart p F' ι' e' σ D ∧ k a F' ι' e' m' H') := by
  cases r with
  | ok a e m =>
    intro F' ι' H' S x
    obtain ⟨S', hD, ap⟩ := S.unhide2 hn hf hi
    exact ⟨S', hD, ap, h F' ι' H' S' x⟩
  | ex c fs e m => exact fun dd F' ι' H' S x => h dd F' ι' H' (S.unhide2 hn hf hi).1 x
  | no => exact h
end
/-- the display's readings, pair by pair -/
def trsOf (Γ : Ge) (cs : List Cau) (W : WX) (P : Par) : List Str → C → List (TE × TE)
  | k :: ks, .cons a as => (tC (.str k), tE Γ cs W (evE P a)) :: trsOf Γ cs W P ks as
  | _, _ => []
def lenC : C → Nat → Bool
  | .nil, 0 => true
  | .cons _ as, n + 1 => lenC as n
  | _, _ => false
section
variable {Γ : Ge} {N : List Str} {sc : Scope} {cs : List Cau} {W : WX} {hot : Bool} {k : Nat} {X : Cx} {P : Par} {a b c : C} {ea eb ec : Expr} {pos p1 p2 apos np pos' : Pos}
theorem pairs_of : ∀ {ks : List Str} {a : C} {σ : St} {p : En0} {F : Hp} {ι : List Addr} {e : En} {m : Mu} {H : Hp} {Q : List (V × V) → Hp → Prop}, lenC a ks.length = true → Sim Γ cs p F ι e m σ H →
    K1 Γ cs p F ι σ W (evA P a e m) (fun ds F' ι' _ _ H' => ∀ vs, Reps Γ F' ι' vs ds → Q ((ks.zip vs).map fun q => (V.str q.1, q.2)) H') → tPairs (trsOf Γ cs W P ks a) σ H Q
  | [], a, σ, p, F, ι, e, m, H, Q, h, S, q => by
    cases a <;> first | (simp [lenC] at h; done) | skip
    have q : K1 Γ cs p F ι σ W (.ok [] e m) _ := q
    exact K1.ok q S [] .nil
  | k :: ks, a, σ, p, F, ι, e, m, H, Q, h, S, q => by
    cases a <;> first | (simp [lenC] at h; done) | skip
    rename_i a as
    have h : lenC as ks.length = true := h
    have q : K1 Γ cs p F ι σ W ((evE P a e m).bind fun d e1 m1 => (evA P as e1 m1).bind fun ds e2 m2 => .ok (d :: ds) e2 m2) _ := q
    refine (⟨p, F, ι, e, m, S, q.bind.imp fun d F1 ι1 e1 m1 H1 S1 x1 q1 v rv => ?_⟩ : tE Γ cs W (evE P a) σ H _)
    refine pairs_of h S1 (q1.bind.imp fun ds F2 ι2 e2 m2 H2 S2 x2 q2 vs rs => ?_)
    exact K1.ok q2 S2 (v :: vs) (.cons (rv.mono x2) rs)
theorem len_trs : ∀ {ks : List Str} {a : C}, lenC a ks.length = true → (trsOf Γ cs W P ks a).length = ks.length
  | [], a, h => by cases a <;> rfl
  | k :: ks, a, h => by
    cases a <;> first | (simp [lenC] at h; done) | skip
    exact congrArg (· + 1) (len_trs h)
theorem pps_step {k : Str} {ks : List (Option Expr)} {vs : List Expr} {trs : List (TE × TE)} {j : Nat} {kp : Pos} (ha : PE X ea (tE Γ cs W (evE P a))) (hr : PPs X pos ks vs trs) : PPs X pos (some (.Constant (.str k) j kp) :: ks) (ea :: vs) ((tC (.str k), tE Γ cs W (evE P a)) :: trs) :=
  pps_cons pe_str ha hr
theorem merge_zip : ∀ {ks : List Str} {vs : List V} {acc : List (Key × V)}, (∀ k ∈ ks, ∀ q ∈ acc, q.1 ≠ Sum.inr k) → ks.Nodup → mergeK acc ((ks.map Sum.inr).zip vs) = acc ++ (ks.map Sum.inr).zip vs
  | [], vs, acc, _, _ => by simp [mergeK]
  | k :: ks, [], acc, _, _ => by simp [mergeK]
  | k :: ks, v :: vs, acc, h, nd => by
    have nd' := List.nodup_cons.mp nd
    have hp : putK acc (Sum.inr k) v = acc ++ [(Sum.inr k, v)] := by
      unfold putK
      rw [if_neg]
      intro hz
      obtain ⟨q, hq, e⟩ := List.any_eq_true.mp hz
      exact h k List.mem_cons_self q hq (of_decide_eq_true e)
    show mergeK (putK acc (Sum.inr k) v) ((ks.map Sum.inr).zip vs) = _
    rw [hp, merge_zip (fun k2 hk q hq => ?_) nd'.2]
    · simp
    · rcases List.mem_append.mp hq with hq | hq
      · exact h k2 (List.mem_cons_of_mem _ hk) q hq
      · have : q = (Sum.inr k, v) := by simpa using hq
        rw [this]
        intro z
        cases z
        exact nd'.1 hk
theorem repK_zip {F : Hp} {ι : List Addr} : ∀ {ks : List Key} {vs : List V} {ds : List D}, Reps Γ F ι vs ds → RepK Γ F ι (ks.zip vs) (ks.zip ds)
  | [], _, _, _ => by simpa using RepK.nil
  | k :: ks, _, _, .nil => by simpa using RepK.nil
  | k :: ks, _, _, .cons r t => .cons r (repK_zip t)
/-- {} -/
theorem g_dic0 : PE X (.Dict [] [] pos) (tE Γ cs W (evE P (.dic [] .nil))) := by
  refine pe_dnewK.weak fun σ H Q ⟨p, F, ι, e, m, S, q⟩ => fun D hD => ?_
  have q : K1 Γ cs p F ι σ W (R.ok (G.D.dic []) e m) _ := q
  obtain ⟨S1, x1⟩ := S.alloc (o := .dK []) hD
  exact q _ _ _ S1 x1 _ (.dic upd_same .nil)
/-- {"k": v, ..} -/
theorem g_dic {ks : List Str} {keys : List (Option Expr)} {vals : List Expr} (hl : lenC a ks.length = true) (hk : keys.length = ks.length) (hv : vals.length = ks.length) (hs : keys.all (·.isSome) = true) (h0 : ks ≠ []) (h15 : ks.length ≤ 15) (nd : ks.Nodup) (h : PPs X pos keys vals (trsOf Γ cs W P ks a)) :
    PE X (.Dict keys vals pos) (tE Γ cs W (evE P (.dic ks a))) := by
  refine (pe_disp h hs (by rw [hk, hv]) (fun z => h0 (by rw [z] at hk; exact List.length_eq_zero_iff.mp hk.symm)) (by rw [hk]; exact h15)).weak fun σ H Q ⟨p, F, ι, e, m, S, q⟩ => fun D hD => ?_
  have q : K1 Γ cs p F ι σ W ((evA P a e m).bind fun ds e1 m1 => R.ok (G.D.dic ((ks.map Sum.inr).zip ds)) e1 m1) _ := q
  have A := Apart.new S hD
  have S1 := (S.put (o' := .dK []) A).hide upd_same A
  obtain ⟨bF, bi⟩ := A.base S
  refine pairs_of hl S1 ((q.bind.under2 (o := .dK []) A.pn bF bi).imp fun ds F1 ι1 e1 m1 H1 S2 x1 q1 vs rs => ?_)
  obtain ⟨S3, hD3, A3, q3⟩ := q1
  have e1' : ((ks.zip vs).map fun q => (V.str q.1, q.2)) = ((ks.map (Sum.inr : Str → Key)).zip vs).map fun kv => (kV kv.1, kv.2) := by
    rw [List.zip_map_left, List.map_map]
    rfl
  refine ⟨hD3, (ks.map Sum.inr).zip vs, e1', by rw [List.length_zip, List.length_map]; omega, ?_⟩
  rw [merge_zip (acc := []) (fun _ _ q hq => by cases hq) nd, List.nil_append]
  have S4 := S3.put (o' := .dK ((ks.map Sum.inr).zip vs)) A3
  obtain ⟨S5, x5⟩ := S4.froz upd_same A3.pn A3.fr A3.ce fun as r => ⟨as, r, List.Sublist.refl _, by rw [r.addr]; exact A3.ow⟩
  exact q3 _ _ _ S5 x5 _ (.dic upd_same (repK_zip (rs.mono x5)))
/-- x = e, one name, anywhere -/
theorem s_asg1 {i : Nat} {x : Str} {px : Pos} (C : Here Γ N sc cs W hot k X) (B : HereS X) (ht : tgB N sc (.nm i) (.Name x px) = true) (h2 : noComp ea = true) (ha : PE X ea (tE Γ cs W (evE P a))) : PS X (.Assign [.Name x px] ea pos) (tS Γ cs W (evS P (.asg (.nm i) a))) := by
  simp only [tgB, Bool.and_eq_true, decide_eq_true_eq] at ht
  have l1 : Loc X.env.scope x := by
    rw [C.sc]
    have h := ht.2
    unfold locB at h
    split at h <;> first | exact .inl (by assumption) | exact .inr (by assumption) | cases h
  refine (ps_asg ha (pg_name (by rw [C.nm]; exact C.nd) (by rw [C.nm]; exact ht.1) l1 (.inl (B.fn x))) (soleOk_is h2) (noPair_is (by cases ea <;> rfl)) (by rfl)).weak fun D σ H ⟨p, F, ι, e, m, S, q⟩ => ?_
  have q : KS Γ cs p F ι W ((evE P a e m).bindS _) D := q
  refine ⟨p, F, ι, e, m, S, (KS.bindS q).imp fun d F1 ι1 e1 m1 H1 S1 x1 q1 v r => ?_⟩
  split at q1
  · rename_i e2 h3
    unfold setT at h3
    split at h3
    · cases h3
      exact KS.now q1 (S1.setVal r)
    · cases h3
  · exact q1.elim
/-- d[k] -/
theorem repK_at {F : Hp} {ι : List Addr} {xs : List (Key × V)} {kvs : List (Key × G.D)} {y : G.D} {w : V} {d : G.D} (r : RepK Γ F ι xs kvs) (ry : Rep Γ F ι w y) (h : lookK kvs y = some d) : ∃ k v, w = kV k ∧ valV xs k = some v ∧ Rep Γ F ι v d := by
  cases y <;> first | (simp [lookK] at h; done) | skip
  · rename_i i
    cases ry
    obtain ⟨v, e, rv⟩ := (repK_val (k := .inl i) r).2 d h
    exact ⟨.inl i, v, rfl, e, rv⟩
  · rename_i i
    cases ry
    obtain ⟨v, e, rv⟩ := (repK_val (k := .inr i) r).2 d h
    exact ⟨.inr i, v, rfl, e, rv⟩
theorem noSl {e : Expr} (h : plainIxB e = true) : NoSl e := by
  intro ov iv
  cases e <;> first | rfl | cases h
theorem g_dget {n : Nat} (C : Here Γ N sc cs W hot k X) (hx : plainIxB eb = true) (ha : PE X ea (tO Γ cs W a (evE (parN Γ n) a))) (hb : PE X eb (tE Γ cs W (evE (parN Γ n) b))) : PE X (.Subscript ea eb pos) (tE Γ cs W (evE (parN Γ n) (.dget a b))) := by
  refine (pe_dget (by have := C.unit; omega) ha hb (noSl hx)).weak fun σ H Q ⟨p, F, ι, e, m, S, q⟩ => ?_
  have q : K1 Γ cs p F ι σ W ((evE (parN Γ n) a e m).bind fun x e1 m1 => (evE (parN Γ n) b e1 m1).bind fun y e2 m2 => match objOf a x e2 m2 with
    | some (.dic kvs) => R.opt (lookK kvs y) e2 m2
    | _ => .no) _ := q
  refine ⟨p, F, ι, e, m, S, q.bind.imp fun x F1 ι1 e1 m1 H1 S1 x1 q1 v r => ⟨p, F1, ι1, e1, m1, S1, q1.bind.imp fun y F2 ι2 e2 m2 H2 S2 x2 q2 w rw' => ?_⟩⟩
  split at q2
  · rename_i kvs ho
    obtain ⟨d, hd, q2⟩ := K1.optS q2
    obtain ⟨a1, xs, rfl, h1, rk⟩ := (S2.obj (r.mono x2) ho).dic S2
    obtain ⟨k1, v1, rfl, hv, rv⟩ := repK_at rk rw' hd
    exact ⟨a1, v1, rfl, .inl ⟨xs, k1, h1, rfl, hv.symm⟩, K1.ok q2 S2 v1 rv⟩
  · exact q2.elim
end
end G
end
section
set_option Elab.async false
set_option linter.all false
set_option maxRecDepth 100000
set_option maxHeartbeats 1000000
/-! G: dicts and comprehended lists that this def alone holds; stores into dicts. -/
namespace G
open PySem PySem.Spec PyProof.Rows L2
section
variable {Γ : Ge} {cs : List Cau} {p : En0} {F : Hp} {ι : List Addr} {e : En} {m : Mu} {σ : St} {H : Hp} {D : Addr} {o : HO}
/-- what nobody knows of becomes this def's own -/
theorem Sim.takeOwn {d : G.D} {i : Nat} (S : Sim Γ cs p F ι e m σ H) (A : Apart p F ι e σ D) (r : ORep Γ F ι H D d) (hi : i < e.length) (h0 : 0 < i) : Sim Γ cs p F ι (e.set i (.own d)) m (σ.set i (some (.ref D))) H := by
  obtain ⟨as, q, nd, fr, ow⟩ := S.env
  have na : D ∉ as := by rw [q.addr]; exact A.ow
  have key : ∀ {e : En} {σ : St} {as : List Addr} (i : Nat), EnvR Γ F ι H cs e σ as → i < e.length → as.Nodup → D ∉ as → ∃ as', EnvR Γ F ι H cs (e.set i (.own d)) (σ.set i (some (.ref D))) as' ∧ as'.Nodup ∧ ∀ b ∈ as', b = D ∨ b ∈ as := by
    intro e σ as i x
    induction x generalizing i with
    | nil => intro hi; simp at hi
    | no t ih =>
      intro hi nd hn
      cases i with
      | zero => exact ⟨_, .own r t, List.nodup_cons.mpr ⟨hn, nd⟩, fun b hb => List.mem_cons.mp hb⟩
      | succ i => obtain ⟨b, h1, h2, h3⟩ := ih i (by simpa using hi) nd hn; exact ⟨b, .no h1, h2, h3⟩
    | val rr t ih =>
      intro hi nd hn
      cases i with
      | zero => exact ⟨_, .own r t, List.nodup_cons.mpr ⟨hn, nd⟩, fun b hb => List.mem_cons.mp hb⟩
      | succ i => obtain ⟨b, h1, h2, h3⟩ := ih i (by simpa using hi) nd hn; exact ⟨b, .val rr h1, h2, h3⟩
    | exc mm rr t ih =>
      intro hi nd hn
      cases i with
      | zero => exact ⟨_, .own r t, List.nodup_cons.mpr ⟨hn, nd⟩, fun b hb => List.mem_cons.mp hb⟩
      | succ i => obtain ⟨b, h1, h2, h3⟩ := ih i (by simpa using hi) nd hn; exact ⟨b, .exc mm rr h1, h2, h3⟩
    | own rr t ih =>
      intro hi nd hn
      have nd' := List.nodup_cons.mp nd
      have hn' := hn
      simp only [List.mem_cons, not_or] at hn'
      cases i with
      | zero => exact ⟨_, .own r t, List.nodup_cons.mpr ⟨hn'.2, nd'.2⟩, fun b hb => (List.mem_cons.mp hb).imp id (List.mem_cons_of_mem _)⟩
      | succ i =>
        obtain ⟨b, h1, h2, h3⟩ := ih i (by simpa using hi) nd'.2 hn'.2
        refine ⟨_, .own rr h1, List.nodup_cons.mpr ⟨fun hb => ?_, h2⟩, fun c hc => ?_⟩
        · rcases h3 _ hb with z | z
          · exact hn'.1 z.symm
          · exact nd'.1 z
        · rcases List.mem_cons.mp hc with rfl | hc
          · exact .inr List.mem_cons_self
          · exact (h3 c hc).imp id (List.mem_cons_of_mem _)
  have ndA := (List.nodup_append.mp nd)
  obtain ⟨as', q', nd', mm⟩ := key i q hi ndA.2.1 na
  refine ⟨S.sub, S.ext, S.cel, ⟨as', q', List.nodup_append.mpr ⟨ndA.1, nd', fun b hb c hc' z => ?_⟩, fun b hb => ?_, fun b hb => ?_⟩, S.keep, S.newF, S.newC, fun b hb d2 hd => by
    rw [List.getElem?_set_ne (by omega)] at hd ⊢
    exact S.slf b hb d2 hd⟩
  · subst z
    rcases mm b hc' with z | z
    · exact A.ce (z ▸ hb)
    · exact ndA.2.2 b hb b z rfl
  · rcases List.mem_append.mp hb with z | z
    · exact fr b (List.mem_append_left _ z)
    · rcases mm b z with z | z
      · rw [z]; exact A.fr
      · exact fr b (List.mem_append_right _ z)
  · rcases mm b hb with z | z
    · rw [z]; exact A.pn
    · exact ow b z
theorem Apart.val {i : Nat} {v : V} {d : G.D} (S : Sim Γ cs p F ι e m σ H) (a : Apart p F ι e σ D) (rv : Rep Γ F ι v d) : Apart p F ι (e.set i (.val d)) (σ.set i (some v)) D := by
  obtain ⟨as, r, _⟩ := S.env
  obtain ⟨as', r', sl⟩ := r.setVal rv i
  refine ⟨a.fr, a.ce, fun h => a.ow ?_, a.pn⟩
  rw [← r'.addr] at h
  rw [← r.addr]
  exact sl.mem h
theorem Sim.restoreA {e0 : En} {F0 : Hp} {ι0 : List Addr} {as0 : List Addr} {H0 : Hp} (r0 : EnvR Γ F0 ι0 H0 cs e0 σ as0) (x0 : Ext F0 ι0 F ι) : ∀ {vs : List Nat} {e : En}, vs.Nodup → Sim Γ cs p F ι e m (L2.wipe σ vs) H → Apart p F ι e (L2.wipe σ vs) D → Apart p F ι (G.restore vs e0 e) σ D
  | [], e, _, _, A => A
  | i :: r, e, nd, S, A => by
    have nd' := List.nodup_cons.mp nd
    show Apart p F ι (G.restore r e0 (e.set i (match e0[i]? with
      | some (.val d) => .val d
      | _ => .no))) σ D
    have S : Sim Γ cs p F ι e m ((L2.wipe σ r).set i none) H := S
    have A : Apart p F ι e ((L2.wipe σ r).set i none) D := A
    by_cases hi : i < σ.length
    · have hs : (L2.wipe σ r)[i]? = some σ[i] := by rw [wipe_at nd'.1]; exact List.getElem?_eq_getElem hi
      split
      · rename_i d hd
        obtain ⟨v, e1, rv⟩ := r0.atVal hd
        have e2 : σ[i] = some v := by
          rw [List.getElem?_eq_getElem hi] at e1
          exact Option.some.inj e1
        rw [e2] at hs
        have S' := S.setVal (i := i) (rv.mono x0)
        have A' := A.val (i := i) S (rv.mono x0)
        rw [set_back hs] at S' A'
        exact Sim.restoreA r0 x0 nd'.2 S' A'
      · have S' := S.setNo (i := i) (v := σ[i])
        have A' := Apart.no (i := i) (v := σ[i]) S A
        rw [set_back hs] at S' A'
        exact Sim.restoreA r0 x0 nd'.2 S' A'
    · have hl : σ.length ≤ i := by omega
      have e1 : (L2.wipe σ r).set i none = L2.wipe σ r := List.set_eq_of_length_le (by rw [wipe_length]; exact hl)
      rw [e1] at S A
      have hlen : e.length ≤ i := by
        obtain ⟨as, q, _⟩ := S.env
        rw [q.length, wipe_length]
        exact hl
      rw [List.set_eq_of_length_le hlen]
      exact Sim.restoreA r0 x0 nd'.2 S A
end
section
variable {Γ : Ge} {N : List Str} {sc : Scope} {cs : List Cau} {W : WX} {hot : Bool} {k : Nat} {X : Cx} {P : Par} {a b c : C} {ea eb ec : Expr} {pos p1 p2 apos : Pos} {tg : Expr}
def ownS (i : Nat) (d : G.D) (e1 : En) (m1 : Mu) : RS := if i < e1.length ∧ 0 < i then .nx (e1.set i (.own d)) m1 else .no
/-- x = {"k": v, ..}, a dict that this def alone holds -/
theorem s_ownD {i : Nat} {x : Str} {px spos : Pos} {ks : List Str} {keys : List (Option Expr)} {vals : List Expr} (C : Here Γ N sc cs W false k X) (B : HereS X) (ht : tgB N sc (.nm i) (.Name x px) = true) (hl : lenC a ks.length = true) (hk : keys.length = ks.length) (hv : vals.length = ks.length) (hs : keys.all (·.isSome) = true) (h0 : ks ≠ []) (h15 : ks.length ≤ 15) (nd : ks.Nodup) (h : PPs X pos keys vals (trsOf Γ cs W P ks a)) :
    PS X (.Assign [.Name x px] (.Dict keys vals pos) spos) (tS Γ cs W fun e m => (evA P a e m).bindS fun ds e1 m1 => ownS i (.dic ((ks.map Sum.inr).zip ds)) e1 m1) := by
  simp only [tgB, Bool.and_eq_true, decide_eq_true_eq] at ht
  obtain ⟨l1, l2⟩ := (C.tgt B).st x ht.2
  refine (ps_set (by rw [C.nm]; exact C.nd) (by rw [C.nm]; exact ht.1) l1 (pe_disp h hs (by rw [hk, hv]) (fun z => h0 (by rw [z] at hk; exact List.length_eq_zero_iff.mp hk.symm)) (by rw [hk]; exact h15)) rfl l2).weak fun D σ H ⟨p, F, ι, e, m, S, q⟩ => ?_
  intro D1 hD
  have q : KS Γ cs p F ι W ((evA P a e m).bindS _) D := q
  have A := Apart.new S hD
  have S1 := (S.put (o' := .dK []) A).hide upd_same A
  obtain ⟨bF, bi⟩ := A.base S
  refine pairs_of hl S1 (((KS.bindS q).under2 (o := .dK []) A.pn bF bi).imp fun ds F1 ι1 e1 m1 H1 S2 x1 q1 vs rs => ?_)
  obtain ⟨S3, hD3, A3, q3⟩ := q1
  have e1' : ((ks.zip vs).map fun q => (V.str q.1, q.2)) = ((ks.map (Sum.inr : Str → Key)).zip vs).map fun kv => (kV kv.1, kv.2) := by
    rw [List.zip_map_left, List.map_map]
    rfl
  refine ⟨hD3, (ks.map Sum.inr).zip vs, e1', by rw [List.length_zip, List.length_map]; omega, ?_⟩
  rw [merge_zip (acc := []) (fun _ _ q hq => by cases hq) nd, List.nil_append]
  have S4 := S3.put (o' := .dK ((ks.map Sum.inr).zip vs)) A3
  unfold ownS at q3
  split at q3
  · rename_i hi
    exact KS.now q3 (S4.takeOwn A3 (.dic upd_same (repK_zip rs)) hi.1 hi.2)
  · exact q3.elim
theorem lc_readO {t : Tg} {vs : List Nat} {i : Nat} (nd : vs.Nodup) (hto : ∀ i ∈ tgIx t, i ∈ vs) {σ : St} {H : Hp} {D : Ends} (h : tS Γ cs W (fun e m => (evE P (.lc b t a c vs) e m).bindS fun d e1 m1 => ownS i d e1 m1) D σ H) : tLc (tI Γ cs W (evI P a)) (gTg Γ cs t) (tT Γ cs WF (evT P c)) (tE Γ cs WF (evE P b)) vs σ H (fun x H1 => gName i x σ H1 D.nx) := by
  obtain ⟨p, F, ι, e, m, S, q⟩ := h
  have q : KS Γ cs p F ι W (((evI P a e m).bind fun w e1 m1 => (foldR (turnR P b t c vs) w [] (wipeE vs e1) m1).nox.bind fun ys e6 m6 => R.ok (G.D.lst ys) (restore vs e1 e6) m6).bindS fun d e1 m1 => ownS i d e1 m1) D := q
  have q : KS Γ cs p F ι W ((evI P a e m).bindS fun w e1 m1 => ((foldR (turnR P b t c vs) w [] (wipeE vs e1) m1).nox.bind fun ys e6 m6 => R.ok (G.D.lst ys) (restore vs e1 e6) m6).bindS fun d e1 m1 => ownS i d e1 m1) D := by
    have e2 : ∀ (r : R (List G.D)) (f : List G.D → En → Mu → R G.D) (g : G.D → En → Mu → RS), (r.bind f).bindS g = r.bindS fun w e1 m1 => (f w e1 m1).bindS g := fun r f g => by cases r <;> rfl
    rw [← e2]
    exact q
  refine ⟨p, F, ι, e, m, S, (KS.bindS q).imp fun ds F1 ι1 e1 m1 H1 S1 x1 q1 J hJ D1 hD => ?_⟩
  obtain ⟨ys, e6, m6, hr, q2⟩ : ∃ ys e6 m6, foldR (turnR P b t c vs) ds [] (wipeE vs e1) m1 = .ok ys e6 m6 ∧ KS Γ cs p F1 ι1 W (ownS i (G.D.lst ys) (restore vs e1 e6) m6) D := by
    cases hr : foldR (turnR P b t c vs) ds [] (wipeE vs e1) m1 with
    | ok ys e6 m6 => exact ⟨ys, e6, m6, rfl, by rw [hr] at q1; exact q1⟩
    | ex c fs e6 m6 => rw [hr] at q1; exact q1.elim
    | no => rw [hr] at q1; exact q1.elim
  have Sb := S1.wipe vs
  have ap := Apart.new Sb hD
  refine ⟨fun i n H => n = ds.length - i ∧ ∃ F2 ι2 e2 m2 acc accV, Sim Γ cs p F2 ι2 e2 m2 (L2.wipe σ vs) H ∧ Ext F1 ι1 F2 ι2 ∧ H D1 = some (.lst accV) ∧ Reps Γ F2 ι2 accV acc ∧ Apart p F2 ι2 e2 (L2.wipe σ vs) D1 ∧ foldR (turnR P b t c vs) (ds.drop i) acc e2 m2 = .ok ys e6 m6,
    ⟨_, rfl, F1, ι1, _, _, [], [], Sb.laid hD, Ext.refl _ _, upd_same, .nil, ap, hr⟩, ?_⟩
  rintro j n H2 ⟨rfl, F2, ι2, e2, m2, acc, accV, S2, x2, hHD, rA, ap2, hf⟩
  obtain ⟨w1, w2⟩ := hJ cs p _ j e2 m2 H2 F2 ι2 S2 x2
  by_cases hl : j < ds.length
  · obtain ⟨go, yl⟩ := w1 _ (List.getElem?_eq_getElem hl)
    rw [List.drop_eq_getElem_cons hl] at hf
    obtain ⟨acc1, e3, m3, ht1, hf1⟩ := bind_okI hf
    unfold turnR at ht1
    cases hst : setT t ds[j] e2 with
    | none => rw [hst] at ht1; cases ht1
    | some e3' =>
      rw [hst] at ht1
      obtain ⟨bb, e4, m4, hb1, ht2⟩ := bind_okI ht1
      refine .inr ⟨go, fun H' => ∃ F3 ι3 accV', Sim Γ cs p F3 ι3 e3 m3 (L2.wipe σ vs) H' ∧ Ext F1 ι1 F3 ι3 ∧ H' D1 = some (.lst accV') ∧ Reps Γ F3 ι3 accV' acc1 ∧ Apart p F3 ι3 e3 (L2.wipe σ vs) D1,
        fun H' ⟨F3, ι3, accV', S3, x3, h3, r3, a3⟩ => ⟨ds.length - (j + 1), by omega, rfl, F3, ι3, e3, m3, acc1, accV', S3, x3, h3, r3, a3, hf1⟩, fun x H' y => ?_⟩
      obtain ⟨rfl, rx⟩ := yl x H' y
      obtain ⟨bF, bi⟩ := ap2.base S2
      refine ⟨p.put D1 (.lst accV), F2, ι2, e2, m2, _, e3', S2.hide hHD ap2, rx, hst, fun σ2 S' sb => ?_⟩
      have hw : L2.wipe σ2 vs = L2.wipe σ vs := (sb vs hto).trans (wipe_wipe fun _ h => h)
      refine ⟨hw, p.put D1 (.lst accV), F2, ι2, e3', m2, S', ?_⟩
      rw [hb1]
      intro F3 ι3 H3 S3 x3
      cases bb with
      | true =>
        have ht2 : ((evE P b e4 m4).bind fun y e5 m5 => pushR vs acc y e5 m5) = .ok acc1 e3 m3 := ht2
        obtain ⟨y, e5, m5, hy, hp⟩ := bind_okI ht2
        unfold pushR at hp
        split at hp
        · rename_i hlen
          injection hp with h1 h2 h3
          subst h1 h2 h3
          rw [if_pos rfl]
          refine ⟨p.put D1 (.lst accV), F3, ι3, e4, m4, S3, ?_⟩
          rw [hy]
          intro F4 ι4 H4 S4 x4 v rv
          obtain ⟨S4', hD4, a4⟩ := S4.unhide ap2.pn bF bi rfl
          refine ⟨accV, hD4, by rw [rA.length, ← sizeL_eq]; exact hlen, F4, ι4, accV ++ [v], ?_, (x2.trans x3).trans x4, upd_same, ((rA.mono x3).mono x4).append (.cons rv .nil), ?_⟩
          · have := (S4'.put (o' := .lst (accV ++ [v])) a4).wipe vs
            rwa [hw] at this
          · have := a4.wipe S4' vs
            rwa [hw] at this
        · cases hp
      | false =>
        have ht2 : (.ok acc (wipeE vs e4) m4 : R (List G.D)) = .ok acc1 e3 m3 := ht2
        injection ht2 with h1 h2 h3
        subst h1 h2 h3
        rw [if_neg Bool.false_ne_true]
        obtain ⟨S3', hD3, a3⟩ := S3.unhide ap2.pn bF bi rfl
        refine ⟨F3, ι3, accV, ?_, x2.trans x3, hD3, rA.mono x3, ?_⟩
        · have := S3'.wipe vs
          rwa [hw] at this
        · have := a3.wipe S3' vs
          rwa [hw] at this
  · rw [List.drop_of_length_le (by omega)] at hf
    have hf : (.ok acc e2 m2 : R (List G.D)) = .ok ys e6 m6 := hf
    injection hf with h1 h2 h3
    subst h1 h2 h3
    refine .inl ⟨w2 (by omega), ?_⟩
    obtain ⟨as0, r0, _⟩ := S1.env
    have S4 := Sim.restore r0 x2 nd S2
    have A4 := Sim.restoreA r0 x2 nd S2 ap2
    have q3 := q2.from x2
    unfold ownS at q3
    split at q3
    · rename_i hi
      exact KS.now q3 (S4.takeOwn A4 (.lst hHD rA) hi.1 hi.2)
    · exact q3.elim
/-- name = [..], a list that this def alone holds -/
theorem s_ownLc {i : Nat} {y : Str} {py : Pos} {t : Tg} {it elt : Expr} {ifs : List Expr} {scope : Scope} {own : List (Str × Nat)} {spos : Pos} (Ch : Here Γ N sc cs W false k X) (B : HereS X) (hy : N[i]? = some y) (hyl : sc.names.lookup y = some .local) (hs : noSet it = true) (hi : PI X tg it (tI Γ cs W (evI P a))) (ok : BlkOk N sc scope own) (nd : (own.map (·.2)).Nodup)
    (hsw : (py.line == pos.line) = true ∧ (scope.names.any fun (n, k) => n == y && (k == .local || k == .cell)) = false) (ht : tgB N scope t tg = true) (hto : ∀ i ∈ tgIx t, i ∈ own.map (·.2))
    (hc : ∀ Xb, Here Γ N (relS scope sc) cs WF false k Xb → PTs Xb ifs (tT Γ cs WF (evT P c))) (he : ∀ Xb, Here Γ N (relS scope sc) cs WF false k Xb → PE Xb elt (tE Γ cs WF (evE P b))) (hbk : X.env.blockKind = .function) :
    PS X (.Assign [.Name y py] (.ListComp elt [⟨tg, it, ifs, 0⟩] scope pos) spos) (tS Γ cs W fun e m => (evE P (.lc b t a c (own.map (·.2))) e m).bindS fun d e1 m1 => ownS i d e1 m1) := by
  have hk : X.env.kindOf y = some .local := by
    show X.env.scope.names.lookup y = _
    rw [Ch.sc]
    exact hyl
  have hsw' : swapsWith (.ListComp elt [⟨tg, it, ifs, 0⟩] scope pos) (some (.Name y py)) spos.line X.env = pure true := by
    show (pure (X.env.blockKind == .function && X.env.kindOf y == some .local && py.line == pos.line && !(scope.names.any fun (n, k) => n == y && (k == .local || k == .cell))) : Sem Bool) = _
    rw [hbk, hk, hsw.1, hsw.2]
    rfl
  exact (ps_setLc (Ch.calm rfl) (by rw [Ch.nm]; exact Ch.nd) (by rw [Ch.nm]; exact hy) hk hsw' hi (by rw [Ch.nm, Ch.sc]; exact ok) (fun s H Cc cl fp => pg_of (cs := cs) (tgt_blk Ch s H scope Cc cl fp) Ch.K ht) (fun s H Cc cl fp => hc _ (Ch.blk s H scope Cc cl fp)) (fun s H Cc cl fp => he _ (Ch.blk s H scope Cc cl fp)) (fun _ => fold_no hs)).weak fun D σ H h => lc_readO nd hto h
end
end G
end
section
set_option Elab.async false
set_option linter.all false
set_option maxRecDepth 100000
set_option maxHeartbeats 1000000
/-! G: a text's expression is this core expression: a boolean check, and what it shows. -/
namespace G
open PySem PySem.Spec PyProof.Rows L2
def ownN (N : List Str) (own : List Nat) : List (Str × Nat) := own.map fun i => ((N[i]?).getD Str.empty, i)
def blkB (N : List Str) (sc scope : Scope) (own : List Nat) : Bool :=
  decide (scope.kind = .function) && scope.names.all (fun y => decide (scope.names.lookup y.1 = some y.2)) && own.all (fun i => decide (i < N.length)) &&
  scope.names.all (fun y => decide (y.2 ≠ .free) || decide (sc.names.lookup y.1 = some .cell) || decide (sc.names.lookup y.1 = some .free)) &&
  scope.names.all (fun y => (decide (y.2 ≠ .local) && decide (y.2 ≠ .cell)) || (ownN N own).any (fun p => decide (p.1 = y.1)) || !N.any (fun x => decide (x = y.1))) && decide own.Nodup
theorem ownN_snd (N : List Str) (own : List Nat) : (ownN N own).map (·.2) = own := by
  unfold ownN
  rw [List.map_map]
  exact List.map_id own
theorem blk_ok {N : List Str} {sc scope : Scope} {own : List Nat} (h : blkB N sc scope own = true) : BlkOk N sc scope (ownN N own) ∧ ((ownN N own).map (·.2)).Nodup := by
  unfold blkB at h
  simp only [Bool.and_eq_true, decide_eq_true_eq, List.all_eq_true, Bool.or_eq_true, Bool.not_eq_true'] at h
  obtain ⟨⟨⟨⟨⟨h1, h2⟩, h3⟩, h4⟩, h5⟩, h6⟩ := h
  refine ⟨⟨h1, fun y hy => h2 y hy, fun p hp => ?_, fun y hy e => ?_, fun y hy e => ?_⟩, by rw [ownN_snd]; exact h6⟩
  · obtain ⟨i, hi, rfl⟩ := List.mem_map.mp hp
    have := h3 i hi
    show N[i]? = some ((N[i]?).getD Str.empty)
    rw [List.getElem?_eq_getElem this]
    rfl
  · rcases h4 y hy with (q | q) | q
    · exact absurd e q
    · exact .inl q
    · exact .inr q
  · rcases h5 y hy with (⟨q1, q2⟩ | q) | q
    · rcases e with e | e
      · exact absurd e q1
      · exact absurd e q2
    · obtain ⟨p, hp, e2⟩ := List.any_eq_true.mp q
      exact .inl (List.mem_map.mpr ⟨p, hp, of_decide_eq_true e2⟩)
    · refine .inr fun hm => ?_
      rw [List.any_eq_false] at q
      exact absurd (decide_eq_true rfl) (q y.1 hm)
def isYes : C → Bool
  | .tru (.cst (.bl true)) => true
  | _ => false
def is0 : C → Bool
  | .cst (.int 0) => true
  | _ => false
def is1 : C → Bool
  | .cst (.int 1) => true
  | _ => false
section
variable (G : Pg) (tb : Tb) (N : List Str) (hot : Bool)
mutual
def chkE : C → Scope → Expr → Bool
  | .cst d, _, e => match e with
    | .Constant co _ _ => cstB d co
    | _ => false
  | .loc i, sc, e => match e with
    | .Name x _ => nameB N sc i x
    | _ => false
  | .pk i, sc, e => match e with
    | .Name x _ => nameB N sc i x
    | _ => false
  | .glb i, sc, e => match e with
    | .Name x _ => gloB sc x && decide (x = tb.g i)
    | _ => false
  | .bin op a b, sc, e => match e with
    | .BinOp ea op' eb _ => decide (op = op') && (!a.isPk && (!b.isPk && (chkE a sc ea && chkE b sc eb)))
    | _ => false
  | .un op a, sc, e => match e with
    | .UnaryOp op' ea _ => decide (op = op') && (!a.isPk && chkE a sc ea)
    | _ => false
  | .cmp op a b, sc, e => match e with
    | .Compare ea [op'] [eb] _ => decide (op = op') && (noSet eb && (!a.isPk && (!b.isPk && (chkE a sc ea && chkE b sc eb))))
    | _ => false
  | .chn o1 o2 a b c, sc, e => match e with
    | .Compare ea [p1, p2] [eb, ec] _ => decide (o1 = p1) && (decide (o2 = p2) && (noSet ec && (!a.isPk && (!b.isPk && (!c.isPk && (chkE a sc ea && (chkE b sc eb && chkE c sc ec)))))))
    | _ => false
  | .isN neg a, sc, e => match e with
    | .Compare ea [op] [.Constant .none _ _] _ => decide (op = if neg then .IsNot else .Is) && (!a.isPk && chkE a sc ea)
    | _ => false
  | .isB neg v a, sc, e => match e with
    | .Compare ea [op] [.Constant (.bool w) _ _] _ => decide (op = if neg then .IsNot else .Is) && (decide (v = w) && (!a.isPk && chkE a sc ea))
    | _ => false
  | .and_ a b, sc, e => match e with
    | .BoolOp .And [ea, eb] _ => !a.isPk && (!b.isPk && (chkE a sc ea && chkE b sc eb))
    | .BoolOp .And (ea :: eb :: ec :: es) pos => !a.isPk && (!b.isPk && (chkE a sc ea && chkE b sc (.BoolOp .And (eb :: ec :: es) pos)))
    | _ => false
  | .or_ a b, sc, e => match e with
    | .BoolOp .Or [ea, eb] _ => !a.isPk && (!b.isPk && (chkE a sc ea && chkE b sc eb))
    | .BoolOp .Or (ea :: eb :: ec :: es) pos => !a.isPk && (!b.isPk && (chkE a sc ea && chkE b sc (.BoolOp .Or (eb :: ec :: es) pos)))
    | _ => false
  | .not_ a, sc, e => match e with
    | .UnaryOp .Not ea _ => chkE a sc ea
    | _ => false
  | .ite c a b, sc, e => match e with
    | .IfExp ec ea eb _ => !a.isPk && (!b.isPk && (chkT c sc ec && (chkE a sc ea && chkE b sc eb)))
    | _ => false
  | .tup as, sc, e => match e with
    | .Tuple es _ _ => chkA as sc es
    | _ => false
  | .lst as, sc, e => match e with
    | .List es _ => chkA as sc es
    | _ => false
  | .newc as, sc, e => match e with
    | .List es _ => chkA as sc es
    | _ => false
  | .dic ks as, sc, e => match e with
    | .Dict keys vals _ => chkD as sc ks keys vals && (decide ks.Nodup && decide (ks.length ≤ 15))
    | _ => false
  | .call fo as ks, sc, e => match e with
    | .Call (.Name x _) es kws _ => (match G.fos[fo]? with
      | some f => gloB sc x && (decide (x = tb.f f.f) && (noStar es && (decide (kwNames kws = some f.ks) && (chkA as sc es && chkK ks sc kws))))
      | none => false)
    | _ => false
  | .make fo as ks, sc, e => match e with
    | .Call (.Name x _) es kws _ => (match G.mfos[fo]? with
      | some f => (G.cls[f.f]?).isSome && (gloB sc x && (decide (x = tb.c f.f) && (noStar es && (decide (kwNames kws = some f.ks) && (chkA as sc es && chkK ks sc kws)))))
      | none => false)
    | _ => false
  | .meth o m as, sc, e => match e with
    | .Call (.Attribute eo nm apos) es [] pos => decide (m = nm) && (!o.isPk && (noSuper eo && (fewB es [] apos pos && (chkE o sc eo && chkA as sc es))))
    | _ => false
  | .att o f, sc, e => match e with
    | .Attribute eo nm _ => decide (f = nm) && (noSuper eo && chkE o sc eo)
    | _ => false
  | .b1 f a, sc, e => match e with
    | .Call (.Name x _) [ea] [] _ => !hot && (decide (b1N f = some x) && (gloB sc x && (plainArg ea && chkE a sc ea)))
    | _ => false
  | .b2 f a b, sc, e => match e with
    | .Call (.Name x _) [ea, eb] [] _ => !hot && (decide (x = (match f with | .max => "max" | .min => "min")) && (gloB sc x && (noStar [ea, eb] && (!a.isPk && (!b.isPk && (chkE a sc ea && chkE b sc eb))))))
    | _ => false
  | .m0 f o, sc, e => match f, e with
    | .upper, .Call (.Attribute eo nm apos) [] [] pos => decide (nm = "upper") && (noSuper eo && ((apos.endLine == pos.line) && (!o.isPk && chkE o sc eo)))
    | _, _ => false
  | .m1 f o a, sc, e => match e with
    | .Call (.Attribute eo nm apos) [ea] [] pos => decide (some nm = (match f with
      | .join => some "join" | .startswith => some "startswith" | .strip => some "strip" | .count => some "count" | _ => none)) && (noSuper eo && ((apos.endLine == pos.line) && (plainArg ea && (!o.isPk && (chkE o sc eo && chkE a sc ea)))))
    | _ => false
  | .ix a b, sc, e => match e with
    | .Subscript ea eb _ => plainIxB eb && (!b.isPk && (chkE a sc ea && chkE b sc eb))
    | _ => false
  | .dget a b, sc, e => match e with
    | .Subscript ea eb _ => plainIxB eb && (!b.isPk && (chkE a sc ea && chkE b sc eb))
    | _ => false
  | .sl a lo hi, sc, e => match e with
    | .Subscript ea (.Slice l h none _) _ => rd3 lo l && (rd3 hi h && (!lo.isPk && (!hi.isPk && (chkE a sc ea && ((match l with
        | some x => chkE lo sc x
        | none => true) && (match h with
        | some x => chkE hi sc x
        | none => true))))))
    | _ => false
  | .isi a ts, sc, e => match e with
    | .Call (.Name x _) [ea, et] [] _ => decide (x = "isinstance") && (gloB sc x && (noStar [ea, et] && (!ts.isEmpty && (isiB G tb sc et ts && chkE a sc ea))))
    | _ => false
  | .efld i f, sc, e => match e with
    | .Attribute (.Name x _) nm _ => decide (f = nm) && (nameB N sc i x && decide (f ∈ xFlds G))
    | _ => false
  | .eisi i ts, sc, e => match e with
    | .Call (.Name x _) [.Name y _, et] [] _ => decide (x = "isinstance") && (gloB sc x && (nameB N sc i y && (plainArg et && xiB G tb sc et ts)))
    | _ => false
  | .lc elt t it cond own, sc, e => match e with
    | .ListComp elt' [⟨tg, it', ifs, 0⟩] scope _ => !hot && (noSet it' && (blkB N sc scope own && (tgB N scope t tg && ((tgIx t).all (fun i => decide (i ∈ own)) && (chkI it sc it' && ((match ifs with
        | [] => isYes cond
        | [c] => chkT cond (relS scope sc) c
        | _ => false) && (!elt.isPk && chkE elt (relS scope sc) elt')))))))
    | _ => false
  | .lc2 elt t it t2 it2 cond own own2, sc, e => match e with
    | .ListComp elt' [⟨tg, it', [], 0⟩, ⟨tg1, it1', ifs, 0⟩] scope _ => !hot && (noSet it' && (noSet it1' && (blkB N sc scope own && (own2.all (fun i => decide (i ∈ own)) && (tgB N scope t tg && ((tgIx t).all (fun i => decide (i ∈ own)) && (tgB N scope t2 tg1 && ((tgIx t2).all (fun i => decide (i ∈ own2)) && (chkI it sc it' && (chkI it2 (relS scope sc) it1' && ((match ifs with
        | [] => isYes cond
        | [c] => chkT cond (relS scope sc) c
        | _ => false) && (!elt.isPk && chkE elt (relS scope sc) elt'))))))))))))
    | _ => false
  | _, _, _ => false
def chkT : C → Scope → Expr → Bool
  | .and_ a b, sc, e => match e with
    | .BoolOp .And [ea, eb] _ => chkT a sc ea && chkT b sc eb
    | .BoolOp .And (ea :: eb :: ec :: es) pos => chkT a sc ea && chkT b sc (.BoolOp .And (eb :: ec :: es) pos)
    | _ => false
  | .or_ a b, sc, e => match e with
    | .BoolOp .Or [ea, eb] _ => chkT a sc ea && chkT b sc eb
    | .BoolOp .Or (ea :: eb :: ec :: es) pos => chkT a sc ea && chkT b sc (.BoolOp .Or (eb :: ec :: es) pos)
    | _ => false
  | .not_ a, sc, e => match e with
    | .UnaryOp .Not ea _ => chkT a sc ea
    | _ => false
  | .ite c a b, sc, e => match e with
    | .IfExp ec ea eb _ => chkT c sc ec && (chkT a sc ea && chkT b sc eb)
    | _ => false
  | .cmp op a b, sc, e => match e with
    | .Compare ea [op'] [eb] _ => decide (op = op') && (noSet eb && (!a.isPk && (!b.isPk && (chkE a sc ea && chkE b sc eb))))
    | _ => false
  | .chn o1 o2 a b c, sc, e => match e with
    | .Compare ea [p1, p2] [eb, ec] _ => decide (o1 = p1) && (decide (o2 = p2) && (noSet ec && (!a.isPk && (!b.isPk && (!c.isPk && (chkE a sc ea && (chkE b sc eb && chkE c sc ec)))))))
    | _ => false
  | .isN neg a, sc, e => match e with
    | .Compare ea [op] [.Constant .none _ _] _ => decide (op = if neg then .IsNot else .Is) && (!a.isPk && chkE a sc ea)
    | _ => false
  | .isB neg v a, sc, e => match e with
    | .Compare ea [op] [.Constant (.bool w) _ _] _ => decide (op = if neg then .IsNot else .Is) && (decide (v = w) && (!a.isPk && chkE a sc ea))
    | _ => false
  | .tru a, sc, e => plainTest e && chkE a sc e
  | _, _, _ => false
def chkA : C → Scope → List Expr → Bool
  | .nil, _, es => es.isEmpty
  | .cons a as, sc, es => match es with
    | e :: es => plainArg e && (!a.isPk && (chkE a sc e && chkA as sc es))
    | [] => false
  | _, _, _ => false
def chkK : C → Scope → List Keyword → Bool
  | .nil, _, ks => ks.isEmpty
  | .cons a as, sc, ks => match ks with
    | ⟨_, e, _⟩ :: ks => !a.isPk && (chkE a sc e && chkK as sc ks)
    | [] => false
  | _, _, _ => false
def chkD : C → Scope → List Str → List (Option Expr) → List Expr → Bool
  | .nil, _, ks, keys, vals => ks.isEmpty && (keys.isEmpty && vals.isEmpty)
  | .cons a as, sc, ks, keys, vals => match ks, keys, vals with
    | k :: ks, some (.Constant (.str k') _ _) :: keys, v :: vals => decide (k = k') && (!a.isPk && (chkE a sc v && chkD as sc ks keys vals))
    | _, _, _ => false
  | _, _, _, _, _ => false
def chkI : C → Scope → Expr → Bool
  | .wk c, sc, e => !c.isPk && chkE c sc e
  | .rng a b s, sc, e => match e with
    | .Call (.Name x _) [eb] [] _ => decide (x = "range") && (gloB sc x && (plainArg eb && (!b.isPk && (is0 a && (is1 s && chkE b sc eb)))))
    | .Call (.Name x _) [ea, eb] [] _ => decide (x = "range") && (gloB sc x && (noStar [ea, eb] && (!a.isPk && (!b.isPk && (is1 s && (chkE a sc ea && chkE b sc eb))))))
    | .Call (.Name x _) [ea, eb, ec] [] _ => decide (x = "range") && (gloB sc x && (noStar [ea, eb, ec] && (!a.isPk && (!b.isPk && (!s.isPk && (chkE a sc ea && (chkE b sc eb && chkE s sc ec)))))))
    | _ => false
  | _, _, _ => false
end
end
end G
end
section
set_option Elab.async false
set_option linter.all false
set_option maxRecDepth 100000
set_option maxHeartbeats 4000000
/-! G: the check of an expression is right. -/
namespace G
open PySem PySem.Spec PyProof.Rows L2
theorem ba2 {a b : Bool} (h : (a && b) = true) : a = true ∧ b = true := Bool.and_eq_true_iff.mp h
theorem nb {a : Bool} (h : (!a) = true) : a = false := by cases a <;> first | rfl | cases h
/-- what the checks of c show -/
structure Snd (Γ : Ge) (N : List Str) (c : C) : Prop where
  e : ∀ {hot n sc cs W X e}, Here Γ N sc cs W hot (3 * n + 2) X → Lib Γ n → chkE Γ.pg Γ.tb N hot c sc e = true → PE X e (tO Γ cs W c (evE (parN Γ n) c))
  t : ∀ {hot n sc cs W X e}, Here Γ N sc cs W hot (3 * n + 2) X → Lib Γ n → chkT Γ.pg Γ.tb N hot c sc e = true → PT X e (tT Γ cs W (evT (parN Γ n) c)) ∧ ∀ op es pos, e = .BoolOp op es pos → PW X e (tT Γ cs W (evT (parN Γ n) c))
  a : ∀ {hot n sc cs W X es}, Here Γ N sc cs W hot (3 * n + 2) X → Lib Γ n → chkA Γ.pg Γ.tb N hot c sc es = true → PA X es (tA Γ cs W (evA (parN Γ n) c)) ∧ (es = [] → c = .nil)
  k : ∀ {hot n sc cs W X ks}, Here Γ N sc cs W hot (3 * n + 2) X → Lib Γ n → chkK Γ.pg Γ.tb N hot c sc ks = true → PK X ks (tA Γ cs W (evA (parN Γ n) c)) ∧ (ks = [] → c = .nil)
  d : ∀ {hot n sc cs W X pos ks keys vals}, Here Γ N sc cs W hot (3 * n + 2) X → Lib Γ n → chkD Γ.pg Γ.tb N hot c sc ks keys vals = true →
    PPs X pos keys vals (trsOf Γ cs W (parN Γ n) ks c) ∧ lenC c ks.length = true ∧ keys.length = ks.length ∧ vals.length = ks.length ∧ keys.all (·.isSome) = true ∧ (ks = [] → c = .nil ∧ keys = [] ∧ vals = [])
  i : ∀ {hot n sc cs W X tg e}, Here Γ N sc cs W hot (3 * n + 2) X → Lib Γ n → chkI Γ.pg Γ.tb N hot c sc e = true → PI X tg e (tI Γ cs W (evI (parN Γ n) c))
section
variable {Γ : Ge} {N : List Str} {c a b : C}
theorem Snd.e1 (S : Snd Γ N c) (hp : c.isPk = false) {hot : Bool} {n : Nat} {sc : Scope} {cs : List Cau} {W : WX} {X : Cx} {e : Expr} (C : Here Γ N sc cs W hot (3 * n + 2) X) (L : Lib Γ n) (h : chkE Γ.pg Γ.tb N hot c sc e = true) : PE X e (tE Γ cs W (evE (parN Γ n) c)) :=
  e_of (S.e C L h) hp
/-- an expression alone -/
theorem snd_e (ht : ∀ hot sc e, chkT Γ.pg Γ.tb N hot c sc e = false) (ha : ∀ hot sc e, chkA Γ.pg Γ.tb N hot c sc e = false) (hk : ∀ hot sc e, chkK Γ.pg Γ.tb N hot c sc e = false) (hd : ∀ hot sc ks keys vals, chkD Γ.pg Γ.tb N hot c sc ks keys vals = false) (hi : ∀ hot sc e, chkI Γ.pg Γ.tb N hot c sc e = false)
    (he : ∀ {hot n sc cs W X e}, Here Γ N sc cs W hot (3 * n + 2) X → Lib Γ n → chkE Γ.pg Γ.tb N hot c sc e = true → PE X e (tO Γ cs W c (evE (parN Γ n) c))) : Snd Γ N c :=
  ⟨he, fun _ _ h => absurd (h.symm.trans (ht _ _ _)) (by decide), fun _ _ h => absurd (h.symm.trans (ha _ _ _)) (by decide), fun _ _ h => absurd (h.symm.trans (hk _ _ _)) (by decide), fun _ _ h => absurd (h.symm.trans (hd _ _ _ _ _)) (by decide), fun _ _ h => absurd (h.symm.trans (hi _ _ _)) (by decide)⟩
/-- an expression, and a test -/
theorem snd_et (ha : ∀ hot sc e, chkA Γ.pg Γ.tb N hot c sc e = false) (hk : ∀ hot sc e, chkK Γ.pg Γ.tb N hot c sc e = false) (hd : ∀ hot sc ks keys vals, chkD Γ.pg Γ.tb N hot c sc ks keys vals = false) (hi : ∀ hot sc e, chkI Γ.pg Γ.tb N hot c sc e = false)
    (he : ∀ {hot n sc cs W X e}, Here Γ N sc cs W hot (3 * n + 2) X → Lib Γ n → chkE Γ.pg Γ.tb N hot c sc e = true → PE X e (tO Γ cs W c (evE (parN Γ n) c)))
    (ht : ∀ {hot n sc cs W X e}, Here Γ N sc cs W hot (3 * n + 2) X → Lib Γ n → chkT Γ.pg Γ.tb N hot c sc e = true → PT X e (tT Γ cs W (evT (parN Γ n) c)) ∧ ∀ op es pos, e = .BoolOp op es pos → PW X e (tT Γ cs W (evT (parN Γ n) c))) : Snd Γ N c :=
  ⟨he, ht, fun _ _ h => absurd (h.symm.trans (ha _ _ _)) (by decide), fun _ _ h => absurd (h.symm.trans (hk _ _ _)) (by decide), fun _ _ h => absurd (h.symm.trans (hd _ _ _ _ _)) (by decide), fun _ _ h => absurd (h.symm.trans (hi _ _ _)) (by decide)⟩
/-- what is walked alone -/
theorem snd_i (he : ∀ hot sc e, chkE Γ.pg Γ.tb N hot c sc e = false) (ht : ∀ hot sc e, chkT Γ.pg Γ.tb N hot c sc e = false) (ha : ∀ hot sc e, chkA Γ.pg Γ.tb N hot c sc e = false) (hk : ∀ hot sc e, chkK Γ.pg Γ.tb N hot c sc e = false) (hd : ∀ hot sc ks keys vals, chkD Γ.pg Γ.tb N hot c sc ks keys vals = false)
    (hi : ∀ {hot n sc cs W X tg e}, Here Γ N sc cs W hot (3 * n + 2) X → Lib Γ n → chkI Γ.pg Γ.tb N hot c sc e = true → PI X tg e (tI Γ cs W (evI (parN Γ n) c))) : Snd Γ N c :=
  ⟨fun _ _ h => absurd (h.symm.trans (he _ _ _)) (by decide), fun _ _ h => absurd (h.symm.trans (ht _ _ _)) (by decide), fun _ _ h => absurd (h.symm.trans (ha _ _ _)) (by decide), fun _ _ h => absurd (h.symm.trans (hk _ _ _)) (by decide), fun _ _ h => absurd (h.symm.trans (hd _ _ _ _ _)) (by decide), hi⟩
/-- nothing -/
theorem snd_0 (he : ∀ hot sc e, chkE Γ.pg Γ.tb N hot c sc e = false) (ht : ∀ hot sc e, chkT Γ.pg Γ.tb N hot c sc e = false) (ha : ∀ hot sc e, chkA Γ.pg Γ.tb N hot c sc e = false) (hk : ∀ hot sc e, chkK Γ.pg Γ.tb N hot c sc e = false) (hd : ∀ hot sc ks keys vals, chkD Γ.pg Γ.tb N hot c sc ks keys vals = false) (hi : ∀ hot sc e, chkI Γ.pg Γ.tb N hot c sc e = false) : Snd Γ N c :=
  snd_e ht ha hk hd hi fun _ _ h => absurd (h.symm.trans (he _ _ _)) (by decide)
theorem pw_no {X : Cx} {e : Expr} {t : TT} (h : ∀ op es pos, e ≠ .BoolOp op es pos) : ∀ op es pos, e = .BoolOp op es pos → PW X e t := fun op es pos q => absurd q (h op es pos)
/-! ### each form -/
theorem snd_cst {d : D} : Snd Γ N (.cst d) := snd_e (fun _ _ _ => rfl) (fun _ _ _ => rfl) (fun _ _ _ => rfl) (fun _ _ _ _ _ => rfl) (fun _ _ _ => rfl) fun {hot n sc cs W X e} C L h => by
  unfold chkE at h
  split at h
  · exact o_to rfl (g_const h)
  · cases h
theorem snd_loc {i : Nat} : Snd Γ N (.loc i) := snd_e (fun _ _ _ => rfl) (fun _ _ _ => rfl) (fun _ _ _ => rfl) (fun _ _ _ _ _ => rfl) (fun _ _ _ => rfl) fun {hot n sc cs W X e} C L h => by
  unfold chkE at h
  split at h
  · exact o_to rfl (g_loc C h)
  · cases h
theorem snd_pk {i : Nat} : Snd Γ N (.pk i) := snd_e (fun _ _ _ => rfl) (fun _ _ _ => rfl) (fun _ _ _ => rfl) (fun _ _ _ _ _ => rfl) (fun _ _ _ => rfl) fun {hot n sc cs W X e} C L h => by
  unfold chkE at h
  split at h
  · exact o_pk C h
  · cases h
theorem snd_glb (T : Tops Γ) {i : Nat} : Snd Γ N (.glb i) := snd_e (fun _ _ _ => rfl) (fun _ _ _ => rfl) (fun _ _ _ => rfl) (fun _ _ _ _ _ => rfl) (fun _ _ _ => rfl) fun {hot n sc cs W X e} C L h => by
  unfold chkE at h
  split at h
  · obtain ⟨h1, h2⟩ := ba2 h
    exact o_to rfl (g_glb C T h1 (of_decide_eq_true h2))
  · cases h
theorem snd_bin (T : Tops Γ) {op : Operator} (A : Snd Γ N a) (B : Snd Γ N b) : Snd Γ N (.bin op a b) := snd_e (fun _ _ _ => rfl) (fun _ _ _ => rfl) (fun _ _ _ => rfl) (fun _ _ _ _ _ => rfl) (fun _ _ _ => rfl) fun {hot n sc cs W X e} C L h => by
  unfold chkE at h
  split at h
  · obtain ⟨h1, h⟩ := ba2 h
    obtain ⟨h2, h⟩ := ba2 h
    obtain ⟨h3, h⟩ := ba2 h
    obtain ⟨h4, h5⟩ := ba2 h
    cases of_decide_eq_true h1
    exact o_to rfl (g_bin C L T (notPk (nb h2)) (notPk (nb h3)) (A.e1 (nb h2) C L h4) (B.e1 (nb h3) C L h5))
  · cases h
theorem snd_un (T : Tops Γ) {op : UnaryOp} (A : Snd Γ N a) : Snd Γ N (.un op a) := snd_e (fun _ _ _ => rfl) (fun _ _ _ => rfl) (fun _ _ _ => rfl) (fun _ _ _ _ _ => rfl) (fun _ _ _ => rfl) fun {hot n sc cs W X e} C L h => by
  unfold chkE at h
  split at h
  · obtain ⟨h1, h⟩ := ba2 h
    obtain ⟨h2, h3⟩ := ba2 h
    cases of_decide_eq_true h1
    exact o_to rfl (g_un C L T (nb h2) (A.e1 (nb h2) C L h3))
  · cases h
theorem snd_cmp (T : Tops Γ) {op : CmpOp} (A : Snd Γ N a) (B : Snd Γ N b) : Snd Γ N (.cmp op a b) := snd_et (fun _ _ _ => rfl) (fun _ _ _ => rfl) (fun _ _ _ _ _ => rfl) (fun _ _ _ => rfl)
  (fun {hot n sc cs W X e} C L h => by
    unfold chkE at h
    split at h
    · obtain ⟨h1, h⟩ := ba2 h
      obtain ⟨h2, h⟩ := ba2 h
      obtain ⟨h3, h⟩ := ba2 h
      obtain ⟨h4, h⟩ := ba2 h
      obtain ⟨h5, h6⟩ := ba2 h
      cases of_decide_eq_true h1
      exact o_to rfl (g_cmp C L T (notPk (nb h3)) (notPk (nb h4)) h2 (A.e1 (nb h3) C L h5) (B.e1 (nb h4) C L h6))
    · cases h)
  (fun {hot n sc cs W X e} C L h => by
    unfold chkT at h
    split at h
    · obtain ⟨h1, h⟩ := ba2 h
      obtain ⟨h2, h⟩ := ba2 h
      obtain ⟨h3, h⟩ := ba2 h
      obtain ⟨h4, h⟩ := ba2 h
      obtain ⟨h5, h6⟩ := ba2 h
      cases of_decide_eq_true h1
      exact ⟨t_cmp C L T (notPk (nb h3)) (notPk (nb h4)) h2 (A.e1 (nb h3) C L h5) (B.e1 (nb h4) C L h6), pw_no fun _ _ _ z => nomatch z⟩
    · cases h)
theorem snd_chn {o1 o2 : CmpOp} (A : Snd Γ N a) (B : Snd Γ N b) (D : Snd Γ N c) : Snd Γ N (.chn o1 o2 a b c) := snd_et (fun _ _ _ => rfl) (fun _ _ _ => rfl) (fun _ _ _ _ _ => rfl) (fun _ _ _ => rfl)
  (fun {hot n sc cs W X e} C L h => by
    unfold chkE at h
    split at h
    · obtain ⟨h1, h⟩ := ba2 h
      obtain ⟨h2, h⟩ := ba2 h
      obtain ⟨h3, h⟩ := ba2 h
      obtain ⟨h4, h⟩ := ba2 h
      obtain ⟨h5, h⟩ := ba2 h
      obtain ⟨h6, h⟩ := ba2 h
      obtain ⟨h7, h⟩ := ba2 h
      obtain ⟨h8, h9⟩ := ba2 h
      cases of_decide_eq_true h1
      cases of_decide_eq_true h2
      exact o_to rfl (g_chn C h3 (A.e1 (nb h4) C L h7) (B.e1 (nb h5) C L h8) (D.e1 (nb h6) C L h9))
    · cases h)
  (fun {hot n sc cs W X e} C L h => by
    unfold chkT at h
    split at h
    · obtain ⟨h1, h⟩ := ba2 h
      obtain ⟨h2, h⟩ := ba2 h
      obtain ⟨h3, h⟩ := ba2 h
      obtain ⟨h4, h⟩ := ba2 h
      obtain ⟨h5, h⟩ := ba2 h
      obtain ⟨h6, h⟩ := ba2 h
      obtain ⟨h7, h⟩ := ba2 h
      obtain ⟨h8, h9⟩ := ba2 h
      cases of_decide_eq_true h1
      cases of_decide_eq_true h2
      exact ⟨t_chn C h3 (A.e1 (nb h4) C L h7) (B.e1 (nb h5) C L h8) (D.e1 (nb h6) C L h9), pw_no fun _ _ _ z => nomatch z⟩
    · cases h)
theorem snd_isN {neg : Bool} (A : Snd Γ N a) : Snd Γ N (.isN neg a) := snd_et (fun _ _ _ => rfl) (fun _ _ _ => rfl) (fun _ _ _ _ _ => rfl) (fun _ _ _ => rfl)
  (fun {hot n sc cs W X e} C L h => by
    unfold chkE at h
    split at h
    · obtain ⟨h1, h⟩ := ba2 h
      obtain ⟨h2, h⟩ := ba2 h
      rw [of_decide_eq_true h1]
      exact o_to rfl (g_isN (A.e1 (nb h2) C L h))
    · cases h)
  (fun {hot n sc cs W X e} C L h => by
    unfold chkT at h
    split at h
    · obtain ⟨h1, h⟩ := ba2 h
      obtain ⟨h2, h⟩ := ba2 h
      rw [of_decide_eq_true h1]
      exact ⟨t_isN (A.e1 (nb h2) C L h), pw_no fun _ _ _ z => nomatch z⟩
    · cases h)
theorem snd_isB {neg v : Bool} (A : Snd Γ N a) : Snd Γ N (.isB neg v a) := snd_et (fun _ _ _ => rfl) (fun _ _ _ => rfl) (fun _ _ _ _ _ => rfl) (fun _ _ _ => rfl)
  (fun {hot n sc cs W X e} C L h => by
    unfold chkE at h
    split at h
    · obtain ⟨h1, h⟩ := ba2 h
      obtain ⟨h0, h⟩ := ba2 h
      obtain ⟨h2, h3⟩ := ba2 h
      rw [of_decide_eq_true h1]
      cases of_decide_eq_true h0
      exact o_to rfl (g_isB (A.e1 (nb h2) C L h3))
    · cases h)
  (fun {hot n sc cs W X e} C L h => by
    unfold chkT at h
    split at h
    · obtain ⟨h1, h⟩ := ba2 h
      obtain ⟨h0, h⟩ := ba2 h
      obtain ⟨h2, h3⟩ := ba2 h
      rw [of_decide_eq_true h1]
      cases of_decide_eq_true h0
      exact ⟨t_isB (A.e1 (nb h2) C L h3), pw_no fun _ _ _ z => nomatch z⟩
    · cases h)
theorem snd_and (T : Tops Γ) (A : Snd Γ N a) (B : Snd Γ N b) : Snd Γ N (.and_ a b) := snd_et (fun _ _ _ => rfl) (fun _ _ _ => rfl) (fun _ _ _ _ _ => rfl) (fun _ _ _ => rfl)
  (fun {hot n sc cs W X e} C L h => by
    unfold chkE at h
    split at h
    · obtain ⟨h1, h⟩ := ba2 h
      obtain ⟨h2, h⟩ := ba2 h
      obtain ⟨h3, h4⟩ := ba2 h
      exact o_to rfl (g_and C L T (nb h1) (A.e1 (nb h1) C L h3) (pe_one (B.e1 (nb h2) C L h4)))
    · obtain ⟨h1, h⟩ := ba2 h
      obtain ⟨h2, h⟩ := ba2 h
      obtain ⟨h3, h4⟩ := ba2 h
      exact o_to rfl (g_and C L T (nb h1) (A.e1 (nb h1) C L h3) (B.e1 (nb h2) C L h4))
    · cases h)
  (fun {hot n sc cs W X e} C L h => by
    unfold chkT at h
    split at h
    · rename_i ea eb pos
      obtain ⟨h1, h2⟩ := ba2 h
      have := t_and (n := n) (pos := pos) (A.t C L h1).1 (pw_and1 (pos := pos) (B.t C L h2).1)
      exact ⟨this.pt, fun _ _ _ _ => this⟩
    · obtain ⟨h1, h2⟩ := ba2 h
      have := t_and (n := n) (A.t C L h1).1 ((B.t C L h2).2 _ _ _ rfl)
      exact ⟨this.pt, fun _ _ _ _ => this⟩
    · cases h)
theorem snd_or (T : Tops Γ) (A : Snd Γ N a) (B : Snd Γ N b) : Snd Γ N (.or_ a b) := snd_et (fun _ _ _ => rfl) (fun _ _ _ => rfl) (fun _ _ _ _ _ => rfl) (fun _ _ _ => rfl)
  (fun {hot n sc cs W X e} C L h => by
    unfold chkE at h
    split at h
    · obtain ⟨h1, h⟩ := ba2 h
      obtain ⟨h2, h⟩ := ba2 h
      obtain ⟨h3, h4⟩ := ba2 h
      exact o_to rfl (g_or C L T (nb h1) (A.e1 (nb h1) C L h3) (pe_one (B.e1 (nb h2) C L h4)))
    · obtain ⟨h1, h⟩ := ba2 h
      obtain ⟨h2, h⟩ := ba2 h
      obtain ⟨h3, h4⟩ := ba2 h
      exact o_to rfl (g_or C L T (nb h1) (A.e1 (nb h1) C L h3) (B.e1 (nb h2) C L h4))
    · cases h)
  (fun {hot n sc cs W X e} C L h => by
    unfold chkT at h
    split at h
    · rename_i ea eb pos
      obtain ⟨h1, h2⟩ := ba2 h
      have := t_or (n := n) (pos := pos) (A.t C L h1).1 (pw_or1 (pos := pos) (B.t C L h2).1)
      exact ⟨this.pt, fun _ _ _ _ => this⟩
    · obtain ⟨h1, h2⟩ := ba2 h
      have := t_or (n := n) (A.t C L h1).1 ((B.t C L h2).2 _ _ _ rfl)
      exact ⟨this.pt, fun _ _ _ _ => this⟩
    · cases h)
theorem snd_not (T : Tops Γ) (A : Snd Γ N a) : Snd Γ N (.not_ a) := snd_et (fun _ _ _ => rfl) (fun _ _ _ => rfl) (fun _ _ _ _ _ => rfl) (fun _ _ _ => rfl)
  (fun {hot n sc cs W X e} C L h => by
    unfold chkE at h
    split at h
    · exact o_to rfl (g_not C L T (A.e C L h))
    · cases h)
  (fun {hot n sc cs W X e} C L h => by
    unfold chkT at h
    split at h
    · exact ⟨t_not (A.t C L h).1, pw_no fun _ _ _ z => nomatch z⟩
    · cases h)
theorem snd_ite (D : Snd Γ N c) (A : Snd Γ N a) (B : Snd Γ N b) : Snd Γ N (.ite c a b) := snd_et (fun _ _ _ => rfl) (fun _ _ _ => rfl) (fun _ _ _ _ _ => rfl) (fun _ _ _ => rfl)
  (fun {hot n sc cs W X e} C L h => by
    unfold chkE at h
    split at h
    · obtain ⟨h1, h⟩ := ba2 h
      obtain ⟨h2, h⟩ := ba2 h
      obtain ⟨h3, h⟩ := ba2 h
      obtain ⟨h4, h5⟩ := ba2 h
      exact o_to rfl (g_ite (D.t C L h3).1 (A.e1 (nb h1) C L h4) (B.e1 (nb h2) C L h5))
    · cases h)
  (fun {hot n sc cs W X e} C L h => by
    unfold chkT at h
    split at h
    · obtain ⟨h1, h⟩ := ba2 h
      obtain ⟨h2, h3⟩ := ba2 h
      exact ⟨t_ite (D.t C L h1).1 (A.t C L h2).1 (B.t C L h3).1, pw_no fun _ _ _ z => nomatch z⟩
    · cases h)
theorem snd_tru (T : Tops Γ) (A : Snd Γ N a) : Snd Γ N (.tru a) := snd_et (fun _ _ _ => rfl) (fun _ _ _ => rfl) (fun _ _ _ _ _ => rfl) (fun _ _ _ => rfl)
  (fun {hot n sc cs W X e} C L h => absurd h Bool.false_ne_true)
  (fun {hot n sc cs W X e} C L h => by
    unfold chkT at h
    obtain ⟨h1, h2⟩ := ba2 h
    exact ⟨t_tru C L T h1 (A.e C L h2), pw_no fun _ _ _ z => by rw [z] at h1; cases h1⟩)
theorem snd_tup (A : Snd Γ N a) : Snd Γ N (.tup a) := snd_e (fun _ _ _ => rfl) (fun _ _ _ => rfl) (fun _ _ _ => rfl) (fun _ _ _ _ _ => rfl) (fun _ _ _ => rfl) fun {hot n sc cs W X e} C L h => by
  unfold chkE at h
  split at h
  · exact o_to rfl (g_tup (A.a C L h).1)
  · cases h
theorem snd_lst (A : Snd Γ N a) : Snd Γ N (.lst a) := snd_e (fun _ _ _ => rfl) (fun _ _ _ => rfl) (fun _ _ _ => rfl) (fun _ _ _ _ _ => rfl) (fun _ _ _ => rfl) fun {hot n sc cs W X e} C L h => by
  unfold chkE at h
  split at h
  · exact o_to rfl (g_lst (A.a C L h).1)
  · cases h
theorem snd_newc (A : Snd Γ N a) : Snd Γ N (.newc a) := snd_e (fun _ _ _ => rfl) (fun _ _ _ => rfl) (fun _ _ _ => rfl) (fun _ _ _ _ _ => rfl) (fun _ _ _ => rfl) fun {hot n sc cs W X e} C L h => by
  unfold chkE at h
  split at h
  · exact o_to rfl (g_newc (A.a C L h).1)
  · cases h
theorem snd_dic {ks : List Str} (A : Snd Γ N a) : Snd Γ N (.dic ks a) := snd_e (fun _ _ _ => rfl) (fun _ _ _ => rfl) (fun _ _ _ => rfl) (fun _ _ _ _ _ => rfl) (fun _ _ _ => rfl) fun {hot n sc cs W X e} C L h => by
  unfold chkE at h
  split at h
  · rename_i keys vals pos
    obtain ⟨h1, h⟩ := ba2 h
    obtain ⟨h2, h3⟩ := ba2 h
    obtain ⟨q1, q2, q3, q4, q5, q6⟩ := A.d (pos := pos) C L h1
    by_cases hz : ks = []
    · obtain ⟨z1, z2, z3⟩ := q6 hz
      subst hz z1 z2 z3
      exact o_to rfl g_dic0
    · exact o_to rfl (g_dic q2 q3 q4 q5 hz (of_decide_eq_true h3) (of_decide_eq_true h2) q1)
  · cases h
theorem snd_call (T : Tops Γ) {i : Nat} (A : Snd Γ N a) (B : Snd Γ N b) : Snd Γ N (.call i a b) := snd_e (fun _ _ _ => rfl) (fun _ _ _ => rfl) (fun _ _ _ => rfl) (fun _ _ _ _ _ => rfl) (fun _ _ _ => rfl) fun {hot n sc cs W X e} C L h => by
  unfold chkE at h
  split at h
  · split at h
    · rename_i f hf
      obtain ⟨h1, h⟩ := ba2 h
      obtain ⟨h2, h⟩ := ba2 h
      obtain ⟨h3, h⟩ := ba2 h
      obtain ⟨h4, h⟩ := ba2 h
      obtain ⟨h5, h6⟩ := ba2 h
      obtain ⟨a1, a2⟩ := A.a C L h5
      obtain ⟨b1, b2⟩ := B.k C L h6
      exact o_to rfl (g_call C L T h1 hf (of_decide_eq_true h2) h3 (of_decide_eq_true h4) a1 b1 a2 b2)
    · cases h
  · cases h
theorem snd_make (T : Tops Γ) {i : Nat} (A : Snd Γ N a) (B : Snd Γ N b) : Snd Γ N (.make i a b) := snd_e (fun _ _ _ => rfl) (fun _ _ _ => rfl) (fun _ _ _ => rfl) (fun _ _ _ _ _ => rfl) (fun _ _ _ => rfl) fun {hot n sc cs W X e} C L h => by
  unfold chkE at h
  split at h
  · split at h
    · rename_i f hf
      obtain ⟨h0, h⟩ := ba2 h
      obtain ⟨h1, h⟩ := ba2 h
      obtain ⟨h2, h⟩ := ba2 h
      obtain ⟨h3, h⟩ := ba2 h
      obtain ⟨h4, h⟩ := ba2 h
      obtain ⟨h5, h6⟩ := ba2 h
      obtain ⟨kl, hk⟩ := Option.isSome_iff_exists.mp h0
      obtain ⟨a1, a2⟩ := A.a C L h5
      obtain ⟨b1, b2⟩ := B.k C L h6
      exact o_to rfl (g_make C L T h1 hf hk (of_decide_eq_true h2) h3 (of_decide_eq_true h4) a1 b1 a2 b2)
    · cases h
  · cases h
theorem snd_meth (T : Tops Γ) {m : Str} (A : Snd Γ N a) (B : Snd Γ N b) : Snd Γ N (.meth a m b) := snd_e (fun _ _ _ => rfl) (fun _ _ _ => rfl) (fun _ _ _ => rfl) (fun _ _ _ _ _ => rfl) (fun _ _ _ => rfl) fun {hot n sc cs W X e} C L h => by
  unfold chkE at h
  split at h
  · obtain ⟨h1, h⟩ := ba2 h
    obtain ⟨h2, h⟩ := ba2 h
    obtain ⟨h3, h⟩ := ba2 h
    obtain ⟨h4, h⟩ := ba2 h
    obtain ⟨h5, h6⟩ := ba2 h
    cases of_decide_eq_true h1
    obtain ⟨b1, b2⟩ := B.a C L h6
    exact o_to rfl (g_meth C L T (nb h2) h3 h4 (A.e1 (nb h2) C L h5) b1 b2)
  · cases h
theorem snd_att (T : Tops Γ) {f : Str} (A : Snd Γ N a) : Snd Γ N (.att a f) := snd_e (fun _ _ _ => rfl) (fun _ _ _ => rfl) (fun _ _ _ => rfl) (fun _ _ _ _ _ => rfl) (fun _ _ _ => rfl) fun {hot n sc cs W X e} C L h => by
  unfold chkE at h
  split at h
  · obtain ⟨h1, h⟩ := ba2 h
    obtain ⟨h2, h3⟩ := ba2 h
    cases of_decide_eq_true h1
    exact o_to rfl (g_att C L T h2 (A.e C L h3))
  · cases h
theorem snd_b1 (T : Tops Γ) {f : B1} (A : Snd Γ N a) : Snd Γ N (.b1 f a) := snd_e (fun _ _ _ => rfl) (fun _ _ _ => rfl) (fun _ _ _ => rfl) (fun _ _ _ _ _ => rfl) (fun _ _ _ => rfl) fun {hot n sc cs W X e} C L h => by
  unfold chkE at h
  split at h
  · obtain ⟨h1, h⟩ := ba2 h
    obtain ⟨h2, h⟩ := ba2 h
    obtain ⟨h3, h⟩ := ba2 h
    obtain ⟨h4, h5⟩ := ba2 h
    cases nb h1
    exact o_to rfl (g_b1 C T (of_decide_eq_true h2) h3 h4 (A.e C L h5))
  · cases h
theorem snd_b2 (T : Tops Γ) {f : B2} (A : Snd Γ N a) (B : Snd Γ N b) : Snd Γ N (.b2 f a b) := snd_e (fun _ _ _ => rfl) (fun _ _ _ => rfl) (fun _ _ _ => rfl) (fun _ _ _ _ _ => rfl) (fun _ _ _ => rfl) fun {hot n sc cs W X e} C L h => by
  unfold chkE at h
  split at h
  · obtain ⟨h1, h⟩ := ba2 h
    obtain ⟨h2, h⟩ := ba2 h
    obtain ⟨h3, h⟩ := ba2 h
    obtain ⟨h4, h⟩ := ba2 h
    obtain ⟨h5, h⟩ := ba2 h
    obtain ⟨h6, h⟩ := ba2 h
    obtain ⟨h7, h8⟩ := ba2 h
    cases nb h1
    exact o_to rfl (g_b2 C T (of_decide_eq_true h2) h3 h4 (A.e1 (nb h5) C L h7) (B.e1 (nb h6) C L h8))
  · cases h
theorem snd_m0 {f : M0} (A : Snd Γ N a) : Snd Γ N (.m0 f a) := snd_e (fun _ _ _ => rfl) (fun _ _ _ => rfl) (fun _ _ _ => rfl) (fun _ _ _ _ _ => rfl) (fun _ _ _ => rfl) fun {hot n sc cs W X e} C L h => by
  unfold chkE at h
  split at h
  · obtain ⟨h1, h⟩ := ba2 h
    obtain ⟨h2, h⟩ := ba2 h
    obtain ⟨h3, h⟩ := ba2 h
    obtain ⟨h4, h5⟩ := ba2 h
    cases of_decide_eq_true h1
    exact o_to rfl (g_upper h2 h3 (A.e1 (nb h4) C L h5))
  · cases h
theorem snd_m1 {f : M1} (A : Snd Γ N a) (B : Snd Γ N b) : Snd Γ N (.m1 f a b) := snd_e (fun _ _ _ => rfl) (fun _ _ _ => rfl) (fun _ _ _ => rfl) (fun _ _ _ _ _ => rfl) (fun _ _ _ => rfl) fun {hot n sc cs W X e} C L h => by
  unfold chkE at h
  split at h
  · obtain ⟨h1, h⟩ := ba2 h
    obtain ⟨h2, h⟩ := ba2 h
    obtain ⟨h3, h⟩ := ba2 h
    obtain ⟨h4, h⟩ := ba2 h
    obtain ⟨h5, h⟩ := ba2 h
    obtain ⟨h6, h7⟩ := ba2 h
    have h1 := of_decide_eq_true h1
    cases f <;> first | (cases h1; done) | skip
    · cases h1; exact o_to rfl (g_count C (nb h5) h2 h3 h4 (A.e1 (nb h5) C L h6) (B.e C L h7))
    · cases h1; exact o_to rfl (g_join C (nb h5) h2 h3 h4 (A.e1 (nb h5) C L h6) (B.e C L h7))
    · cases h1; exact o_to rfl (g_startswith (nb h5) h2 h3 h4 (A.e1 (nb h5) C L h6) (B.e C L h7))
    · cases h1; exact o_to rfl (g_strip (nb h5) h2 h3 h4 (A.e1 (nb h5) C L h6) (B.e C L h7))
  · cases h
theorem snd_ix {a b : C} (A : Snd Γ N a) (B : Snd Γ N b) : Snd Γ N (.ix a b) := snd_e (fun _ _ _ => rfl) (fun _ _ _ => rfl) (fun _ _ _ => rfl) (fun _ _ _ _ _ => rfl) (fun _ _ _ => rfl) fun {hot n sc cs W X e} C L h => by
  unfold chkE at h
  split at h
  · obtain ⟨h1, h⟩ := ba2 h
    obtain ⟨h2, h⟩ := ba2 h
    obtain ⟨h3, h4⟩ := ba2 h
    exact o_to rfl (g_ix C h1 (A.e C L h3) (B.e1 (nb h2) C L h4))
  · cases h
theorem snd_dget {a b : C} (A : Snd Γ N a) (B : Snd Γ N b) : Snd Γ N (.dget a b) := snd_e (fun _ _ _ => rfl) (fun _ _ _ => rfl) (fun _ _ _ => rfl) (fun _ _ _ _ _ => rfl) (fun _ _ _ => rfl) fun {hot n sc cs W X e} C L h => by
  unfold chkE at h
  split at h
  · obtain ⟨h1, h⟩ := ba2 h
    obtain ⟨h2, h⟩ := ba2 h
    obtain ⟨h3, h4⟩ := ba2 h
    exact o_to rfl (g_dget C h1 (A.e C L h3) (B.e1 (nb h2) C L h4))
  · cases h
theorem snd_sl (A : Snd Γ N a) (B : Snd Γ N b) (D : Snd Γ N c) : Snd Γ N (.sl a b c) := snd_e (fun _ _ _ => rfl) (fun _ _ _ => rfl) (fun _ _ _ => rfl) (fun _ _ _ _ _ => rfl) (fun _ _ _ => rfl) fun {hot n sc cs W X e} C L h => by
  unfold chkE at h
  split at h
  · obtain ⟨h1, h⟩ := ba2 h
    obtain ⟨h2, h⟩ := ba2 h
    obtain ⟨h3, h⟩ := ba2 h
    obtain ⟨h4, h⟩ := ba2 h
    obtain ⟨h5, h⟩ := ba2 h
    obtain ⟨h6, h7⟩ := ba2 h
    exact o_to rfl (g_sl C h1 h2 (A.e C L h5) (fun e he => by subst he; exact B.e1 (nb h3) C L h6) (fun e he => by subst he; exact D.e1 (nb h4) C L h7))
  · cases h
theorem snd_isi (T : Tops Γ) {ts : List Ty} (A : Snd Γ N a) : Snd Γ N (.isi a ts) := snd_e (fun _ _ _ => rfl) (fun _ _ _ => rfl) (fun _ _ _ => rfl) (fun _ _ _ _ _ => rfl) (fun _ _ _ => rfl) fun {hot n sc cs W X e} C L h => by
  unfold chkE at h
  split at h
  · obtain ⟨h1, h⟩ := ba2 h
    obtain ⟨h2, h⟩ := ba2 h
    obtain ⟨h3, h⟩ := ba2 h
    obtain ⟨h4, h⟩ := ba2 h
    obtain ⟨h5, h6⟩ := ba2 h
    cases of_decide_eq_true h1
    exact o_to rfl (g_isi C T h2 h3 (fun z => by rw [z] at h4; cases h4) h5 (A.e C L h6))
  · cases h
theorem snd_efld (Er : Errs Γ) {i : Nat} {f : Str} : Snd Γ N (.efld i f) := snd_e (fun _ _ _ => rfl) (fun _ _ _ => rfl) (fun _ _ _ => rfl) (fun _ _ _ _ _ => rfl) (fun _ _ _ => rfl) fun {hot n sc cs W X e} C L h => by
  unfold chkE at h
  split at h
  · obtain ⟨h1, h⟩ := ba2 h
    obtain ⟨h2, h3⟩ := ba2 h
    cases of_decide_eq_true h1
    exact o_to rfl (g_efld C Er h2 (of_decide_eq_true h3))
  · cases h
theorem snd_eisi (T : Tops Γ) (Er : Errs Γ) {i : Nat} {ts : List Ty} : Snd Γ N (.eisi i ts) := snd_e (fun _ _ _ => rfl) (fun _ _ _ => rfl) (fun _ _ _ => rfl) (fun _ _ _ _ _ => rfl) (fun _ _ _ => rfl) fun {hot n sc cs W X e} C L h => by
  unfold chkE at h
  split at h
  · obtain ⟨h1, h⟩ := ba2 h
    obtain ⟨h2, h⟩ := ba2 h
    obtain ⟨h3, h⟩ := ba2 h
    obtain ⟨h4, h5⟩ := ba2 h
    cases of_decide_eq_true h1
    exact o_to rfl (g_eisi C T Er h3 h2 h4 h5)
  · cases h
theorem isYes_is {c : C} (h : isYes c = true) : c = .tru (.cst (.bl true)) := by
  unfold isYes at h
  split at h
  · rfl
  · cases h
theorem snd_lc {elt it cond : C} {t : Tg} {own : List Nat} (E : Snd Γ N elt) (I : Snd Γ N it) (D : Snd Γ N cond) : Snd Γ N (.lc elt t it cond own) := snd_e (fun _ _ _ => rfl) (fun _ _ _ => rfl) (fun _ _ _ => rfl) (fun _ _ _ _ _ => rfl) (fun _ _ _ => rfl) fun {hot n sc cs W X e} C L h => by
  unfold chkE at h
  split at h
  · rename_i elt' tg it' ifs scope pos
    obtain ⟨h1, h⟩ := ba2 h
    obtain ⟨h2, h⟩ := ba2 h
    obtain ⟨h3, h⟩ := ba2 h
    obtain ⟨h4, h⟩ := ba2 h
    obtain ⟨h5, h⟩ := ba2 h
    obtain ⟨h6, h⟩ := ba2 h
    obtain ⟨h7, h⟩ := ba2 h
    obtain ⟨h8, h9⟩ := ba2 h
    cases nb h1
    obtain ⟨b1, b2⟩ := blk_ok h3
    have key := g_lc (a := it) (b := elt) (c := cond) (pos := pos) (t := t) C h2 (I.i (tg := tg) C L h6) b1 b2 h4 (fun i hi => by
        rw [ownN_snd]
        exact of_decide_eq_true (List.all_eq_true.mp h5 i hi)) (ifs := ifs) (elt := elt') (fun Xb Cb => by
          split at h7
          · have := isYes_is h7
            subst this
            refine ⟨fun pins s σ H Q I q => pts_nil.run pins s σ H Q I ?_⟩
            obtain ⟨p, F, ι, e, m, S, q⟩ := q
            exact K1.ok (a := true) q S
          · exact pts_one (D.t Cb L h7).1
          · cases h7) (fun Xb Cb => E.e1 (nb h8) Cb L h9)
    rw [ownN_snd] at key
    exact o_to rfl key
  · cases h
theorem snd_lc2 {elt it it2 cond : C} {t t2 : Tg} {own own2 : List Nat} (E : Snd Γ N elt) (I : Snd Γ N it) (I2 : Snd Γ N it2) (D : Snd Γ N cond) : Snd Γ N (.lc2 elt t it t2 it2 cond own own2) := snd_e (fun _ _ _ => rfl) (fun _ _ _ => rfl) (fun _ _ _ => rfl) (fun _ _ _ _ _ => rfl) (fun _ _ _ => rfl) fun {hot n sc cs W X e} C L h => by
  unfold chkE at h
  split at h
  · rename_i elt' tg it' tg1 it1' ifs scope pos
    obtain ⟨h1, h⟩ := ba2 h
    obtain ⟨h2, h⟩ := ba2 h
    obtain ⟨h2b, h⟩ := ba2 h
    obtain ⟨h3, h⟩ := ba2 h
    obtain ⟨h3b, h⟩ := ba2 h
    obtain ⟨h4, h⟩ := ba2 h
    obtain ⟨h5, h⟩ := ba2 h
    obtain ⟨h4b, h⟩ := ba2 h
    obtain ⟨h5b, h⟩ := ba2 h
    obtain ⟨h6, h⟩ := ba2 h
    obtain ⟨h6b, h⟩ := ba2 h
    obtain ⟨h7, h⟩ := ba2 h
    obtain ⟨h8, h9⟩ := ba2 h
    cases nb h1
    obtain ⟨b1, b2⟩ := blk_ok h3
    have key := g_lc2 (a := it) (a2 := it2) (b := elt) (c := cond) (pos := pos) (t := t) (t2 := t2) (vs1 := own2) C h2 h2b (I.i (tg := tg) C L h6) b1 b2 (fun i hi => by
        rw [ownN_snd]
        exact of_decide_eq_true (List.all_eq_true.mp h3b i hi)) h4 (fun i hi => by
        rw [ownN_snd]
        exact of_decide_eq_true (List.all_eq_true.mp h5 i hi)) h4b (fun i hi => of_decide_eq_true (List.all_eq_true.mp h5b i hi)) (fun Xb Cb => I2.i (tg := tg1) Cb L h6b) (ifs1 := ifs) (elt := elt') (fun Xb Cb => by
          split at h7
          · have := isYes_is h7
            subst this
            refine ⟨fun pins s σ H Q I q => pts_nil.run pins s σ H Q I ?_⟩
            obtain ⟨p, F, ι, e, m, S, q⟩ := q
            exact K1.ok (a := true) q S
          · exact pts_one (D.t Cb L h7).1
          · cases h7) (fun Xb Cb => E.e1 (nb h8) Cb L h9)
    rw [ownN_snd] at key
    exact o_to rfl key
  · cases h
theorem snd_nil : Snd Γ N .nil := by
  refine ⟨fun _ _ h => absurd h Bool.false_ne_true, fun _ _ h => absurd h Bool.false_ne_true, fun {hot n sc cs W X es} _ _ h => ?_, fun {hot n sc cs W X ks} _ _ h => ?_, fun {hot n sc cs W X pos ks keys vals} _ _ h => ?_, fun _ _ h => absurd h Bool.false_ne_true⟩
  · cases es with
    | nil => exact ⟨a_nil, fun _ => rfl⟩
    | cons _ _ => exact absurd h Bool.false_ne_true
  · cases ks with
    | nil => exact ⟨k_nil, fun _ => rfl⟩
    | cons _ _ => exact absurd h Bool.false_ne_true
  · unfold chkD at h
    obtain ⟨h1, h⟩ := ba2 h
    obtain ⟨h2, h3⟩ := ba2 h
    have h1 := List.isEmpty_iff.mp h1
    have h2 := List.isEmpty_iff.mp h2
    have h3 := List.isEmpty_iff.mp h3
    subst h1 h2 h3
    exact ⟨pps_nil, rfl, rfl, rfl, rfl, fun _ => ⟨rfl, rfl, rfl⟩⟩
theorem snd_cons (A : Snd Γ N a) (B : Snd Γ N b) : Snd Γ N (.cons a b) := by
  refine ⟨fun _ _ h => absurd h Bool.false_ne_true, fun _ _ h => absurd h Bool.false_ne_true, fun {hot n sc cs W X es} C L h => ?_, fun {hot n sc cs W X ks} C L h => ?_, fun {hot n sc cs W X pos ks keys vals} C L h => ?_, fun _ _ h => absurd h Bool.false_ne_true⟩
  · unfold chkA at h
    split at h
    · obtain ⟨h1, h⟩ := ba2 h
      obtain ⟨h2, h⟩ := ba2 h
      obtain ⟨h3, h4⟩ := ba2 h
      exact ⟨a_cons (A.e1 (nb h2) C L h3) (B.a C L h4).1 h1, fun z => by cases z⟩
    · cases h
  · unfold chkK at h
    split at h
    · obtain ⟨h2, h⟩ := ba2 h
      obtain ⟨h3, h4⟩ := ba2 h
      exact ⟨k_cons (A.e1 (nb h2) C L h3) (B.k C L h4).1, fun z => by cases z⟩
    · cases h
  · unfold chkD at h
    split at h
    · obtain ⟨h1, h⟩ := ba2 h
      obtain ⟨h2, h⟩ := ba2 h
      obtain ⟨h3, h4⟩ := ba2 h
      cases of_decide_eq_true h1
      obtain ⟨q1, q2, q3, q4, q5, q6⟩ := B.d (pos := pos) C L h4
      exact ⟨pps_step (A.e1 (nb h2) C L h3) q1, q2, congrArg (· + 1) q3, congrArg (· + 1) q4, by simp [q5], fun z => by cases z⟩
    · cases h
theorem is0_is {c : C} (h : is0 c = true) : c = .cst (.int 0) := by
  unfold is0 at h
  split at h
  · rfl
  · cases h
theorem is1_is {c : C} (h : is1 c = true) : c = .cst (.int 1) := by
  unfold is1 at h
  split at h
  · rfl
  · cases h
theorem snd_wk (A : Snd Γ N a) : Snd Γ N (.wk a) := snd_i (fun _ _ _ => rfl) (fun _ _ _ => rfl) (fun _ _ _ => rfl) (fun _ _ _ => rfl) (fun _ _ _ _ _ => rfl) fun {hot n sc cs W X tg e} C L h => by
  unfold chkI at h
  obtain ⟨h1, h2⟩ := ba2 h
  exact i_wk C.K (A.e1 (nb h1) C L h2)
theorem snd_rng (T : Tops Γ) (A : Snd Γ N a) (B : Snd Γ N b) (D : Snd Γ N c) : Snd Γ N (.rng a b c) := snd_i (fun _ _ _ => rfl) (fun _ _ _ => rfl) (fun _ _ _ => rfl) (fun _ _ _ => rfl) (fun _ _ _ _ _ => rfl) fun {hot n sc cs W X tg e} C L h => by
  unfold chkI at h
  split at h
  · obtain ⟨h1, h⟩ := ba2 h
    obtain ⟨h2, h⟩ := ba2 h
    obtain ⟨h3, h⟩ := ba2 h
    obtain ⟨h4, h⟩ := ba2 h
    obtain ⟨h5, h⟩ := ba2 h
    obtain ⟨h6, h7⟩ := ba2 h
    cases of_decide_eq_true h1
    cases is0_is h5
    cases is1_is h6
    exact i_rng1 C T h2 h3 (B.e1 (nb h4) C L h7)
  · obtain ⟨h1, h⟩ := ba2 h
    obtain ⟨h2, h⟩ := ba2 h
    obtain ⟨h3, h⟩ := ba2 h
    obtain ⟨h4, h⟩ := ba2 h
    obtain ⟨h5, h⟩ := ba2 h
    obtain ⟨h6, h⟩ := ba2 h
    obtain ⟨h7, h8⟩ := ba2 h
    cases of_decide_eq_true h1
    cases is1_is h6
    exact i_rng2 C T h2 h3 (A.e1 (nb h4) C L h7) (B.e1 (nb h5) C L h8)
  · obtain ⟨h1, h⟩ := ba2 h
    obtain ⟨h2, h⟩ := ba2 h
    obtain ⟨h3, h⟩ := ba2 h
    obtain ⟨h4, h⟩ := ba2 h
    obtain ⟨h5, h⟩ := ba2 h
    obtain ⟨h6, h⟩ := ba2 h
    obtain ⟨h7, h⟩ := ba2 h
    obtain ⟨h8, h9⟩ := ba2 h
    cases of_decide_eq_true h1
    exact i_rng3 C T h2 h3 (A.e1 (nb h4) C L h7) (B.e1 (nb h5) C L h8) (D.e1 (nb h6) C L h9)
  · cases h
/-- every core expression's check is right -/
theorem snd_all (T : Tops Γ) (Er : Errs Γ) : ∀ c : C, Snd Γ N c := by
  intro c
  induction c with
  | cst d => exact snd_cst
  | loc i => exact snd_loc
  | pk i => exact snd_pk
  | glb x => exact snd_glb T
  | bin op a b A B => exact snd_bin T A B
  | un op a A => exact snd_un T A
  | cmp op a b A B => exact snd_cmp T A B
  | chn o1 o2 a b c A B D => exact snd_chn A B D
  | dget a b A B => exact snd_dget A B
  | isN neg a A => exact snd_isN A
  | isB neg v a A => exact snd_isB A
  | and_ a b A B => exact snd_and T A B
  | or_ a b A B => exact snd_or T A B
  | not_ a A => exact snd_not T A
  | ite c a b D A B => exact snd_ite D A B
  | tup a A => exact snd_tup A
  | lst a A => exact snd_lst A
  | dic ks a A => exact snd_dic A
  | newc a A => exact snd_newc A
  | nil => exact snd_nil
  | cons a b A B => exact snd_cons A B
  | call i a b A B => exact snd_call T A B
  | make i a b A B => exact snd_make T A B
  | meth a m b A B => exact snd_meth T A B
  | att a f A => exact snd_att T A
  | b1 f a A => exact snd_b1 T A
  | b2 f a b A B => exact snd_b2 T A B
  | m0 f a A => exact snd_m0 A
  | m1 f a b A B => exact snd_m1 A B
  | ix a b A B => exact snd_ix A B
  | sl a b c A B D => exact snd_sl A B D
  | sno => exact snd_0 (fun _ _ _ => rfl) (fun _ _ _ => rfl) (fun _ _ _ => rfl) (fun _ _ _ => rfl) (fun _ _ _ _ _ => rfl) (fun _ _ _ => rfl)
  | tru a A => exact snd_tru T A
  | wk a A => exact snd_wk A
  | isi a ts A => exact snd_isi T A
  | efld i f => exact snd_efld Er
  | eisi i ts => exact snd_eisi T Er
  | rng a b c A B D => exact snd_rng T A B D
  | enum a A => exact snd_0 (fun _ _ _ => rfl) (fun _ _ _ => rfl) (fun _ _ _ => rfl) (fun _ _ _ => rfl) (fun _ _ _ _ _ => rfl) (fun _ _ _ => rfl)
  | zip a b A B => exact snd_0 (fun _ _ _ => rfl) (fun _ _ _ => rfl) (fun _ _ _ => rfl) (fun _ _ _ => rfl) (fun _ _ _ _ _ => rfl) (fun _ _ _ => rfl)
  | items a A => exact snd_0 (fun _ _ _ => rfl) (fun _ _ _ => rfl) (fun _ _ _ => rfl) (fun _ _ _ => rfl) (fun _ _ _ _ _ => rfl) (fun _ _ _ => rfl)
  | lc elt t it cond own E I D => exact snd_lc E I D
  | lc2 elt t it t2 it2 cond own own2 E I I2 D => exact snd_lc2 E I I2 D
end
end G
end
section
set_option Elab.async false
set_option linter.all false
set_option maxRecDepth 100000
set_option maxHeartbeats 4000000
/-! G: the check of statements, and that it is right. -/
namespace G
open PySem PySem.Spec PyProof.Rows L2
section
variable (G : Pg) (tb : Tb) (N : List Str) (sc : Scope)
/-- x = [..] -/
def setLcB (c : C) (i : Nat) (x : Str) (px : Pos) (hot : Bool) : Expr → Bool
  | .ListComp elt gens scope pos => (match c with
    | .lc _ _ _ _ _ => decide (N[i]? = some x) && (locP sc x && ((px.line == pos.line) && (!(scope.names.any fun (n, k) => n == x && (k == .local || k == .cell)) && chkE G tb N hot c sc (.ListComp elt gens scope pos))))
    | _ => false)
  | _ => false
/-- x = {"k": v, ..} -/
def ownDB (as : C) (i : Nat) (x : Str) (px : Pos) (hot : Bool) (keys : List (Option Expr)) (vals : List Expr) : Bool := match as with
  | .dic ks a => tgB N sc (.nm i) (.Name x px) && (chkD G tb N hot a sc ks keys vals && (decide ks.Nodup && (decide (ks.length ≤ 15) && !ks.isEmpty)))
  | _ => false
mutual
def chkS : S → Bool → Stmt → Bool
  | .skip, _, st => match st with
    | .Pass _ => true
    | _ => false
  | .stuck, _, _ => true
  | .ex c, hot, st => match st with
    | .Expr e _ => noComp e && (!c.isPk && chkE G tb N hot c sc e)
    | _ => false
  | .asg t c, hot, st => match t, st with
    | .nm i, .Assign [.Name x px] e _ => (tgB N sc (.nm i) (.Name x px) && (noComp e && (!c.isPk && chkE G tb N hot c sc e))) || (!hot && setLcB G tb N sc c i x px hot e)
    | t, .Assign [.Tuple es k p] e _ => !hot && (tgB N sc t (.Tuple es k p) && (noPair (.Tuple es k p) e && (!c.isPk && chkE G tb N hot c sc e)))
    | _, _ => false
  | .own i as, hot, st => match st with
    | .Assign [.Name x px] (.List es _) _ => !hot && (tgB N sc (.nm i) (.Name x px) && chkA G tb N hot as sc es)
    | .Assign [.Name x px] (.Dict keys vals _) _ => !hot && ownDB G tb N sc as i x px hot keys vals
    | .Assign [.Name x px] e _ => !hot && setLcB G tb N sc as i x px hot e
    | _ => false
  | .par i j a b, hot, st => match st with
    | .Assign [.Tuple [.Name x px, .Name y py] _ _] (.Tuple [ea, eb] _ _) _ => !hot && (parB N sc i j x y px py ea eb && (!a.isPk && (!b.isPk && (chkE G tb N hot a sc ea && chkE G tb N hot b sc eb))))
    | _ => false
  | .mut o f as, hot, st => match f, as, st with
    | .append, .cons a .nil, .Expr (.Call (.Attribute o' m apos) [v] [] cp) _ => decide (m = "append") && (noSuper o' && ((apos.endLine == cp.line) && (plainArg v && (!a.isPk && (chkE G tb N hot o sc o' && chkE G tb N hot a sc v)))))
    | _, _, _ => false
  | .seti o i v, hot, st => match st with
    | .Assign [.Subscript o' i' _] v' _ => plainIxB i' && (!i.isPk && (!v.isPk && (chkE G tb N hot o sc o' && (chkE G tb N hot i sc i' && chkE G tb N hot v sc v'))))
    | _ => false
  | .fld i f c, hot, st => match st with
    | .Assign [.Attribute (.Name x _) f' _] v _ => decide (f = f') && (nameB N sc i x && (!c.isPk && chkE G tb N hot c sc v))
    | _ => false
  | .ret c, hot, st => match st with
    | .Return (some e) _ => !c.isPk && chkE G tb N hot c sc e
    | _ => false
  | .retN, _, st => match st with
    | .Return none _ => true
    | _ => false
  | .if_ c a b, hot, st => match st with
    | .If e s1 s2 _ => chkT G tb N hot c sc e && (chkL a hot s1 && chkL b hot s2)
    | _ => false
  | .for_ t it b, hot, st => match st with
    | .For tg it' body [] _ => !hot && (noSet it' && (tgB N sc t tg && (chkI G tb N hot it sc it' && chkL b hot body)))
    | _ => false
  | .wh c b, hot, st => match st with
    | .While e body [] _ => chkT G tb N hot c sc e && chkL b hot body
    | _ => false
  | .brk, _, st => match st with
    | .Break _ => true
    | _ => false
  | .cnt, _, st => match st with
    | .Continue _ => true
    | _ => false
  | .raise c as, hot, st => match as, st with
    | .cons a .nil, .Raise (some (.Call (.Name x _) [e] [] _)) none _ => (match G.exc[c]? with
      | some y => !hot && (decide (y.fields.length = 1) && (decide (x = tb.x c) && (gloB sc x && (plainArg e && (!a.isPk && chkE G tb N hot a sc e)))))
      | none => false)
    | _, _ => false
  | .try_ b c i s, hot, st => match st with
    | .Try body [.ExceptHandler (some (.Name x _)) (some nme) (b₀ :: suite) _] [] [] _ => !hot && ((G.exc[c]?).isSome && (decide (x = tb.x c) && (gloB sc x && (decide (N[i]? = some nme) && (locP sc nme && (chkL b hot body && chkL s true (b₀ :: suite)))))))
    | _ => false
  | _, _, _ => false
def chkL : S → Bool → List Stmt → Bool
  | .skip, _, sts => sts.isEmpty
  | .stuck, _, _ => true
  | .seq a b, hot, sts => match sts with
    | st :: sts => chkS a hot st && chkL b hot sts
    | [] => false
  | _, _, _ => false
end
end
/-- what the checks of a statement show -/
structure SndS (Γ : Ge) (N : List Str) (sc : Scope) (z : S) : Prop where
  s : ∀ {hot n cs W X st}, Here Γ N sc cs W hot (3 * n + 2) X → HereS X → Lib Γ n → chkS Γ.pg Γ.tb N sc z hot st = true → PS X st (tS Γ cs W (evS (parN Γ n) z))
  l : ∀ {hot n cs W X sts}, Here Γ N sc cs W hot (3 * n + 2) X → HereS X → Lib Γ n → chkL Γ.pg Γ.tb N sc z hot sts = true → PSs X sts (tS Γ cs W (evS (parN Γ n) z))
section
variable {Γ : Ge} {N : List Str} {sc : Scope} {s s1 s2 : S}
theorem sndS_s (hl : ∀ hot sts, chkL Γ.pg Γ.tb N sc s hot sts = false) (hs : ∀ {hot n cs W X st}, Here Γ N sc cs W hot (3 * n + 2) X → HereS X → Lib Γ n → chkS Γ.pg Γ.tb N sc s hot st = true → PS X st (tS Γ cs W (evS (parN Γ n) s))) : SndS Γ N sc s :=
  ⟨hs, fun _ _ _ h => absurd (h.symm.trans (hl _ _)) (by decide)⟩
theorem s_setLcB (T : Tops Γ) (Er : Errs Γ) {c : C} {i n : Nat} {x : Str} {px pos : Pos} {e : Expr} {cs : List Cau} {W : WX} {X : Cx} (C : Here Γ N sc cs W false (3 * n + 2) X) (B : HereS X) (L : Lib Γ n) (h : setLcB Γ.pg Γ.tb N sc c i x px false e = true) :
    PS X (.Assign [.Name x px] e pos) (tS Γ cs W (evS (parN Γ n) (.asg (.nm i) c))) := by
  unfold setLcB at h
  split at h
  · split at h
    · rename_i elt' gens scope pos' _ elt t it cond own
      obtain ⟨y1, h⟩ := ba2 h
      obtain ⟨y2, h⟩ := ba2 h
      obtain ⟨y3, h⟩ := ba2 h
      obtain ⟨y4, h⟩ := ba2 h
      unfold chkE at h
      split at h
      · rename_i elt2 tg it' ifs scope2 pos2 heq
        cases heq
        obtain ⟨_, h⟩ := ba2 h
        obtain ⟨h2, h⟩ := ba2 h
        obtain ⟨h3, h⟩ := ba2 h
        obtain ⟨h4, h⟩ := ba2 h
        obtain ⟨h5, h⟩ := ba2 h
        obtain ⟨h6, h⟩ := ba2 h
        obtain ⟨h7, h⟩ := ba2 h
        obtain ⟨h8, h9⟩ := ba2 h
        obtain ⟨b1, b2⟩ := blk_ok h3
        have key := s_setLc (a := it) (b := elt) (c := cond) (pos := pos') (spos := pos) (t := t) (i := i) (y := x) (py := px) C B (of_decide_eq_true y1) (locP_is y2) h2 ((snd_all T Er it).i (tg := tg) C L h6) b1 b2 ⟨y3, nb y4⟩ h4 (fun i hi => by
            rw [ownN_snd]
            exact of_decide_eq_true (List.all_eq_true.mp h5 i hi)) (ifs := ifs) (elt := elt') (fun Xb Cb => by
              split at h7
              · have := isYes_is h7
                subst this
                refine ⟨fun pins s σ H Q I q => pts_nil.run pins s σ H Q I ?_⟩
                obtain ⟨p, F, ι, e, m, S, q⟩ := q
                exact K1.ok (a := true) q S
              · exact pts_one ((snd_all T Er cond).t Cb L h7).1
              · cases h7) (fun Xb Cb => (snd_all T Er elt).e1 (nb h8) Cb L h9) B.bk
        rw [ownN_snd] at key
        exact key
      · cases h
    · cases h
  · cases h
theorem s_ownLcB (T : Tops Γ) (Er : Errs Γ) {c : C} {i n : Nat} {x : Str} {px pos : Pos} {e : Expr} {cs : List Cau} {W : WX} {X : Cx} (C : Here Γ N sc cs W false (3 * n + 2) X) (B : HereS X) (L : Lib Γ n) (h : setLcB Γ.pg Γ.tb N sc c i x px false e = true) :
    PS X (.Assign [.Name x px] e pos) (tS Γ cs W (evS (parN Γ n) (.own i c))) := by
  unfold setLcB at h
  split at h
  · split at h
    · rename_i elt' gens scope pos' _ elt t it cond own
      obtain ⟨y1, h⟩ := ba2 h
      obtain ⟨y2, h⟩ := ba2 h
      obtain ⟨y3, h⟩ := ba2 h
      obtain ⟨y4, h⟩ := ba2 h
      unfold chkE at h
      split at h
      · rename_i elt2 tg it' ifs scope2 pos2 heq
        cases heq
        obtain ⟨_, h⟩ := ba2 h
        obtain ⟨h2, h⟩ := ba2 h
        obtain ⟨h3, h⟩ := ba2 h
        obtain ⟨h4, h⟩ := ba2 h
        obtain ⟨h5, h⟩ := ba2 h
        obtain ⟨h6, h⟩ := ba2 h
        obtain ⟨h7, h⟩ := ba2 h
        obtain ⟨h8, h9⟩ := ba2 h
        obtain ⟨b1, b2⟩ := blk_ok h3
        have key := s_ownLc (a := it) (b := elt) (c := cond) (pos := pos') (spos := pos) (t := t) (i := i) (y := x) (py := px) C B (of_decide_eq_true y1) (locP_is y2) h2 ((snd_all T Er it).i (tg := tg) C L h6) b1 b2 ⟨y3, nb y4⟩ h4 (fun i hi => by
            rw [ownN_snd]
            exact of_decide_eq_true (List.all_eq_true.mp h5 i hi)) (ifs := ifs) (elt := elt') (fun Xb Cb => by
              split at h7
              · have := isYes_is h7
                subst this
                refine ⟨fun pins s σ H Q I q => pts_nil.run pins s σ H Q I ?_⟩
                obtain ⟨p, F, ι, e, m, S, q⟩ := q
                exact K1.ok (a := true) q S
              · exact pts_one ((snd_all T Er cond).t Cb L h7).1
              · cases h7) (fun Xb Cb => (snd_all T Er elt).e1 (nb h8) Cb L h9) B.bk
        rw [ownN_snd] at key
        exact key
      · cases h
    · cases h
  · cases h
/-- every core statement's check is right -/
theorem sndS_all (T : Tops Γ) (Er : Errs Γ) (L0 : Lib Γ 0) : ∀ s : S, SndS Γ N sc s := by
  intro s
  have E := snd_all (N := N) T Er
  induction s with
  | skip =>
    refine ⟨fun {hot n cs W X st} C B L h => ?_, fun {hot n cs W X sts} C B L h => ?_⟩
    · unfold chkS at h
      split at h
      · exact s_pass
      · cases h
    · unfold chkL at h
      have := List.isEmpty_iff.mp h
      subst this
      exact s_nil
  | stuck => exact ⟨fun _ _ _ _ => s_stuck, fun _ _ _ _ => ss_stuck⟩
  | seq a b A B' =>
    refine ⟨fun _ _ _ h => absurd h Bool.false_ne_true, fun {hot n cs W X sts} C B L h => ?_⟩
    cases sts with
    | nil => exact absurd h Bool.false_ne_true
    | cons st sts =>
      obtain ⟨h1, h2⟩ := ba2 (show (chkS Γ.pg Γ.tb N sc a hot st && chkL Γ.pg Γ.tb N sc b hot sts) = true from h)
      exact s_seq (A.s C B L h1) (B'.l C B L h2)
  | ex c =>
    refine sndS_s (fun _ _ => rfl) fun {hot n cs W X st} C B L h => ?_
    unfold chkS at h
    split at h
    · obtain ⟨h1, h⟩ := ba2 h
      obtain ⟨h2, h3⟩ := ba2 h
      exact s_ex h1 ((E c).e1 (nb h2) C L h3)
    · cases h
  | asg t c =>
    refine sndS_s (fun _ _ => rfl) fun {hot n cs W X st} C B L h => ?_
    unfold chkS at h
    split at h
    · rcases Bool.or_eq_true_iff.mp h with h | h
      · obtain ⟨h1, h⟩ := ba2 h
        obtain ⟨h2, h⟩ := ba2 h
        obtain ⟨h3, h4⟩ := ba2 h
        exact s_asg1 C B h1 h2 ((E c).e1 (nb h3) C L h4)
      · obtain ⟨h1, h2⟩ := ba2 h
        cases nb h1
        exact s_setLcB T Er C B L h2
    · obtain ⟨h1, h⟩ := ba2 h
      obtain ⟨h2, h⟩ := ba2 h
      obtain ⟨h3, h⟩ := ba2 h
      obtain ⟨h4, h5⟩ := ba2 h
      cases nb h1
      exact s_asg C B h2 h3 rfl rfl ((E c).e1 (nb h4) C L h5)
    · cases h
  | own i as =>
    refine sndS_s (fun _ _ => rfl) fun {hot n cs W X st} C B L h => ?_
    unfold chkS at h
    split at h
    · obtain ⟨h1, h⟩ := ba2 h
      obtain ⟨h2, h3⟩ := ba2 h
      cases nb h1
      cases as <;> first | (exact s_own C B h2 ((E _).a C L h3).1) | (exact absurd h3 Bool.false_ne_true)
    · rename_i x px keys vals p1 pos
      obtain ⟨h1, h⟩ := ba2 h
      cases nb h1
      unfold ownDB at h
      split at h
      · rename_i ks a _
        obtain ⟨h2, h⟩ := ba2 h
        obtain ⟨h3, h⟩ := ba2 h
        obtain ⟨h4, h⟩ := ba2 h
        obtain ⟨h5, h6⟩ := ba2 h
        obtain ⟨q1, q2, q3, q4, q5, _⟩ := (E a).d (pos := p1) C L h3
        exact s_ownD C B h2 q2 q3 q4 q5 (fun z => by rw [z] at h6; cases h6) (of_decide_eq_true h5) (of_decide_eq_true h4) q1
      · cases h
    · obtain ⟨h1, h⟩ := ba2 h
      cases nb h1
      exact s_ownLcB T Er C B L h
    · cases h
  | par i j a b =>
    refine sndS_s (fun _ _ => rfl) fun {hot n cs W X st} C B L h => ?_
    unfold chkS at h
    split at h
    · obtain ⟨h1, h⟩ := ba2 h
      obtain ⟨h2, h⟩ := ba2 h
      obtain ⟨h3, h⟩ := ba2 h
      obtain ⟨h4, h⟩ := ba2 h
      obtain ⟨h5, h6⟩ := ba2 h
      cases nb h1
      exact s_par C B.bk h2 ((E a).e1 (nb h3) C L h5) ((E b).e1 (nb h4) C L h6)
    · cases h
  | aug i op c => exact ⟨fun _ _ _ h => absurd h Bool.false_ne_true, fun _ _ _ h => absurd h Bool.false_ne_true⟩
  | «mut» o f as =>
    refine sndS_s (fun _ _ => rfl) fun {hot n cs W X st} C B L h => ?_
    unfold chkS at h
    split at h
    · rename_i a o' m apos v cp pos
      obtain ⟨h1, h⟩ := ba2 h
      obtain ⟨h2, h⟩ := ba2 h
      obtain ⟨h3, h⟩ := ba2 h
      obtain ⟨h4, h⟩ := ba2 h
      obtain ⟨h5, h⟩ := ba2 h
      obtain ⟨h6, h7⟩ := ba2 h
      cases of_decide_eq_true h1
      exact s_app C h2 h3 h4 ((E o).e C L h6) ((E a).e1 (nb h5) C L h7)
    · cases h
  | seti o i v =>
    refine sndS_s (fun _ _ => rfl) fun {hot n cs W X st} C B L h => ?_
    unfold chkS at h
    split at h
    · obtain ⟨h1, h⟩ := ba2 h
      obtain ⟨h2, h⟩ := ba2 h
      obtain ⟨h3, h⟩ := ba2 h
      obtain ⟨h4, h⟩ := ba2 h
      obtain ⟨h5, h6⟩ := ba2 h
      exact s_seti C h1 ((E o).e C L h4) ((E i).e1 (nb h2) C L h5) ((E v).e1 (nb h3) C L h6)
    · cases h
  | fld i f c =>
    refine sndS_s (fun _ _ => rfl) fun {hot n cs W X st} C B L h => ?_
    unfold chkS at h
    split at h
    · obtain ⟨h1, h⟩ := ba2 h
      obtain ⟨h2, h⟩ := ba2 h
      obtain ⟨h3, h4⟩ := ba2 h
      cases of_decide_eq_true h1
      exact s_fld C T h2 ((E c).e1 (nb h3) C L h4)
    · cases h
  | ret c =>
    refine sndS_s (fun _ _ => rfl) fun {hot n cs W X st} C B L h => ?_
    unfold chkS at h
    split at h
    · obtain ⟨h1, h2⟩ := ba2 h
      exact s_ret ((E c).e1 (nb h1) C L h2)
    · cases h
  | retN =>
    refine sndS_s (fun _ _ => rfl) fun {hot n cs W X st} C B L h => ?_
    unfold chkS at h
    split at h
    · exact s_retN
    · cases h
  | if_ c a b A B' =>
    refine sndS_s (fun _ _ => rfl) fun {hot n cs W X st} C B L h => ?_
    unfold chkS at h
    split at h
    · obtain ⟨h1, h⟩ := ba2 h
      obtain ⟨h2, h3⟩ := ba2 h
      exact s_if ((E c).t C L h1).1 (A.l C B L h2) (B'.l C B L h3)
    · cases h
  | for_ t it b A =>
    refine sndS_s (fun _ _ => rfl) fun {hot n cs W X st} C B L h => ?_
    unfold chkS at h
    split at h
    · obtain ⟨h1, h⟩ := ba2 h
      obtain ⟨h2, h⟩ := ba2 h
      obtain ⟨h3, h⟩ := ba2 h
      obtain ⟨h4, h5⟩ := ba2 h
      cases nb h1
      exact s_for C B h2 h3 ((E it).i C L h4) (A.l C B L h5)
    · cases h
  | wh c b A =>
    refine sndS_s (fun _ _ => rfl) fun {hot n cs W X st} C B L h => ?_
    unfold chkS at h
    split at h
    · obtain ⟨h1, h2⟩ := ba2 h
      exact s_wh B ((E c).t C L h1).1 (A.l C B L h2)
    · cases h
  | brk =>
    refine sndS_s (fun _ _ => rfl) fun {hot n cs W X st} C B L h => ?_
    unfold chkS at h
    split at h
    · exact s_brk
    · cases h
  | cnt =>
    refine sndS_s (fun _ _ => rfl) fun {hot n cs W X st} C B L h => ?_
    unfold chkS at h
    split at h
    · exact s_cnt
    · cases h
  | raise c as =>
    refine sndS_s (fun _ _ => rfl) fun {hot n cs W X st} C B L h => ?_
    unfold chkS at h
    split at h
    · rename_i a x p1 e p' pos
      split at h
      · rename_i y hy
        obtain ⟨h1, h⟩ := ba2 h
        obtain ⟨h2, h⟩ := ba2 h
        obtain ⟨h3, h⟩ := ba2 h
        obtain ⟨h4, h⟩ := ba2 h
        obtain ⟨h5, h⟩ := ba2 h
        obtain ⟨h6, h7⟩ := ba2 h
        cases nb h1
        obtain ⟨f, hf⟩ := List.length_eq_one_iff.mp (of_decide_eq_true h2)
        exact s_raise C T Er hy hf (of_decide_eq_true h3) h4 h5 ((E a).e1 (nb h6) C L h7)
      · cases h
    · cases h
  | try_ b c i s A A2 =>
    refine sndS_s (fun _ _ => rfl) fun {hot n cs W X st} C B L h => ?_
    unfold chkS at h
    split at h
    · obtain ⟨h1, h⟩ := ba2 h
      obtain ⟨h2, h⟩ := ba2 h
      obtain ⟨h3, h⟩ := ba2 h
      obtain ⟨h4, h⟩ := ba2 h
      obtain ⟨h5, h⟩ := ba2 h
      obtain ⟨h6, h⟩ := ba2 h
      obtain ⟨h7, h8⟩ := ba2 h
      cases nb h1
      have hcs := C.nocs rfl
      subst hcs
      obtain ⟨y, hy⟩ := Option.isSome_iff_exists.mp h2
      exact s_try C B T Er hy (of_decide_eq_true h3) h4 (of_decide_eq_true h5) (locP_is h6) (fun W' X' C' B' => A.l C' B' L h7) (fun cs' X' C' B' => A2.l C' B' L0 h8)
    · cases h
end
end G
end
section
set_option Elab.async false
set_option linter.all false
set_option maxRecDepth 100000
set_option maxHeartbeats 4000000
/-! G: the text's defs are what the evaluator runs, at every depth. -/
namespace G
open PySem PySem.Spec PyProof.Rows L2
section
variable {Γ : Ge} {cs : List Cau} {p : En0} {F H : Hp} {ι : List Addr} {e : En} {m : Mu} {σ : St}
theorem Sim.bare (S : Sim Γ cs p F ι e m σ H) : Sim Γ [] ⟨p.H, p.F, p.ι, none⟩ F ι [] m [] H := by
  obtain ⟨as, r, nd, fr, ow⟩ := S.env
  exact ⟨S.sub, S.ext, S.cel, ⟨[], .nil, by simpa using (List.nodup_append.mp nd).1, fun a ha => fr a (List.mem_append_left _ (by simpa using ha)), fun a ha => by cases ha⟩, S.keep, S.newF, S.newC, fun a h => by cases h⟩
theorem env_start : ∀ {vs : List V} {ds : List D} (j : Nat), Reps Γ F ι vs ds → EnvR Γ F ι H cs (ds.map EV.val ++ List.replicate j .no) (vs.map some ++ List.replicate j none) []
  | _, _, 0, .nil => .nil
  | _, _, j + 1, .nil => .no (env_start j .nil)
  | _, _, j, .cons r t => .val r (env_start j t)
end
/-- a def's text -/
structure DT where
  N : List Str
  name : Str
  qual : Str
  params : Arguments
  body : List Stmt
  scope : Scope
def scB (N P : List Str) (sc : Scope) : Bool :=
  decide (sc.kind = .function) && (!sc.isCoroutine && (!sc.isGenerator && (decide N.Nodup && (decide (N.take P.length = P) && (P.all (fun x => decide (sc.names.lookup x = some .local) || decide (sc.names.lookup x = some .cell)) && sc.names.all (fun y => decide (y.2 ≠ .free)))))))
theorem sc_ok {N P : List Str} {sc : Scope} (h : scB N P sc = true) : FnScope N P sc := by
  unfold scB at h
  simp only [Bool.and_eq_true, decide_eq_true_eq, List.all_eq_true, Bool.or_eq_true, Bool.not_eq_true'] at h
  obtain ⟨h1, h2, h3, h4, h5, h6, h7⟩ := h
  exact ⟨h1, h2, h3, h4, h5, fun x hx => h6 x hx, fun y hy => h7 y hy⟩
def dtB (G : Pg) (tb : Tb) (d : DT) (ps : List Str) (t : Fn) : Bool :=
  scB d.N ps d.scope && (decide (t.np = ps.length) && (decide (t.nn = d.N.length) && chkL G tb d.N d.scope t.body false d.body))
structure DefOk (Γ : Ge) (f : Nat) (t : Fn) : Prop where
  ex : ∃ (d : DT) (dvs : List V) (kws : List (Str × V)), FunD Γ.K d.name d.qual d.params d.body d.scope dvs kws (Γ.fad f) (Γ.fdd f) ∧ dtB Γ.pg Γ.tb d (Γ.fps f) t = true
  fn : PySem.W.isFn Γ.K (.ref (Γ.fad f)) = true
section
variable {Γ : Ge}
theorem run_len {n f : Nat} {t : Fn} (ht : Γ.pg.fns[f]? = some t) {p : En0} {F : Hp} {ι : List Addr} {ds : List D} {m : Mu} {Q : VK} {E : XK} (h : KR Γ p F ι (run Γ.pg n f ds m) Q E) : ds.length = t.np := by
  cases n with
  | zero => exact h.elim
  | succ n =>
    by_cases z : ds.length = t.np
    · exact z
    · simp only [run, ht, if_neg z] at h
      exact h.elim
theorem mk_len {n c : Nat} {k : Cl} {t : Fn} (hk : Γ.pg.cls[c]? = some k) (ht : Γ.pg.fns[k.init]? = some t) {p : En0} {F : Hp} {ι : List Addr} {ds : List D} {m : Mu} {Q : VK} {E : XK} (h : KR Γ p F ι (mk Γ.pg n c ds m) Q E) : ds.length + 1 = t.np := by
  cases n with
  | zero => exact h.elim
  | succ n =>
    by_cases z : ds.length + 1 = t.np
    · exact z
    · simp only [mk, hk, ht, if_neg z] at h
      exact h.elim
theorem ini_start {vs : List EV} {us : List (Option V)} {N : List Str} {n : Nat} (hl : vs.length = us.length) (hn : n = N.length) : ini vs n = vs ++ List.replicate (N.length - us.length) .no := by
  unfold ini
  rw [hl, hn]
/-- the body's context -/
theorem here_of {P : Program} {n : Nat} {d : DT} {A : Around} {outer : List Env} {s : Shared} {H : Hp} {E : XK} {f : Addr} {cdv : Value} (hnd : d.N.Nodup) (hr : RoomG (3 * n + 2) (A.deeper (envOfC d.qual d.scope s.heap.objs.size f cdv))) :
    Here Γ d.N d.scope [] (fun cls dd _ H => E cls dd H) false (3 * n + 2) (cxOf (L2.CX Γ.prog Γ.w) Γ.prog Γ.w Γ.K Γ.mg Γ.base d.N d.qual d.scope f cdv A outer s H E) where
  prog := rfl
  w := rfl
  K := rfl
  mg := rfl
  base := rfl
  nm := rfl
  nd := hnd
  sc := rfl
  calm := fun _ => rfl
  room := fun _ => hr.r
  gds := hr.g
  cold := fun h => by cases h
  nocs := fun _ => rfl
  caus := fun x hx => by cases hx
  unit := by
    have := hr.r.un
    show (A.deeper _).units + _ + _ < _
    omega
  tk := takes_of rfl rfl rfl rfl
theorem hereS_of {d : DT} (hk : d.scope.kind = .function) {A : Around} {outer : List Env} {s : Shared} {H : Hp} {E : XK} {f : Addr} {cdv : Value} : HereS (cxOf (L2.CX Γ.prog Γ.w) Γ.prog Γ.w Γ.K Γ.mg Γ.base d.N d.qual d.scope f cdv A outer s H E) :=
  ⟨passes_of rfl, rfl, rfl, fun _ => rfl, by
    show (if d.scope.kind.isAnnotationScope then ScopeKind.function else d.scope.kind) = _
    rw [hk]
    rfl⟩
theorem fnA_zero {a : Addr} {fd : FuncData} {ps : List Str} {sp : Sp} (kp : PySem.W.keepIn Γ.K (.ref a) = true) (fn : PySem.W.isFn Γ.K (.ref a) = true) (h : ∀ vs H Q E, ¬ sp vs H Q E) : FnA Γ 0 a fd ps sp :=
  ⟨⟨fun vs H Q E q => (h vs H Q E q).elim, fun A outer s H args us vs Q E _ _ _ _ q => (h vs H Q E q).elim⟩, kp, fn⟩
/-- the defs -/
theorem lib_fn (T : Tops Γ) (Er : Errs Γ) (L0 : Lib Γ 0) {n f : Nat} {t : Fn} (L : Lib Γ n) (ht : Γ.pg.fns[f]? = some t) (D : DefOk Γ f t) : FnA Γ (3 * (n + 1)) (Γ.fad f) (Γ.fdd f) (Γ.fps f) (spF Γ (n + 1) f) := by
  obtain ⟨d, dvs, kws, Fd, hd⟩ := D.ex
  unfold dtB at hd
  obtain ⟨h1, hd⟩ := ba2 hd
  obtain ⟨h2, hd⟩ := ba2 hd
  obtain ⟨h3, h4⟩ := ba2 hd
  have sc := sc_ok h1
  have h2 := of_decide_eq_true h2
  have h3 := of_decide_eq_true h3
  have len : ∀ vs H Q E, spF Γ (n + 1) f vs H Q E → vs.length = (Γ.fps f).length := fun vs H Q E ⟨F, ι, ds, m, S, r, k⟩ => by rw [r.length, run_len ht k, h2]
  refine ⟨funD_okG Fd (k := 3 * n + 2) sc len fun cdv A outer s H vs Q E hr hsp => ?_, Fd.kp, D.fn⟩
  have hl := len _ _ _ _ hsp
  obtain ⟨F, ι, ds, m, S, r, k⟩ := hsp
  have C := here_of (Γ := Γ) (P := Γ.prog) (outer := outer) (H := H) (E := E) sc.nd hr
  refine ⟨_, (sndS_all T Er L0 t.body).l C (hereS_of sc.kind) L h4, ⟨H, F, ι, none⟩, F, ι, ini (ds.map .val) t.nn, m, ?_, ?_⟩
  · obtain ⟨as, q, nd, fr, ow⟩ := S.env
    cases q
    refine ⟨S.sub, S.ext, S.cel, ⟨[], ?_, nd, fr, ow⟩, S.keep, S.newF, S.newC, fun a h => by cases h⟩
    rw [ini_start (us := vs.map some) (by rw [List.length_map, List.length_map, r.length]) h3, List.length_map]
    exact env_start _ r
  · have hd := run_len ht k
    simp only [run, ht, if_pos hd] at k
    show KS Γ [] ⟨H, F, ι, none⟩ F ι _ (evS (parN Γ n) t.body (ini (ds.map .val) t.nn) m) _
    have k : KR Γ ⟨H, F, ι, none⟩ F ι (evS (parN Γ n) t.body (ini (ds.map .val) t.nn) m).fin Q E := k
    cases hr : evS (parN Γ n) t.body (ini (ds.map .val) t.nn) m with
    | nx e m' => rw [hr] at k; exact fun F' ι' σ' H' S' x => k .non F' ι' H' S'.bare x .non
    | ret d' e m' => rw [hr] at k; exact fun F' ι' σ' H' v S' x rv => k v F' ι' H' S'.bare x rv
    | ex c fs e m' => rw [hr] at k; exact fun dd F' ι' σ' H' S' x rx => k dd F' ι' H' S'.bare x rx
    | brk e m' => rw [hr] at k; exact k.elim
    | cnt e m' => rw [hr] at k; exact k.elim
    | no => rw [hr] at k; exact k.elim
/-- the __init__s -/
theorem lib_mk (T : Tops Γ) (Er : Errs Γ) (L0 : Lib Γ 0) {n c : Nat} {kl : Cl} {t : Fn} (L : Lib Γ n) (hk : Γ.pg.cls[c]? = some kl) (ht : Γ.pg.fns[kl.init]? = some t) (D : DefOk Γ kl.init t) : FnA Γ (3 * (n + 1)) (Γ.fad kl.init) (Γ.fdd kl.init) (Γ.fps kl.init) (spI Γ (n + 1) c) := by
  obtain ⟨d, dvs, kws, Fd, hd⟩ := D.ex
  unfold dtB at hd
  obtain ⟨h1, hd⟩ := ba2 hd
  obtain ⟨h2, hd⟩ := ba2 hd
  obtain ⟨h3, h4⟩ := ba2 hd
  have sc := sc_ok h1
  have h2 := of_decide_eq_true h2
  have h3 := of_decide_eq_true h3
  have len : ∀ vs H Q E, spI Γ (n + 1) c vs H Q E → vs.length = (Γ.fps kl.init).length := fun vs H Q E ⟨H1, F, ι, ds, m, x, dx, ws, e1, e2, n1, n2, ne, S, r, k⟩ => by
    rw [e1, List.length_cons, r.length, mk_len hk ht k, h2]
  refine ⟨funD_okG Fd (k := 3 * n + 2) sc len fun cdv A outer s H vs Q E hr hsp => ?_, Fd.kp, D.fn⟩
  have hl := len _ _ _ _ hsp
  obtain ⟨H1, F, ι, ds, m, x, dx, ws, e1, e2, n1, n2, ne, S, r, k⟩ := hsp
  have C := here_of (Γ := Γ) (P := Γ.prog) (outer := outer) (H := H) (E := E) sc.nd hr
  have hxn : upd H1 dx (.own x) x = none := by rw [upd_ne (Ne.symm ne)]; exact n1
  refine ⟨_, (sndS_all T Er L0 t.body).l C (hereS_of sc.kind) L h4, ⟨H1, F, ι, some x⟩, F, ι, ini (.own (.ins c []) :: ds.map .val) t.nn, m, ?_, ?_⟩
  · have S2 := (S.laid (o := .own x) n2).laid (o := .ins (Γ.cad c) dx []) hxn
    rw [← e2] at S2
    obtain ⟨as, q, nd, fr, ow⟩ := S2.env
    cases q
    have hxi : x ∉ ι := S.freeC n1
    refine ⟨S2.sub, S2.ext, S2.cel, ⟨[x], ?_, ?_, fun a ha => ?_, fun a ha => ?_⟩, S2.keep, S2.newF, S2.newC, fun a h d2 hd2 => ?_⟩
    · subst e1
      rw [ini_start (us := (V.ref x :: ws).map some) (by simp [r.length]) h3, List.length_map]
      exact .own (.ins (by rw [e2]; exact upd_same) .nil) (env_start _ r)
    · exact List.nodup_append.mpr ⟨by simpa using nd, by simp, fun a ha b hb z => hxi (by
        have : b = x := by simpa using hb
        rw [← this, ← z]
        exact ha)⟩
    · rcases List.mem_append.mp ha with z | z
      · exact fr a (by simpa using z)
      · have : a = x := by simpa using z
        rw [this]
        exact S.freeF n1
    · have : a = x := by simpa using ha
      rw [this]
      exact n1
    · have h : some x = some a := h
      cases h
      rw [e1]
      rfl
  · have hd := mk_len hk ht k
    simp only [mk, hk, ht, if_pos hd] at k
    show KS Γ [] ⟨H1, F, ι, some x⟩ F ι _ (evS (parN Γ n) t.body (ini (.own (.ins c []) :: ds.map .val) t.nn) m) _
    have k : KR Γ ⟨H1, F, ι, none⟩ F ι (evS (parN Γ n) t.body (ini (.own (.ins c []) :: ds.map .val) t.nn) m).fin0 (fun v H' => v = .ref x → Q .non H') E := k
    have fin : ∀ {e : En} {m' : Mu} {F' : Hp} {ι' : List Addr} {σ' : St} {H' : Hp}, KR Γ ⟨H1, F, ι, none⟩ F ι (match (e.head? : Option EV) with
        | some (EV.own d) => .ok d m'
        | _ => .no) (fun v H' => v = .ref x → Q .non H') E → Sim Γ [] ⟨H1, F, ι, some x⟩ F' ι' e m' σ' H' → Ext F ι F' ι' → Q .non H' := by
      intro e m' F' ι' σ' H' k S' x'
      split at k
      · rename_i d' he
        have he0 : e[0]? = some (.own d') := by rw [← List.head?_eq_getElem?]; exact he
        obtain ⟨a, F2, hs, S2, x2, rep⟩ := S'.thaw he0
        have := S'.slf x rfl d' he0
        rw [hs] at this
        cases this
        exact k (.ref x) F2 ι' H' S2.bare (x'.trans x2) rep rfl
      · exact k.elim
    cases hr : evS (parN Γ n) t.body (ini (.own (.ins c []) :: ds.map .val) t.nn) m with
    | nx e m' => rw [hr] at k; exact fun F' ι' σ' H' S' x' => fin k S' x'
    | ret d' e m' =>
      rw [hr] at k
      cases d' <;> first | exact k.elim | skip
      intro F' ι' σ' H' v S' x' rv
      cases rv
      exact fin k S' x'
    | ex c' fs e m' => rw [hr] at k; exact fun dd F' ι' σ' H' S' x' rx => k dd F' ι' H' S'.bare x' rx
    | brk e m' => rw [hr] at k; exact k.elim
    | cnt e m' => rw [hr] at k; exact k.elim
    | no => rw [hr] at k; exact k.elim
/-- all defs at every depth -/
theorem lib_all (T : Tops Γ) (Er : Errs Γ) (Ds : ∀ f t, Γ.pg.fns[f]? = some t → DefOk Γ f t) (Is : ∀ (c : Nat) (k : Cl), Γ.pg.cls[c]? = some k → ∃ t, Γ.pg.fns[k.init]? = some t) : ∀ n, Lib Γ n := by
  have kp : ∀ f t, Γ.pg.fns[f]? = some t → PySem.W.keepIn Γ.K (.ref (Γ.fad f)) = true := fun f t h => by
    obtain ⟨d, dvs, kws, Fd, _⟩ := (Ds f t h).ex
    exact Fd.kp
  have L0 : Lib Γ 0 := ⟨fun f t ht => fnA_zero (kp f t ht) (Ds f t ht).fn fun vs H Q E ⟨F, ι, ds, m, S, r, k⟩ => k.elim, fun c k hk => by
    obtain ⟨t, ht⟩ := Is c k hk
    exact fnA_zero (kp _ t ht) (Ds _ t ht).fn fun vs H Q E ⟨H1, F, ι, ds, m, x, dx, ws, e1, e2, n1, n2, ne, S, r, k⟩ => k.elim⟩
  intro n
  induction n with
  | zero => exact L0
  | succ n ih =>
    refine ⟨fun f t ht => lib_fn T Er L0 ih ht (Ds f t ht), fun c k hk => ?_⟩
    obtain ⟨t, ht⟩ := Is c k hk
    exact lib_mk T Er L0 ih hk ht (Ds _ t ht)
end
end G
end
section
set_option Elab.async false
set_option linter.all false
set_option maxRecDepth 100000
set_option maxHeartbeats 4000000
/-! G: what the top has left, by one boolean check of its objects. -/
namespace G
open PySem PySem.Spec PyProof.Rows L2
open He (ga ma fAd eqO eqO_ok)
/-! ### the written part without lists -/
def isListO (o : Obj) : Bool := match o.cls with
  | .type n => n == "list"
  | _ => false
def frL (g : Addr → Option Obj) : List Addr → PySem.W.Frag
  | [] => []
  | a :: as => match g a with
    | some o => if isListO o then frL g as else (a, o) :: frL g as
    | none => frL g as
theorem frL_at {g : Addr → Option Obj} {a : Addr} {o : Obj} : ∀ as : List Addr, (frL g as).lookup a = some o → g a = some o ∧ isListO o = false
  | [], e => nomatch (show (none : Option Obj) = some o from e)
  | b :: r, e => by
    unfold frL at e
    split at e
    · rename_i o1 h1
      split at e
      · exact frL_at r e
      · rename_i h2
        unfold List.lookup at e
        split at e
        · rename_i h3
          have e1 : a = b := by simpa using h3
          subst e1
          cases e
          exact ⟨h1, by simpa using h2⟩
        · exact frL_at r e
    · exact frL_at r e
theorem frL_in {as : List Addr} {h : Heap} : (frL h.get? as).In h := fun _ _ e => (frL_at as e).1
/-! ### the tables -/
structure FT where
  at_ : Str × Option Str
  d : DT
  ps : List Str
  dfl : List He.Dv
  kwd : List (Str × He.Dv)
def FT.dd (x : FT) : He.DefD := ⟨x.at_, x.d.name, x.d.qual, x.d.params, x.d.body, x.d.scope, x.dfl, x.kwd⟩
structure XT where
  ft : FT
  pn : Str
structure Tab where
  pg : Pg
  tb : Tb
  fts : List FT
  xts : List (Option XT)
  more : PySem.W.Frag → Bool
/-- a keyword-only default that is an object -/
def kwdAt (f : Str × Option Str) (x : Str) (K : PySem.W.Frag) : Addr := match K.lookup (fAd K f) with
  | some ⟨_, _, .func fd, _⟩ => (match fd.kwdefaults with
    | .ref D => (match PySem.W.nsIn K D x with
      | some (some (.ref a)) => a
      | _ => 0)
    | _ => 0)
  | _ => 0
def emptyTupB (K : PySem.W.Frag) (a : Addr) : Bool := match K.lookup a with
  | some ⟨.type c, _, .seq its _, _⟩ => decide (c = "tuple") && its.isEmpty
  | _ => false
theorem emptyTup_ok {K : PySem.W.Frag} {a : Addr} (h : emptyTupB K a = true) (H : Hp) : SqT K H a [] := by
  unfold emptyTupB at h
  split at h
  · rename_i c x its n sl e
    rw [Bool.and_eq_true] at h
    obtain ⟨h1, h2⟩ := h
    have hi : its = #[] := by simpa using h2
    subst hi
    exact .inr ⟨_, #[], n, e, congrArg Value.type (of_decide_eq_true h1), rfl, by simp, .nil⟩
  · cases h
def Tab.xds (t : Tab) : List He.DefD := t.xts.filterMap fun x => x.map fun x => x.ft.dd
def Tab.defs (t : Tab) : List He.DefD := t.fts.map FT.dd ++ t.xds
def fdOf (K : PySem.W.Frag) (a : Addr) : FuncData := match K.lookup a with
  | some ⟨_, _, .func fd, _⟩ => fd
  | _ => default
def Tab.fad (t : Tab) (K : PySem.W.Frag) (f : Nat) : Addr := match t.fts[f]? with
  | some x => fAd K x.at_
  | none => 0
def Tab.fps (t : Tab) (f : Nat) : List Str := match t.fts[f]? with
  | some x => x.ps
  | none => []
def mkGe (t : Tab) (prog : Program) (w : World) (K : PySem.W.Frag) (mg : Str → Option Value) (base : Heap) : Ge where
  prog := prog
  w := w
  K := K
  mg := mg
  base := base
  pg := t.pg
  cad := fun i => ga K (t.tb.c i)
  fad := t.fad K
  fdd := fun f => fdOf K (t.fad K f)
  fps := t.fps
  xad := fun i => ga K (t.tb.x i)
  tb := t.tb
/-! ### parameters without defaults -/
def plainPar (p : Arguments) (ps : List Str) : Bool :=
  p.posonlyargs.isEmpty && (p.vararg.isNone && (p.kwonlyargs.isEmpty && (p.kw_defaults.isEmpty && (p.kwarg.isNone && (p.defaults.isEmpty && (decide (p.args.map (·.arg) = ps) && decide ps.Nodup))))))
theorem look_some {n : Str} : ∀ {ps : List Str} {us : List Value}, us.length = ps.length → n ∈ ps → ((ps.zip us).lookup n).isNone = false
  | [], _, _, h => by cases h
  | p :: ps, [], hl, _ => by simp at hl
  | p :: ps, u :: us, hl, h => by
    rw [List.zip_cons_cons]
    unfold List.lookup
    by_cases e : n = p
    · have : (n == p) = true := by simpa using e
      rw [this]
      rfl
    · have : (n == p) = false := by simpa using e
      rw [this]
      rcases List.mem_cons.mp h with z | z
      · exact absurd z e
      · exact look_some (by simpa using hl) z
theorem fm_congr {α β : Type} {f g : α → Option β} : ∀ {l : List α}, (∀ a ∈ l, f a = g a) → l.filterMap f = l.filterMap g
  | [], _ => rfl
  | a :: l, h => by
    rw [List.filterMap_cons, List.filterMap_cons, h a List.mem_cons_self, fm_congr fun b hb => h b (List.mem_cons_of_mem _ hb)]
theorem look_all : ∀ {ps : List Str} {us : List Value}, us.length = ps.length → ps.Nodup → (ps.filterMap fun n => ((ps.zip us).lookup n).map fun x => (n, x)) = ps.zip us
  | [], _, _, _ => rfl
  | p :: ps, [], hl, _ => by simp at hl
  | p :: ps, u :: us, hl, nd => by
    have nd' := List.nodup_cons.mp nd
    have ih := look_all (ps := ps) (us := us) (by simpa using hl) nd'.2
    rw [List.zip_cons_cons, List.filterMap_cons]
    have e1 : ((p, u) :: ps.zip us).lookup p = some u := by simp [List.lookup]
    rw [e1]
    show (p, u) :: _ = _
    congr 1
    refine (fm_congr fun n hn => ?_).trans ih
    have e : (n == p) = false := by
      have : n ≠ p := fun z => nd'.1 (z ▸ hn)
      simpa using this
    simp only [List.lookup, e]
theorem bind_plain {x qual : Str} {body : List Stmt} {scope : Scope} {kV doc pm : Value} {an : Option Addr} {cdv ct : Value} (a2 : List Arg) (us : List Value) (h : us.length = a2.length) (nd : (a2.map (·.arg)).Nodup) :
    bindArgs (PySem.W.fnOf x qual ⟨[], a2, none, [], [], none, []⟩ body scope .none kV doc pm an cdv ct) ⟨us, []⟩ = pure ((a2.map (·.arg)).zip us) := by
  have e : (seqItems? Value.none) = pure none := by rfl
  have hl : us.length = (a2.map (·.arg)).length := by rw [List.length_map]; exact h
  have e2 : ∀ k, ((a2.map (·.arg)).take k).filter (fun n => (List.lookup n ((a2.map (·.arg)).zip us)).isNone) = [] := fun k => by
    rw [List.filter_eq_nil_iff]
    intro n hn
    rw [look_some hl (List.mem_of_mem_take hn)]
    exact Bool.false_ne_true
  have e3 := look_all hl nd
  have h2 : ¬ a2.length < us.length := by omega
  have h3 : ¬ (a2.map (·.arg)).length < us.length := by rw [List.length_map]; exact h2
  rw [List.filterMap_map] at e3
  unfold bindArgs
  simp only [PySem.W.fnOf]
  simp [e, h2, e2, e3]
theorem binds_plain {K : PySem.W.Frag} {x qual : Str} {params : Arguments} {body : List Stmt} {scope : Scope} {kws : List (Str × V)} {f : Addr} {fd : FuncData} {ps : List Str} (F : FunD K x qual params body scope [] kws f fd) (h : plainPar params ps = true) : Binds K fd ps [] := by
  obtain ⟨a1, a2, a3, a4, a5, a6, a7⟩ := params
  unfold plainPar at h
  simp only [Bool.and_eq_true, List.isEmpty_iff, Option.isNone_iff_eq_none, decide_eq_true_eq] at h
  obtain ⟨rfl, rfl, rfl, rfl, rfl, rfl, rfl, nd⟩ := h
  exact F.bindsN fun kV doc pm an cdv ct us hu => bind_plain a2 us (by rw [List.length_map] at hu; exact hu) nd
/-! ### the checks -/
def kitNames : List String := ["NoneType", "bool", "int", "str", "tuple", "list", "dict"]
def bltNames : List Str := ["len", "abs", "int", "bool", "list", "tuple", "all", "any", "sum", "sorted", "repr", "max", "min", "str", "ord", "set", "isinstance", "range", "enumerate", "zip", "dict", "ValueError"]
def propB (K : PySem.W.Frag) (C : Addr) (m : Str) (g : Addr) : Bool := match PySem.W.findIn K (.ref C) m with
  | some (some (.ref p)) => eqO (PySem.W.specialIn K (.ref p) "__get__") (some (some (.builtin "property.__get__"))) && (decide (PySem.W.takesIn K (.ref p) = some true) && (match PySem.W.recIn K p "property" with
    | some (.ref g' :: _) => decide (g' = g)
    | _ => false))
  | _ => false
theorem prop_ok {K : PySem.W.Frag} {C : Addr} {m : Str} {g : Addr} (h : propB K C m g = true) : ∃ p, PropOf K C m p g := by
  unfold propB at h
  split at h
  · rename_i p hp
    obtain ⟨h1, h⟩ := ba2 h
    obtain ⟨h2, h3⟩ := ba2 h
    split at h3
    · rename_i g' rest hr
      cases of_decide_eq_true h3
      exact ⟨p, hp, eqO_ok h1, of_decide_eq_true h2, rest, hr⟩
    · cases h3
  · cases h
def clB (K : PySem.W.Frag) (t : Tab) (c : Nat) (k : Cl) : Bool :=
  (He.Fa.cls (t.tb.c c)).ok K && (PySem.W.selfFirst K (ga K (t.tb.c c)) && (eqO (PySem.W.findIn K (.ref (ga K (t.tb.c c))) "__class__") (some (some (.builtin "object.__class__"))) && (decide (PySem.W.mroIn K (ga K (t.tb.c c)) (.type "object") = some true) &&
  ((He.Fa.mkr (t.tb.c c)).ok K && (decide (ma K (ga K (t.tb.c c)) "__init__" = t.fad K k.init) && (k.flds.all (fun f => (He.Fa.noat (t.tb.c c) f).ok K) && (k.meths.all (fun p => (He.Fa.meth (t.tb.c c) p.1).ok K && decide (ma K (ga K (t.tb.c c)) p.1 = t.fad K p.2)) &&
  (k.props.all (fun p => propB K (ga K (t.tb.c c)) p.1 (t.fad K p.2)) && (kitNames.all (fun T => decide (PySem.W.kitOne K (.type T) (.ref (ga K (t.tb.c c))) = some false) && decide (PySem.W.kitOne K (.ref (ga K (t.tb.c c))) (.type T) = some false)) &&
  (eqO (PySem.W.findIn K (.ref (ga K (t.tb.c c))) "__ne__") (some (some (.builtin "object.__ne__"))) && ((He.Fa.glo (t.tb.c c)).ok K && ((k.meths ++ k.props).all (fun p => match t.fts[p.2]? with
    | some y => plainPar y.d.params y.ps && y.dfl.isEmpty
    | none => false) && ((t.pg.fns[k.init]?).isSome)))))))))))))
def flatDv : D → Option He.Dv
  | .non => some .non
  | .bl b => some (.bl b)
  | .int i => some (.int i)
  | .str x => some (.str x)
  | _ => none
def flatDvs : List D → Option (List He.Dv)
  | [] => some []
  | d :: ds => match flatDv d, flatDvs ds with
    | some v, some vs => some (v :: vs)
    | _, _ => none
def glB (K : PySem.W.Frag) (x : Str) : D → Bool
  | .int i => (He.Fa.int x i).ok K
  | .str z => (He.Fa.str x z).ok K
  | .tup ds => (match flatDvs ds with
    | some vs => He.tupB K x vs && (He.Fa.glo x).ok K
    | none => false)
  | _ => false
def foB (t : Tab) (fo : Fo) : Bool := fo.ks.isEmpty && (match t.fts[fo.f]? with
  | some y => plainPar y.d.params y.ps && (y.dfl.isEmpty && (decide (fo.nw = y.ps.length) && decide (fo.ar.length = y.ps.length) && fo.ar.zipIdx.all fun p => match p.1 with
    | .w i => i == p.2
    | _ => false))
  | none => false)
def excCB (K : PySem.W.Frag) (D : Addr) : Bool := eqO (PySem.W.findIn K (.ref D) "__getattribute__") (some (some (.builtin "BaseException.__getattribute__"))) && (eqO (PySem.W.findIn K (.ref D) "__getattr__") (some none) && (decide (PySem.W.subIn K (.ref D) (.type "BaseException") = some true) && (PySem.W.hasDictIn K D &&
  (eqO (PySem.W.findIn K (.ref D) "__class__") (some (some (.builtin "object.__class__"))) && (eqO (PySem.W.specialIn K (.builtin "object.__class__") "__get__") (some (some (.builtin "getset_descriptor.__get__"))) && (decide (PySem.W.takesIn K (.builtin "object.__class__") = some true) && decide (PySem.W.mroIn K D (.type "object") = some true)))))))
theorem excC_ok {K : PySem.W.Frag} {D : Addr} (h : excCB K D = true) : ExcC K D ∧ XfC K D := by
  unfold excCB at h
  obtain ⟨h1, h⟩ := ba2 h
  obtain ⟨h2, h⟩ := ba2 h
  obtain ⟨h3, h⟩ := ba2 h
  obtain ⟨h4, h⟩ := ba2 h
  obtain ⟨h5, h⟩ := ba2 h
  obtain ⟨h6, h⟩ := ba2 h
  obtain ⟨h7, h8⟩ := ba2 h
  exact ⟨⟨eqO_ok h1, eqO_ok h2, of_decide_eq_true h3, h4, eqO_ok h5, eqO_ok h6, of_decide_eq_true h7, of_decide_eq_true h8⟩, ⟨eqO_ok h1, eqO_ok h2, of_decide_eq_true h3, h4⟩⟩
def oexB (K : PySem.W.Frag) (C : Addr) : Bool := (match K.lookup C with
  | some ⟨.type "type", _, .cls cd, sl⟩ => (match cd.mro, sl.toList with
    | .ref C' :: bm, [_, _, _, _, some (.builtin n), _] => C' == C && (n == "ValueError.__new__" && (!cd.hasDel && (cd.hasDict && PySem.HandSPX.refsVE bm)))
    | _, _ => false)
  | _ => false) && (eqO (PySem.W.findIn K (.ref C) "__setattr__") (some (some (.builtin "object.__setattr__"))) && (decide (PySem.W.subIn K (.ref C) (.type "BaseException") = some true) && (decide (PySem.W.typeIn K (.ref C) = some (.type "type")) && PySem.W.keepIn K (.ref C))))
theorem oex_ok {K : PySem.W.Frag} {C : Addr} (h : oexB K C = true) : OexC K C := by
  unfold oexB at h
  obtain ⟨q, h⟩ := ba2 h
  obtain ⟨h1, h⟩ := ba2 h
  obtain ⟨h2, h⟩ := ba2 h
  obtain ⟨h3, h4⟩ := ba2 h
  refine ⟨?_, eqO_ok h1, of_decide_eq_true h2, of_decide_eq_true h3, h4⟩
  split at q
  · rename_i dd cd sl ho
    split at q
    · rename_i C' bm k0 k1 k2 k3 n k5 hm hs
      simp only [Bool.and_eq_true, beq_iff_eq, Bool.not_eq_true'] at q
      obtain ⟨rfl, rfl, hdel, hd, ht⟩ := q
      obtain ⟨nm, bs, mro, ns, qn, hdd, sn, sub, ab, col, del⟩ := cd
      dsimp only at hm hdel hd
      subst hm hdel hd
      have hsl : sl = #[k0, k1, k2, k3, some (.builtin "ValueError.__new__"), k5] := by
        obtain ⟨l⟩ := sl
        simp only at hs
        rw [hs]
      subst hsl
      exact ⟨nm, qn, ns, bs, bm, sn, sub, ab, col, dd, k0, k1, k2, k3, k5, ho, ht⟩
    · cases q
  · cases q
def exB (K : PySem.W.Frag) (t : Tab) (c : Nat) (x : Exc) : Bool :=
  oexB K (ga K (t.tb.x c)) && (excCB K (ga K (t.tb.x c)) && ((He.Fa.glo (t.tb.x c)).ok K && ((xFlds t.pg).all (fun f => eqO (PySem.W.findIn K (.ref (ga K (t.tb.x c))) f) (some none)) && (decide (PySem.W.kitOne K (.ref (ga K (t.tb.x c))) (.type "ValueError") = some true) && (match x.fields with
    | [f] => (match t.xts[c]? with
      | some (some y) => eqO (PySem.W.findIn K (.ref (ga K (t.tb.x c))) "__init__") (some (some (.ref (fAd K y.ft.at_)))) && (decide (PySem.W.typeIn K (.ref (fAd K y.ft.at_)) = some (.type "function")) && (decide (y.ft.ps = [("self" : Str), f]) && (y.ft.dfl.isEmpty && (y.ft.kwd.isEmpty && (plainPar y.ft.d.params y.ft.ps && (initB y.pn f y.ft.d.scope y.ft.d.body && (scB [("self" : Str), f] [("self" : Str), f] y.ft.d.scope &&
        ((He.Fa.glo y.pn).ok K && (PySem.W.readsIn K (ga K y.pn) (.type "type") && (eqO (PySem.W.specialIn K (.ref (ga K y.pn)) "__getattribute__") (some (some (.builtin "type.__getattribute__"))) && (match PySem.W.findCls K (.ref (ga K y.pn)) (.type "type") "__init__" with
          | some (.val (.builtin n)) => n == "ValueError.__init__"
          | _ => false)))))))))))
      | _ => false)
    | _ => true)))))
def topB (t : Tab) (K : PySem.W.Frag) : Bool :=
  t.more K && ((List.range t.pg.cls.length).all (fun c => match t.pg.cls[c]? with
    | some k => clB K t c k && (List.range t.pg.cls.length).all (fun c' => decide (PySem.W.kitOne K (.ref (ga K (t.tb.c c))) (.ref (ga K (t.tb.c c'))) = some (c == c')))
    | none => true) &&
  ((List.range t.pg.exc.length).all (fun c => match t.pg.exc[c]? with
    | some x => exB K t c x && (List.range t.pg.exc.length).all (fun c' => decide (PySem.W.kitOne K (.ref (ga K (t.tb.x c))) (.ref (ga K (t.tb.x c'))) = some (c == c' || x.up.contains c')) && decide (PySem.W.exmOne K (.ref (ga K (t.tb.x c))) (.ref (ga K (t.tb.x c'))) = some (c == c' || x.up.contains c')))
    | none => true) &&
  ((List.range t.pg.gl.length).all (fun i => match t.pg.gl[i]? with
    | some d => glB K (t.tb.g i) d
    | none => true) &&
  (bltNames.all (fun x => (He.Fa.free x).ok K) &&
  (t.pg.fos.all (fun fo => (t.fts[fo.f]?).isSome && eqO (PySem.W.nsIn K mainGlobals (t.tb.f fo.f)) (some (some (.ref (t.fad K fo.f))))) &&
  (t.fts.all (fun y => PySem.W.isFn K (.ref (fAd K y.at_))) &&
  (eqO (PySem.W.specialIn K (.builtin "object.__class__") "__get__") (some (some (.builtin "getset_descriptor.__get__"))) && decide (PySem.W.takesIn K (.builtin "object.__class__") = some true))))))))
/-- the tables and the text, without the heap -/
def txtB (t : Tab) : Bool :=
  decide (t.pg.fns.length = t.fts.length) && (List.range t.pg.fns.length).all (fun f => match t.pg.fns[f]?, t.fts[f]? with
    | some u, some y => dtB t.pg t.tb y.d y.ps u
    | _, _ => false)
/-! ### the Hook -/
def obsC (t : Tab) (K : PySem.W.Frag) : He.AlD := (topB t K && t.defs.all fun d => d.ok K, t.defs.map fun d => He.fnW K d.at_)
def SaysC (t : Tab) (K : PySem.W.Frag) : Prop := obsC t K = He.valD t.defs
def asC (g : Addr → Option Obj) (n : Nat) : List Addr := cStatics :: He.asD g n
def obsCG (n : Nat) (t : Tab) (g : Addr → Option Obj) : He.AlD := obsC t (frL g (asC g n))
def hookC (n : Nat) (t : Tab) : PySem.W.Hook where
  α := He.AlD
  obs := fun s => obsCG n t s.heap.get?
  val := fun _ => He.valD t.defs
  says := fun _ h => ∃ K : PySem.W.Frag, K.In h ∧ SaysC t K ∧ ∀ a o, K.lookup a = some o → isListO o = false
  of := fun _ _ e => ⟨_, frL_in, e, fun a o h => (frL_at _ h).2⟩
  keeps := fun _ _ _ ⟨K, hK, c⟩ k => ⟨K, PySem.W.Frag.In.keeps hK k, c⟩
theorem obsCG_eq {n : Nat} {t : Tab} {g : Addr → Option Obj} {s : Shared} (h : ∀ a, g a = s.heap.get? a) : obsCG n t g = (hookC n t).obs s := by
  have e : g = s.heap.get? := funext h
  rw [e] <;> rfl
section
variable {t : Tab} {K : PySem.W.Frag}
theorem SaysC.top (c : SaysC t K) : topB t K = true := (ba2 (show (topB t K && t.defs.all fun d => d.ok K) = true from congrArg (fun z : He.AlD => z.1) c)).1
theorem SaysC.more (c : SaysC t K) : t.more K = true := (ba2 (show (t.more K && _) = true from c.top)).1
theorem SaysC.defn (c : SaysC t K) (i : Nat) {d : He.DefD} (h : t.defs[i]? = some d) : ∃ fd, FunD K d.name d.qual d.params d.body d.scope (d.dvs K) (d.kws K) (fAd K d.at_) fd := by
  have c2 := (ba2 (show (topB t K && t.defs.all fun d => d.ok K) = true from congrArg (fun z : He.AlD => z.1) c)).2
  have e : t.defs.map (fun d => He.fnW K d.at_) = t.defs.map He.DefD.val := congrArg (fun z : He.AlD => z.2) c
  have e2 : (t.defs.map fun d => He.fnW K d.at_)[i]? = (t.defs.map He.DefD.val)[i]? := by rw [e]
  rw [List.getElem?_map, List.getElem?_map, h] at e2
  exact He.DefD.funD (Option.some.inj e2) (List.all_eq_true.mp c2 d (List.mem_of_getElem? h))
theorem fd_of {x qual : Str} {params : Arguments} {body : List Stmt} {scope : Scope} {dvs : List V} {kws : List (Str × V)} {f : Addr} {fd : FuncData} (F : FunD K x qual params body scope dvs kws f fd) : fdOf K f = fd := by
  obtain ⟨oc, od, dV, kV, doc, pm, an, cdv, ct, osl, e, lk, _⟩ := F.ex
  unfold fdOf
  rw [lk]
theorem SaysC.fn (c : SaysC t K) {f : Nat} {y : FT} (h : t.fts[f]? = some y) : FunD K y.d.name y.d.qual y.d.params y.d.body y.d.scope (y.dd.dvs K) (y.dd.kws K) (t.fad K f) (fdOf K (t.fad K f)) := by
  have hi : f < t.fts.length := (List.getElem?_eq_some_iff.mp h).1
  obtain ⟨fd, F⟩ := c.defn f (d := y.dd) (by
    unfold Tab.defs
    rw [List.getElem?_append_left (by rw [List.length_map]; exact hi), List.getElem?_map, h]
    rfl)
  have e : t.fad K f = fAd K y.at_ := by unfold Tab.fad; rw [h]
  have e2 : fdOf K (fAd K y.at_) = fd := fd_of F
  rw [e, e2]
  exact F
theorem SaysC.xfn (c : SaysC t K) {i : Nat} {y : XT} (h : t.xts[i]? = some (some y)) : ∃ fd, FunD K y.ft.d.name y.ft.d.qual y.ft.d.params y.ft.d.body y.ft.d.scope (y.ft.dd.dvs K) (y.ft.dd.kws K) (fAd K y.ft.at_) fd := by
  have hm : y.ft.dd ∈ t.defs := by
    unfold Tab.defs Tab.xds
    exact List.mem_append_right _ (List.mem_filterMap.mpr ⟨some y, List.mem_of_getElem? h, rfl⟩)
  obtain ⟨j, hj, e⟩ := List.getElem_of_mem hm
  exact c.defn j (d := y.ft.dd) (by rw [List.getElem?_eq_getElem hj, e])
theorem range_all {n : Nat} {p : Nat → Bool} (h : (List.range n).all p = true) {i : Nat} (hi : i < n) : p i = true := List.all_eq_true.mp h i (List.mem_range.mpr hi)
theorem flat_dvs {F : Hp} {Γ : Ge} {ι : List Addr} : ∀ {ds : List D} {vs : List He.Dv}, flatDvs ds = some vs → Reps Γ F ι (vs.map (He.Dv.v K)) ds
  | [], vs, h => by cases h; exact .nil
  | d :: ds, vs, h => by
    unfold flatDvs at h
    split at h
    · rename_i v vs' h1 h2
      cases h
      refine .cons ?_ (flat_dvs h2)
      cases d <;> first | (cases h1; done) | skip
      · cases h1; exact .non
      · cases h1; exact .bl _
      · cases h1; exact .int _
      · cases h1; exact .str _
    · cases h
variable {prog : Program} {w : World} {mg : Str → Option Value} {base h : Heap}
theorem arN_of {n : Nat} {ar : List Ar} (hl : ar.length = n) (h : (ar.zipIdx.all fun p => match p.1 with
    | .w i => i == p.2
    | _ => false) = true) : ar = arN n := by
  apply List.ext_getElem?
  intro i
  unfold arN
  rw [List.getElem?_map]
  by_cases hi : i < n
  · rw [List.getElem?_range hi]
    have hi2 : i < ar.length := by omega
    rw [List.getElem?_eq_getElem hi2]
    have hm : (ar[i], i) ∈ ar.zipIdx := by
      rw [List.mem_zipIdx_iff_getElem?]
      simp
    have := List.all_eq_true.mp h _ hm
    cases e : ar[i] with
    | w j =>
      rw [e] at this
      have : j = i := by simpa using this
      rw [this]
      rfl
    | d x => rw [e] at this; cases this
  · rw [List.getElem?_eq_none (by omega), List.getElem?_eq_none (by simp; omega)]
    rfl
theorem binds_of (c : SaysC t K) {f : Nat} {y : FT} (h : t.fts[f]? = some y) (hp : plainPar y.d.params y.ps = true) (hd : y.dfl.isEmpty = true) : Binds K (fdOf K (t.fad K f)) y.ps [] := by
  have F := c.fn h
  have e : y.dd.dvs K = [] := by
    have : y.dfl = [] := List.isEmpty_iff.mp hd
    show y.dfl.map _ = []
    rw [this]
    rfl
  rw [e] at F
  exact binds_plain F hp
/-- what stands behind the top -/
theorem tops_of (X : K.In h) (G : h.Ns mainGlobals mg) (c : SaysC t K) (tx : txtB t = true)
    (Bf : ∀ (i : Nat) (fo : Fo), t.pg.fos[i]? = some fo → foB t fo = false → BindF (mkGe t prog w K mg base) (fdOf K (t.fad K fo.f)) (t.fps fo.f) fo.nw fo.ks fo.ar)
    (Bm : ∀ (i : Nat) (fo : Fo) (k : Cl), t.pg.mfos[i]? = some fo → t.pg.cls[fo.f]? = some k → BindM (mkGe t prog w K mg base) (fdOf K (t.fad K k.init)) (t.fps k.init) fo.nw fo.ks fo.ar) : Tops (mkGe t prog w K mg base) := by
  have tb := c.top
  unfold topB at tb
  obtain ⟨_, tb⟩ := ba2 tb
  obtain ⟨t1, tb⟩ := ba2 tb
  obtain ⟨t2, tb⟩ := ba2 tb
  obtain ⟨t3, tb⟩ := ba2 tb
  obtain ⟨t4, tb⟩ := ba2 tb
  obtain ⟨t5, tb⟩ := ba2 tb
  obtain ⟨t6, tb⟩ := ba2 tb
  obtain ⟨t7, t8⟩ := ba2 tb
  unfold txtB at tx
  obtain ⟨x1, x2⟩ := ba2 tx
  have x1 := of_decide_eq_true x1
  have fts : ∀ {f : Nat} {u : Fn}, t.pg.fns[f]? = some u → ∃ y, t.fts[f]? = some y ∧ dtB t.pg t.tb y.d y.ps u = true := fun {f u} hu => by
    have hi := (List.getElem?_eq_some_iff.mp hu).1
    have := range_all x2 hi
    rw [hu] at this
    cases hy : t.fts[f]? with
    | none => rw [hy] at this; cases this
    | some y => rw [hy] at this; exact ⟨y, rfl, this⟩
  have cl : ∀ {c : Nat} {k : Cl}, t.pg.cls[c]? = some k → clB K t c k = true ∧ ∀ c', c' < t.pg.cls.length → PySem.W.kitOne K (.ref (ga K (t.tb.c c))) (.ref (ga K (t.tb.c c'))) = some (c == c') := fun {c k} hk => by
    have := range_all t1 (List.getElem?_eq_some_iff.mp hk).1
    rw [hk] at this
    obtain ⟨q1, q2⟩ := ba2 this
    exact ⟨q1, fun c' h => of_decide_eq_true (range_all q2 h)⟩
  refine
    { np := fun f u hu => ?_
      bind := fun i fo hfo => ?_
      mbind := fun i fo k h1 h2 => Bm i fo k h1 h2
      plain := fun c' k m f hk hm => ?_
      cls := fun c' k hk => ?_
      mks := fun c' k hk => ?_
      noat := fun c' k f hk hf => ?_
      meth := fun c' k m f hk hm => ?_
      kit := fun c' k hk T hT => ?_
      kitc := fun c1 c2 k1 k2 h1 h2 => (cl h1).2 c2 (List.getElem?_eq_some_iff.mp h2).1
      noNe := fun c' k hk => ?_
      gl := fun i d hd => ?_
      fkp := fun i fo hfo => ?_
      fmg := fun i fo hfo => ?_
      cmg := fun c' k hk => ?_
      xmg := fun c' k hk => ?_
      blt := fun x hx => He.free_ok X G (List.all_eq_true.mp t4 x hx)
      prop := fun c' k m f hk hm => ?_
      gget := eqO_ok t7
      gtak := of_decide_eq_true t8 }
  · obtain ⟨y, hy, hd⟩ := fts hu
    unfold dtB at hd
    obtain ⟨_, hd⟩ := ba2 hd
    have e : t.fps f = y.ps := by unfold Tab.fps; rw [hy]
    show u.np = (t.fps f).length
    rw [e]
    exact of_decide_eq_true (ba2 hd).1
  · cases hb : foB t fo with
    | false => exact Bf i fo hfo hb
    | true =>
      unfold foB at hb
      obtain ⟨b1, b2⟩ := ba2 hb
      split at b2
      · rename_i y hy
        obtain ⟨b3, b2⟩ := ba2 b2
        obtain ⟨b4, b2⟩ := ba2 b2
        obtain ⟨b5, b6⟩ := ba2 b2
        obtain ⟨b5, b7⟩ := ba2 b5
        have e : t.fps fo.f = y.ps := by unfold Tab.fps; rw [hy]
        have ek : fo.ks = [] := List.isEmpty_iff.mp b1
        have ea := arN_of (of_decide_eq_true b7) b6
        show BindF _ (fdOf K (t.fad K fo.f)) (t.fps fo.f) fo.nw fo.ks fo.ar
        rw [e, ek, ea, of_decide_eq_true b5]
        exact bindF_plain (binds_of c hy b3 b4)
      · cases b2
  · obtain ⟨q, _⟩ := cl hk
    unfold clB at q
    obtain ⟨_, q⟩ := ba2 q; obtain ⟨_, q⟩ := ba2 q; obtain ⟨_, q⟩ := ba2 q; obtain ⟨_, q⟩ := ba2 q; obtain ⟨_, q⟩ := ba2 q; obtain ⟨_, q⟩ := ba2 q; obtain ⟨_, q⟩ := ba2 q; obtain ⟨_, q⟩ := ba2 q; obtain ⟨_, q⟩ := ba2 q; obtain ⟨_, q⟩ := ba2 q; obtain ⟨_, q⟩ := ba2 q; obtain ⟨_, q⟩ := ba2 q
    obtain ⟨q, _⟩ := ba2 q
    have := List.all_eq_true.mp q _ hm
    dsimp only at this
    split at this
    · rename_i y hy
      obtain ⟨b1, b2⟩ := ba2 this
      have e : t.fps f = y.ps := by unfold Tab.fps; rw [hy]
      show Binds K (fdOf K (t.fad K f)) (t.fps f) []
      rw [e]
      exact binds_of c hy b1 b2
    · cases this
  · obtain ⟨q, _⟩ := cl hk
    unfold clB at q
    obtain ⟨q1, q⟩ := ba2 q; obtain ⟨q2, q⟩ := ba2 q; obtain ⟨q3, q⟩ := ba2 q; obtain ⟨q4, q⟩ := ba2 q
    exact ⟨He.cls_ok q1, q2, eqO_ok q3, of_decide_eq_true q4⟩
  · obtain ⟨q, _⟩ := cl hk
    unfold clB at q
    obtain ⟨_, q⟩ := ba2 q; obtain ⟨_, q⟩ := ba2 q; obtain ⟨_, q⟩ := ba2 q; obtain ⟨_, q⟩ := ba2 q
    obtain ⟨q1, q⟩ := ba2 q
    obtain ⟨q2, q⟩ := ba2 q
    have := He.mkr_ok q1
    rw [of_decide_eq_true q2] at this
    exact this
  · obtain ⟨q, _⟩ := cl hk
    unfold clB at q
    obtain ⟨_, q⟩ := ba2 q; obtain ⟨_, q⟩ := ba2 q; obtain ⟨_, q⟩ := ba2 q; obtain ⟨_, q⟩ := ba2 q; obtain ⟨_, q⟩ := ba2 q; obtain ⟨_, q⟩ := ba2 q
    exact He.noat_ok (List.all_eq_true.mp (ba2 q).1 f hf)
  · obtain ⟨q, _⟩ := cl hk
    unfold clB at q
    obtain ⟨_, q⟩ := ba2 q; obtain ⟨_, q⟩ := ba2 q; obtain ⟨_, q⟩ := ba2 q; obtain ⟨_, q⟩ := ba2 q; obtain ⟨_, q⟩ := ba2 q; obtain ⟨_, q⟩ := ba2 q; obtain ⟨_, q⟩ := ba2 q
    obtain ⟨z1, z2⟩ := ba2 (List.all_eq_true.mp (ba2 q).1 _ hm)
    have := He.meth_ok z1
    rw [of_decide_eq_true z2] at this
    exact this
  · obtain ⟨q, _⟩ := cl hk
    unfold clB at q
    obtain ⟨_, q⟩ := ba2 q; obtain ⟨_, q⟩ := ba2 q; obtain ⟨_, q⟩ := ba2 q; obtain ⟨_, q⟩ := ba2 q; obtain ⟨_, q⟩ := ba2 q; obtain ⟨_, q⟩ := ba2 q; obtain ⟨_, q⟩ := ba2 q; obtain ⟨_, q⟩ := ba2 q; obtain ⟨_, q⟩ := ba2 q
    obtain ⟨z1, z2⟩ := ba2 (List.all_eq_true.mp (ba2 q).1 T hT)
    exact ⟨of_decide_eq_true z1, of_decide_eq_true z2⟩
  · obtain ⟨q, _⟩ := cl hk
    unfold clB at q
    obtain ⟨_, q⟩ := ba2 q; obtain ⟨_, q⟩ := ba2 q; obtain ⟨_, q⟩ := ba2 q; obtain ⟨_, q⟩ := ba2 q; obtain ⟨_, q⟩ := ba2 q; obtain ⟨_, q⟩ := ba2 q; obtain ⟨_, q⟩ := ba2 q; obtain ⟨_, q⟩ := ba2 q; obtain ⟨_, q⟩ := ba2 q; obtain ⟨_, q⟩ := ba2 q
    exact eqO_ok (ba2 q).1
  · have hd : t.pg.gl[i]? = some d := hd
    have := range_all t3 (List.getElem?_eq_some_iff.mp hd).1
    rw [hd] at this
    dsimp only at this
    unfold glB at this
    split at this
    · obtain ⟨tk, hm⟩ := He.int_ok X G this
      exact ⟨.int _, _, hm, ⟨tk, rfl⟩, .int _⟩
    · obtain ⟨tk, hm⟩ := He.str_ok X G this
      exact ⟨.str _, _, hm, ⟨tk, rfl⟩, .str _⟩
    · split at this
      · rename_i vs hvs
        obtain ⟨z1, z2⟩ := ba2 this
        exact ⟨.ref (ga K (t.tb.g i)), _, He.glo_ok X G z2, rfl, .tup (.inr (He.tupB_ok z1 nowhere)) (flat_dvs hvs)⟩
      · cases this
    · cases this
  · have hi := List.mem_of_getElem? hfo
    obtain ⟨e1, _⟩ := ba2 (List.all_eq_true.mp t5 fo hi)
    obtain ⟨y, hy⟩ := Option.isSome_iff_exists.mp e1
    exact (c.fn hy).kp
  · have hi := List.mem_of_getElem? hfo
    exact PySem.W.mg_of X G (eqO_ok (ba2 (List.all_eq_true.mp t5 fo hi)).2)
  · obtain ⟨q, _⟩ := cl hk
    unfold clB at q
    obtain ⟨_, q⟩ := ba2 q; obtain ⟨_, q⟩ := ba2 q; obtain ⟨_, q⟩ := ba2 q; obtain ⟨_, q⟩ := ba2 q; obtain ⟨_, q⟩ := ba2 q; obtain ⟨_, q⟩ := ba2 q; obtain ⟨_, q⟩ := ba2 q; obtain ⟨_, q⟩ := ba2 q; obtain ⟨_, q⟩ := ba2 q; obtain ⟨_, q⟩ := ba2 q; obtain ⟨_, q⟩ := ba2 q
    exact He.glo_ok X G (ba2 q).1
  · have hk : t.pg.exc[c']? = some k := hk
    have := range_all t2 (List.getElem?_eq_some_iff.mp hk).1
    rw [hk] at this
    obtain ⟨q, _⟩ := ba2 this
    unfold exB at q
    obtain ⟨_, q⟩ := ba2 q; obtain ⟨_, q⟩ := ba2 q
    exact He.glo_ok X G (ba2 q).1
  · obtain ⟨q, _⟩ := cl hk
    unfold clB at q
    obtain ⟨_, q⟩ := ba2 q; obtain ⟨_, q⟩ := ba2 q; obtain ⟨_, q⟩ := ba2 q; obtain ⟨_, q⟩ := ba2 q; obtain ⟨_, q⟩ := ba2 q; obtain ⟨_, q⟩ := ba2 q; obtain ⟨_, q⟩ := ba2 q; obtain ⟨_, q⟩ := ba2 q
    exact prop_ok (List.all_eq_true.mp (ba2 q).1 _ hm)
end
end G
end
section
set_option Elab.async false
set_option linter.all false
set_option maxRecDepth 100000
set_option maxHeartbeats 1000000
/-! G: the script's call, where no guard stands; the script is none of the written part. -/
namespace G
open PySem PySem.Spec PyProof.Rows L2
/-- the heap in which the script alone is known -/
def onlyH (a : Addr) (ob : Obj) (vs : List V) : Hp := fun b => if b = a then some (.frz ob (.lst vs)) else none
theorem onlyH_at {a : Addr} {ob : Obj} {vs : List V} : onlyH a ob vs a = some (.frz ob (.lst vs)) := if_pos rfl
theorem onlyH_ne {a b : Addr} {ob : Obj} {vs : List V} (h : b ≠ a) : onlyH a ob vs b = none := if_neg h
theorem onlyH_is {a b : Addr} {ob : Obj} {vs : List V} {u : HO} (h : onlyH a ob vs b = some u) : b = a ∧ u = .frz ob (.lst vs) := by
  by_cases z : b = a
  · subst z
    rw [onlyH_at] at h
    exact ⟨rfl, (Option.some.inj h).symm⟩
  · rw [onlyH_ne z] at h
    cases h
section
variable {P : Program} {w : World} {K : PySem.W.Frag} {mg mb : Str → Option Value} {CX : CXT} {k : Nat} {fa a : Addr} {fd : FuncData} {x : Str} {sp : Sp} {t : Shared} {vs : List Value} {ns : List Int}
theorem law_callG (kin : K.In t.heap) (hka : K.lookup a = none) (g1 : t.heap.Ns mainGlobals mg) (g2 : t.heap.Ns builtinsNs mb) (g3 : ∀ y : Str, y ≠ "__name__" → mb y = bootBuiltins y) (g4 : t.heap.NoLimit) (g5 : t.gens = #[])
    (ob : t.heap.get? a = some { cls := .type "list", data := .seq vs.toArray }) (it : IntsAre vs ns) (ln : ns.length ≤ sizeLine) (rm : Room k callerA)
    (fn : ∀ base : Heap, K.In base → base.Ns mainGlobals mg → FnG P w K mg base CX k fa fd [x] sp) (bd : ∀ (s : Shared) (u : Value), BindsTo s fd ⟨[u], []⟩ [(x, u)])
    (pr : ∀ H : Hp, Only H → SqL K H a (ns.map V.int) → sp [.ref a] H (fun v _ => v = .bl true) fun _ _ _ => False)
    (ex : ∀ H e s', CX [] H t (fun _ _ _ => False) e s' → False) :
    codeAny (model P w) callerA (.call (.ref fa) ⟨[.ref a], []⟩) (fun r s' => r = .ok (.ret (.bool true)) ∧ OldK t.heap s'.heap ∧ s'.os = t.os ∧ AllBare s'.gens) t := by
  generalize hH : onlyH a { cls := .type "list", data := .seq vs.toArray } (ns.map V.int) = H
  have at_ : H a = some (.frz { cls := .type "list", data := .seq vs.toArray } (.lst (ns.map V.int))) := by rw [← hH]; exact onlyH_at
  have ne_ : ∀ {b : Addr}, b ≠ a → H b = none := fun z => by rw [← hH]; exact onlyH_ne z
  have is_ : ∀ {b : Addr} {u : HO}, H b = some u → b = a ∧ u = .frz { cls := .type "list", data := .seq vs.toArray } (.lst (ns.map V.int)) := fun z => by rw [← hH] at z; exact onlyH_is z
  have rel := vals_ints it
  have good : HOk P w H t.heap := fun b u z => by
    obtain ⟨rfl, rfl⟩ := is_ z
    exact ⟨ob, by rw [List.length_map]; exact ln, vs, _, rel, ob⟩
  have only : Only H := fun b => by
    by_cases z : b = a
    · subst z; exact .inr ⟨_, _, at_⟩
    · exact .inl (ne_ z)
  have dict : ∀ {b : Addr} {m : Str → Option Value}, t.heap.Ns b m → (hidT t.heap H).Ns b m := by
    rintro b m ⟨o, es, ep, e, d, r⟩
    refine ⟨o, es, ep, hidT_get e (ne_ fun z => ?_), d, r⟩
    subst z
    rw [ob] at e
    cases e
    cases d
  have frag : K.In (hidT t.heap H) := fun b o e => hidT_get (kin b o e) (ne_ fun z => by
    subst z
    rw [hka] at e
    cases e)
  have md : Mod K mg (hidT t.heap H) := by
    obtain ⟨mc, c1, c2⟩ := g4
    exact ⟨frag, dict g1, ⟨mb, dict g2, g3⟩, ⟨mc, dict c1, c2⟩⟩
  have env : Env0 P w K mg (hidT t.heap H) callerA [] t H := by
    refine ⟨rfl, md, fun b o e => of_hidT e, Nat.le_of_eq (hidT_size _ _), trivial, fun b hb => ?_, good, .of_eq g5⟩
    cases (show b ∈ ([] : List Addr) from hb)
  have run := (fn _ frag (dict g1)).run callerA [] t H ⟨[.ref a], []⟩ [.ref a] [.ref a] (fun v _ => v = .bl true) (fun _ _ _ => False) ⟨rm, rfl⟩ env (bd t (.ref a)) (.cons rfl .nil) (pr H only (.inl (.inr ⟨_, at_⟩)))
  refine codeAny_mono run fun r s' h => ?_
  match r, h with
  | .error e, h => exact (ex H e s' h).elim
  | .ok .next, h => exact h.elim
  | .ok .brk, h => exact h.elim
  | .ok .cont, h => exact h.elim
  | .ok (.ret u), ⟨v, H', os, bare, un, good', rv, q⟩ =>
    have q : v = .bl true := q
    subst q
    obtain rfl : u = Value.bool true := rv
    refine ⟨rfl, OldK.of_keep fun b o e => ?_, os, bare⟩
    by_cases z : b = a
    · subst z
      obtain ⟨y1, _⟩ := good b _ at_
      obtain ⟨y2, _⟩ := good' b _ (un.frzs b _ _ at_)
      rw [e] at y1
      cases y1
      exact y2
    · exact un.keep b o e (ne_ z) (fun y => by cases (show b ∈ ([] : List Addr) from y)) (fun y => by cases y)
end
end G
end
section
set_option Elab.async false
set_option linter.all false
set_option maxRecDepth 100000
set_option maxHeartbeats 4000000
/-! G: a law's end. -/
namespace G
open PySem PySem.Spec PyProof.Rows L2
open He (ga ma fAd eqO eqO_ok)
section
variable {t : Tab} {K : PySem.W.Frag} {prog : Program} {w : World} {mg : Str → Option Value} {base h : Heap}
theorem errs_of (X : K.In h) (G : h.Ns mainGlobals mg) (c : SaysC t K) : Errs (mkGe t prog w K mg base) := by
  have tb := c.top
  unfold topB at tb
  obtain ⟨_, tb⟩ := ba2 tb
  obtain ⟨_, tb⟩ := ba2 tb
  obtain ⟨t2, tb⟩ := ba2 tb
  have ex : ∀ {c : Nat} {x : Exc}, t.pg.exc[c]? = some x → exB K t c x = true ∧ ∀ c', c' < t.pg.exc.length → PySem.W.kitOne K (.ref (ga K (t.tb.x c))) (.ref (ga K (t.tb.x c'))) = some (c == c' || x.up.contains c') ∧ PySem.W.exmOne K (.ref (ga K (t.tb.x c))) (.ref (ga K (t.tb.x c'))) = some (c == c' || x.up.contains c') := fun {c x} hk => by
    have := range_all t2 (List.getElem?_eq_some_iff.mp hk).1
    rw [hk] at this
    obtain ⟨q1, q2⟩ := ba2 this
    refine ⟨q1, fun c' h => ?_⟩
    obtain ⟨z1, z2⟩ := ba2 (range_all q2 h)
    exact ⟨of_decide_eq_true z1, of_decide_eq_true z2⟩
  refine ⟨fun c' x hx => ?_, fun c1 c2 x1 x2 h1 h2 => ((ex h1).2 c2 (List.getElem?_eq_some_iff.mp h2).1).2, fun c1 c2 x1 x2 h1 h2 => ((ex h1).2 c2 (List.getElem?_eq_some_iff.mp h2).1).1, fun c' x hx => ?_⟩
  · obtain ⟨q, _⟩ := ex hx
    unfold exB at q
    obtain ⟨q1, q⟩ := ba2 q
    obtain ⟨q2, q⟩ := ba2 q
    obtain ⟨q3, q⟩ := ba2 q
    obtain ⟨q4, q⟩ := ba2 q
    obtain ⟨q5, q⟩ := ba2 q
    have oex := oex_ok q1
    obtain ⟨e1, e2⟩ := excC_ok q2
    refine ⟨oex, e1, e2, fun f hf => eqO_ok (List.all_eq_true.mp q4 f hf), fun f hf => ?_⟩
    rw [hf] at q
    dsimp only at q
    split at q
    · rename_i y hy
      obtain ⟨b1, q⟩ := ba2 q
      obtain ⟨b2, q⟩ := ba2 q
      obtain ⟨b3, q⟩ := ba2 q
      obtain ⟨b4, q⟩ := ba2 q
      obtain ⟨b5, q⟩ := ba2 q
      obtain ⟨b6, q⟩ := ba2 q
      obtain ⟨b7, q⟩ := ba2 q
      obtain ⟨b8, q⟩ := ba2 q
      obtain ⟨b9, q⟩ := ba2 q
      obtain ⟨b10, q⟩ := ba2 q
      obtain ⟨b11, q⟩ := ba2 q
      obtain ⟨fd, F⟩ := c.xfn hy
      have z1 : y.ft.dd.dvs K = [] := by
        have : y.ft.dfl = [] := List.isEmpty_iff.mp b4
        show y.ft.dfl.map _ = []
        rw [this]
        rfl
      have z2 : y.ft.dd.kws K = [] := by
        have : y.ft.kwd = [] := List.isEmpty_iff.mp b5
        show y.ft.kwd.map _ = []
        rw [this]
        rfl
      rw [z1, z2] at F
      have b3 := of_decide_eq_true b3
      rw [b3] at b6
      have hmem : f ∈ xFlds t.pg := List.mem_flatMap.mpr ⟨x, List.mem_of_getElem? hx, by rw [hf]; exact List.mem_cons_self⟩
      refine ⟨fAd K y.ft.at_, fd, eqO_ok b1, of_decide_eq_true b2, binds_plain F b6, err_init (Pa := ga K y.pn) F b7 (sc_ok b8) (He.glo_ok X G b9) b10 (eqO_ok b11) ?_ oex (eqO_ok (List.all_eq_true.mp q4 f hmem))⟩
      split at q
      · rename_i n hn
        have : n = "ValueError.__init__" := by simpa using q
        rw [← this]
        exact hn
      · cases q
    · cases q
  · obtain ⟨q, _⟩ := ex hx
    unfold exB at q
    obtain ⟨q1, q⟩ := ba2 q
    obtain ⟨q2, q⟩ := ba2 q
    obtain ⟨q3, q⟩ := ba2 q
    obtain ⟨q4, q⟩ := ba2 q
    exact of_decide_eq_true (ba2 q).1
theorem txt_ft (tx : txtB t = true) {f : Nat} {u : Fn} (hu : t.pg.fns[f]? = some u) : ∃ y, t.fts[f]? = some y ∧ dtB t.pg t.tb y.d y.ps u = true := by
  unfold txtB at tx
  obtain ⟨x1, x2⟩ := ba2 tx
  have := range_all x2 (List.getElem?_eq_some_iff.mp hu).1
  rw [hu] at this
  cases hy : t.fts[f]? with
  | none => rw [hy] at this; cases this
  | some y => rw [hy] at this; exact ⟨y, rfl, this⟩
theorem defs_of (c : SaysC t K) (tx : txtB t = true) {f : Nat} {u : Fn} (hu : t.pg.fns[f]? = some u) : DefOk (mkGe t prog w K mg base) f u := by
  obtain ⟨y, hy, hd⟩ := txt_ft tx hu
  have e : t.fps f = y.ps := by unfold Tab.fps; rw [hy]
  refine ⟨⟨y.d, _, _, c.fn hy, ?_⟩, ?_⟩
  · show dtB t.pg t.tb y.d (t.fps f) u = true
    rw [e]
    exact hd
  · have tb := c.top
    unfold topB at tb
    obtain ⟨_, tb⟩ := ba2 tb
    obtain ⟨_, tb⟩ := ba2 tb
    obtain ⟨_, tb⟩ := ba2 tb
    obtain ⟨_, tb⟩ := ba2 tb
    obtain ⟨_, tb⟩ := ba2 tb
    obtain ⟨_, tb⟩ := ba2 tb
    obtain ⟨t6, _⟩ := ba2 tb
    have := List.all_eq_true.mp t6 y (List.mem_of_getElem? hy)
    show PySem.W.isFn K (.ref (t.fad K f)) = true
    have e2 : t.fad K f = fAd K y.at_ := by unfold Tab.fad; rw [hy]
    rw [e2]
    exact this
theorem inits_of (c : SaysC t K) (i : Nat) (k : Cl) (hk : t.pg.cls[i]? = some k) : ∃ u, t.pg.fns[k.init]? = some u := by
  have tb := c.top
  unfold topB at tb
  obtain ⟨_, tb⟩ := ba2 tb
  obtain ⟨t1, _⟩ := ba2 tb
  have := range_all t1 (List.getElem?_eq_some_iff.mp hk).1
  rw [hk] at this
  obtain ⟨q, _⟩ := ba2 this
  unfold clB at q
  obtain ⟨_, q⟩ := ba2 q; obtain ⟨_, q⟩ := ba2 q; obtain ⟨_, q⟩ := ba2 q; obtain ⟨_, q⟩ := ba2 q; obtain ⟨_, q⟩ := ba2 q; obtain ⟨_, q⟩ := ba2 q; obtain ⟨_, q⟩ := ba2 q; obtain ⟨_, q⟩ := ba2 q; obtain ⟨_, q⟩ := ba2 q; obtain ⟨_, q⟩ := ba2 q; obtain ⟨_, q⟩ := ba2 q; obtain ⟨_, q⟩ := ba2 q
  exact Option.isSome_iff_exists.mp (ba2 q).2
end
theorem reps_ints2 {Γ : Ge} {F : Hp} {ι : List Addr} : ∀ (ns : List Int), Reps Γ F ι (ns.map V.int) (ns.map D.int)
  | [] => .nil
  | n :: ns => .cons (.int n) (reps_ints2 ns)
/-- the law's call, from the evaluator's answer -/
theorem sp_law {Γ : Ge} {dep li n : Nat} (hl : ∀ ns : List Int, ns.length ≤ n → ∃ m, run Γ.pg dep li [.scr (ns.map .int)] [] = .ok (.bl true) m) {H : Hp} {a : Addr} {ns : List Int} (hn : ns.length ≤ n) (hO : Only H) (hS : SqL Γ.K H a (ns.map V.int))
    (hK : ∀ a o, Γ.K.lookup a = some o → isListO o = false) : spF Γ dep li [.ref a] H (fun v _ => v = .bl true) (fun _ _ _ => False) := by
  have hf : ∃ ob, H a = some (.frz ob (.lst (ns.map V.int))) := by
    rcases hS with (h | ⟨o, h⟩) | ⟨o, its, k, h, hc, _⟩
    · rcases hO a with z | ⟨o, xs, z⟩ <;> (rw [h] at z; cases z)
    · exact ⟨o, h⟩
    · have := hK a o h
      unfold isListO at this
      rw [hc] at this
      exact absurd this (by decide)
  obtain ⟨ob, hf⟩ := hf
  obtain ⟨m, hm⟩ := hl ns hn
  refine ⟨fun b => if b = a then some (.frz ob (.lst (ns.map V.int))) else none, [], [.scr (ns.map .int)], [], ?_, .cons (.scr (if_pos rfl) (reps_ints2 ns)) .nil, ?_⟩
  · refine ⟨fun b o q => .inl ?_, Ext.refl _ _, .nil, ⟨[], .nil, by simp, fun b hb => (by simp at hb), fun b hb => (by cases hb)⟩, fun b o q _ => .inl q, fun b o q => .inl q, fun b hb => (by cases hb), fun b hb => (by cases hb)⟩
    by_cases e : b = a
    · have q : (if b = a then some (HO.frz ob (.lst (ns.map V.int))) else none) = some o := q
      rw [if_pos e] at q
      cases q
      rw [e]
      exact hf
    · have q : (if b = a then some (HO.frz ob (.lst (ns.map V.int))) else none) = some o := q
      rw [if_neg e] at q
      cases q
  · rw [hm]
    intro v F' ι' H' _ _ r
    cases r
    rfl
theorem bindsA_plain {K : PySem.W.Frag} {x qual pn : Str} {params : Arguments} {body : List Stmt} {scope : Scope} {kws : List (Str × V)} {f : Addr} {fd : FuncData} (F : FunD K x qual params body scope [] kws f fd) (h : plainPar params [pn] = true) (s : Shared) (v : Value) : BindsTo s fd ⟨[v], []⟩ [(pn, v)] := by
  obtain ⟨a1, a2, a3, a4, a5, a6, a7⟩ := params
  unfold plainPar at h
  simp only [Bool.and_eq_true, List.isEmpty_iff, Option.isNone_iff_eq_none, decide_eq_true_eq] at h
  obtain ⟨h1, h2, h3, h4, h5, h6, h7, nd⟩ := h
  subst h1 h2 h3 h4 h5 h6
  refine FunD.bindsA (ps := [pn]) F (fun kV doc pm an cdv ct us hu => ?_) s [v] rfl
  have hl : a2.length = 1 := by
    have := congrArg List.length h7
    rw [List.length_map] at this
    exact this
  have e := bind_plain (x := x) (qual := qual) (body := body) (scope := scope) (kV := kV) (doc := doc) (pm := pm) (an := an) (cdv := cdv) (ct := ct) a2 us (by rw [hu, hl]; rfl) (by rw [h7]; exact nd)
  rw [h7] at e
  exact e
/-- THE END -/
theorem end_law {l : PySem.W.OpenLaw} {q : Program} {loose : List Str} {XP : (Str → Option Value) → Heap → Prop} {d : DefRec} {t : Tab} {N n dep li j : Nat} {x : Str} {y : FT} {fo : Fo} {u : Fn}
    (hn : l.most = some n) (hn2 : n ≤ sizeLine) (hdf : d.params.defaults = []) (hr : Room (3 * dep) callerA) (tx : txtB t = true) (hy : t.fts[li]? = some y) (hu : t.pg.fns[li]? = some u) (hp : y.ps = [x]) (hpl : plainPar y.d.params y.ps = true) (hdl : y.dfl = [])
    (hfo : t.pg.fos[j]? = some fo) (hfi : fo.f = li) (hnm : t.tb.f li = d.name)
    (Bf : ∀ (w : World) (K : PySem.W.Frag) (mg : Str → Option Value) (base : Heap), SaysC t K → ∀ (i : Nat) (fo : Fo), t.pg.fos[i]? = some fo → foB t fo = false → BindF (mkGe t l.prog w K mg base) (fdOf K (t.fad K fo.f)) (t.fps fo.f) fo.nw fo.ks fo.ar)
    (Bm : ∀ (w : World) (K : PySem.W.Frag) (mg : Str → Option Value) (base : Heap), SaysC t K → ∀ (i : Nat) (fo : Fo) (k : Cl), t.pg.mfos[i]? = some fo → t.pg.cls[fo.f]? = some k → BindM (mkGe t l.prog w K mg base) (fdOf K (t.fad K k.init)) (t.fps k.init) fo.nw fo.ks fo.ar)
    (law : ∀ ns : List Int, ns.length ≤ n → ∃ m, run t.pg dep li [.scr (ns.map .int)] [] = .ok (.bl true) m) :
    PySem.W.WalkO q loose XP (hookC N t).says l.row.toRowW d [] (fun f vs => PySem.call f vs) := by
  refine Att.attach_call hn hdf fun w s₀ s₁ mg mb fa o pm cd doc a vs ns G Y ho hd hcd hmg hobj hints hlen hg => ?_
  obtain ⟨K, KX, c, noL⟩ := Y
  have F := c.fn hy
  have e0 : y.dd.dvs K = [] := by
    show y.dfl.map _ = []
    rw [hdl]
    rfl
  rw [e0] at F
  have efps : t.fps li = [x] := by unfold Tab.fps; rw [hy]; exact hp
  have hfa : fa = t.fad K li := by
    have tb := c.top
    unfold topB at tb
    obtain ⟨_, tb⟩ := ba2 tb
    obtain ⟨_, tb⟩ := ba2 tb
    obtain ⟨_, tb⟩ := ba2 tb
    obtain ⟨_, tb⟩ := ba2 tb
    obtain ⟨_, tb⟩ := ba2 tb
    obtain ⟨t5, _⟩ := ba2 tb
    have e := eqO_ok (ba2 (List.all_eq_true.mp t5 fo (List.mem_of_getElem? hfo))).2
    rw [hfi, hnm] at e
    have := PySem.W.mg_of KX G.T.g e
    rw [this] at hmg
    cases hmg
    rfl
  subst hfa
  have hb : ∀ (s : Shared) (v : Value), BindsTo s (fdOf K (t.fad K li)) ⟨[v], []⟩ [(x, v)] := by
    rw [hp] at hpl
    exact fun s v => bindsA_plain F hpl s v
  have hka : K.lookup a = none := by
    cases hk : K.lookup a with
    | none => rfl
    | some o =>
      have e := KX a o hk
      rw [hobj] at e
      cases e
      have := noL a _ hk
      have h2 : isListO { cls := .type "list", data := .seq vs.toArray } = true := rfl
      exact (Bool.false_ne_true (this.symm.trans h2)).elim
  refine law_callG (sp := fun vs H Q E => vs.length = 1 ∧ ∀ base, spF (mkGe t l.prog w K mg base) dep li vs H Q E) (CX := L2.CX l.prog w) (k := 3 * dep) KX hka G.T.g G.T.b G.T.builtins G.T.nolimit hg hobj hints (Nat.le_trans hlen hn2) hr (fun base hKb hns => ?_) hb (fun H hO hS => ⟨rfl, fun base => sp_law law hlen hO hS noL⟩)
    (fun H e s' ⟨_, _, _, _, _, _, _, _, _, _, _, _, h⟩ => h)
  have T := tops_of (prog := l.prog) (w := w) (base := base) KX G.T.g c tx (Bf w K mg base c) (Bm w K mg base c)
  have Er := errs_of (prog := l.prog) (w := w) (base := base) KX G.T.g c
  have L := lib_all T Er (fun f u hu => defs_of c tx hu) (inits_of c) dep
  have := (L.fn li u hu).ok
  have e2 : (mkGe t l.prog w K mg base).fps li = [x] := efps
  rw [e2] at this
  exact ⟨fun vs H Q E h => this.len vs H Q E (h.2 base), fun A outer s H args us vs Q E hr he hb' hv h => this.run A outer s H args us vs Q E hr he hb' hv (h.2 base)⟩
end G
end
section
set_option Elab.async false
set_option linter.all false
set_option maxRecDepth 100000
set_option maxHeartbeats 4000000
/-! G: calls of a class by keywords, defaults filled up. -/
namespace G
open PySem PySem.Spec PyProof.Rows L2
/-- each parameter's value: the i-th keyword's, or the j-th default's -/
def pickL {α : Type} (a b : List α) : List (Nat ⊕ Nat) → List α
  | [] => []
  | i :: r => (match i with
    | .inl i => b[i]?
    | .inr j => a[j]?).toList ++ pickL a b r
theorem vals_at {vs : List V} {us : List Value} (r : Vals vs us) (i : Nat) : Vals (vs[i]?).toList (us[i]?).toList := by
  cases h : vs[i]? with
  | some v =>
    obtain ⟨u, hu, ru⟩ := r.get h
    rw [hu]
    exact .cons ru .nil
  | none =>
    rw [r.none_of h]
    exact .nil
theorem vals_pick {a b : List V} {a' b' : List Value} (ra : Vals a a') (rb : Vals b b') : ∀ is : List (Nat ⊕ Nat), Vals (pickL a b is) (pickL a' b' is)
  | [] => .nil
  | .inl i :: r => (vals_at rb i).append (vals_pick ra rb r)
  | .inr j :: r => (vals_at ra j).append (vals_pick ra rb r)
def arOf (dd : List D) : List (Nat ⊕ Nat) → List Ar
  | [] => []
  | .inl i :: r => .w i :: arOf dd r
  | .inr j :: r => .d ((dd[j]?).getD .non) :: arOf dd r
theorem reps_pick {Γ : Ge} {F : Hp} {ι : List Addr} {a b : List V} {dd ds : List D} (ra : Reps Γ F ι a dd) (rb : Reps Γ F ι b ds) : ∀ {is : List (Nat ⊕ Nat)} {qs : List D}, (∀ j, Sum.inr j ∈ is → j < dd.length) → arr ds (arOf dd is) = some qs → Reps Γ F ι (pickL a b is) qs
  | [], qs, _, h => by cases h; exact .nil
  | .inl i :: r, qs, hj, h => by
    have h : ((ds[i]?).bind fun d => (arr ds (arOf dd r)).map (d :: ·)) = some qs := h
    obtain ⟨d, hd, h⟩ := Option.bind_eq_some_iff.mp h
    obtain ⟨qs', hq, rfl⟩ := Option.map_eq_some_iff.mp h
    obtain ⟨v, hv, rv⟩ := rb.get hd
    show Reps Γ F ι ((b[i]?).toList ++ pickL a b r) _
    rw [hv]
    exact .cons rv (reps_pick ra rb (fun j hm => hj j (List.mem_cons_of_mem _ hm)) hq)
  | .inr j :: r, qs, hj, h => by
    have h : ((arr ds (arOf dd r)).map ((dd[j]?).getD .non :: ·)) = some qs := h
    obtain ⟨qs', hq, rfl⟩ := Option.map_eq_some_iff.mp h
    have hl := hj j List.mem_cons_self
    have hd : dd[j]? = some dd[j] := List.getElem?_eq_getElem hl
    obtain ⟨v, hv, rv⟩ := ra.get hd
    show Reps Γ F ι ((a[j]?).toList ++ pickL a b r) _
    rw [hv, hd]
    exact .cons rv (reps_pick ra rb (fun j hm => hj j (List.mem_cons_of_mem _ hm)) hq)
/-- C(k = v, ..): keywords alone -/
theorem bindM_kw {Γ : Ge} {x qual : Str} {params : Arguments} {body : List Stmt} {scope : Scope} {kws : List (Str × V)} {f : Addr} {fd : FuncData} {ps ks : List Str} (ms : List (Str × V)) (dd : List D) (is : List (Nat ⊕ Nat)) (F : FunD Γ.K x qual params body scope [] kws f fd) (hk : kws ≠ [])
    (hms : ∀ q ∈ ms, q ∈ kws) (hdd : ∀ F ι, Reps Γ F ι (ms.map (·.2)) dd) (hj : ∀ j, Sum.inr j ∈ is → j < dd.length)
    (h : ∀ (D : Addr) (doc pm : Value) (an : Option Addr) (cdv ct : Value) (us mv ws : List Value), us.length = 1 → mv.length = ms.length → ws.length = ks.length →
      KwChain D ((ms.map (·.1)).zip mv) (bindArgs (PySem.W.fnOf x qual params body scope .none (.ref D) doc pm an cdv ct) ⟨us, ks.zip ws⟩) (ps.zip (us ++ pickL mv ws is))) :
    BindM Γ fd ps ks.length ks (arOf dd is) := by
  obtain ⟨mv, B⟩ := FunD.kbinds0 (ps := ps) F 1 ks ms (fun us a b => us ++ pickL a b is) hk hms (fun r1 r2 r3 => r1.append (vals_pick r2 r3 is)) h
  intro s u xs vs F ι ds qs hK rv rd ha hl
  unfold arrN at ha
  split at ha
  · rename_i hlen
    have hx : xs.length = ks.length := by rw [← rv.length, rd.length, hlen]
    have e1 : xs.length - ks.length = 0 := by omega
    rw [e1, List.take_zero, List.drop_zero]
    exact ⟨pickL mv xs is, pickL (ms.map (·.2)) vs is, B.to s [u] xs hK rfl hx, by simpa using B.rel (vs := []) (us := []) .nil rv, reps_pick (hdd F ι) rd hj ha⟩
  · cases ha
end G
end
section
set_option Elab.async false
set_option linter.all false
set_option maxRecDepth 100000
set_option maxHeartbeats 1000000
/-! G: the evaluator's equations, for simp. -/
namespace G
open PySem
section
variable {P : Par} {e : En} {m : Mu} {a b c : C} {i j : Nat}
@[simp] theorem evE_cst {d : D} : evE P (.cst d) e m = .ok d e m := rfl
@[simp] theorem evE_loc : evE P (.loc i) e m = rdLoc i e m := rfl
@[simp] theorem evE_pk : evE P (.pk i) e m = rdPk i e m := rfl
@[simp] theorem evE_glb : evE P (.glb i) e m = .opt (P.gl[i]?) e m := rfl
@[simp] theorem evE_bin {op : Operator} : evE P (.bin op a b) e m = (evE P a e m).bind fun x e1 m1 => (evE P b e1 m1).bind fun y e2 m2 => P.bin op x y (objOf a x e2 m2) (objOf b y e2 m2) e2 m2 := rfl
/-- op a -/
def Par.un (P : Par) (op : UnaryOp) (x : D) (o : Option D) (e1 : En) (m1 : Mu) : R D := match op, o with
    | .USub, some (.int i) => .ok (.int (-i)) e1 m1
    | .Invert, some (.int i) => .ok (.int (Builtin.bitNot i)) e1 m1
    | .Invert, some (.ins c _) => match P.meth c "__invert__" with
      | some f => (P.call f [x] m1).lift e1
      | none => .no
    | _, _ => .no
@[simp] theorem un_neg {x : D} {z : Int} : P.un .USub x (some (.int z)) e m = .ok (.int (-z)) e m := rfl
@[simp] theorem un_bnot {x : D} {z : Int} : P.un .Invert x (some (.int z)) e m = .ok (.int (Builtin.bitNot z)) e m := rfl
@[simp] theorem un_ins {x : D} {c : Nat} {fs : List (Str × D)} : P.un .Invert x (some (.ins c fs)) e m = match P.meth c "__invert__" with
      | some f => (P.call f [x] m).lift e
      | none => .no := rfl
@[simp] theorem evE_un {op : UnaryOp} : evE P (.un op a) e m = (evE P a e m).bind fun x e1 m1 => P.un op x (objOf a x e1 m1) e1 m1 := rfl
@[simp] theorem evE_cmp {op : CmpOp} : evE P (.cmp op a b) e m = (evE P a e m).bind fun x e1 m1 => (evE P b e1 m1).bind fun y e2 m2 => P.cmp op x y (objOf a x e2 m2) (objOf b y e2 m2) e2 m2 := rfl
@[simp] theorem evE_chn {o1 o2 : CmpOp} : evE P (.chn o1 o2 a b c) e m = (evE P a e m).bind fun x e1 m1 => (evE P b e1 m1).bind fun y e2 m2 => match cmpD o1 (deref m2 x) (deref m2 y) with
    | some true => (evE P c e2 m2).bind fun z e3 m3 => .opt ((cmpD o2 (deref m3 y) (deref m3 z)).map .bl) e3 m3
    | some false => .ok (.bl false) e2 m2
    | none => .no := rfl
@[simp] theorem evE_dget : evE P (.dget a b) e m = (evE P a e m).bind fun x e1 m1 => (evE P b e1 m1).bind fun y e2 m2 => match objOf a x e2 m2 with
    | some (.dic kvs) => .opt (lookK kvs y) e2 m2
    | _ => .no := rfl
@[simp] theorem evE_isN {neg : Bool} : evE P (.isN neg a) e m = (evE P a e m).bind fun x e1 m1 => .ok (.bl (neg != isNon x)) e1 m1 := rfl
@[simp] theorem evE_isB {neg v : Bool} : evE P (.isB neg v a) e m = (evE P a e m).bind fun x e1 m1 => match x with
    | .bl b => .ok (.bl (neg != (b == v))) e1 m1
    | _ => .no := rfl
@[simp] theorem evE_and : evE P (.and_ a b) e m = (evE P a e m).bind fun x e1 m1 => (P.tru a.isPk x (objOf a x e1 m1) e1 m1).bind fun t e2 m2 => if t then evE P b e2 m2 else .ok x e2 m2 := rfl
@[simp] theorem evE_or : evE P (.or_ a b) e m = (evE P a e m).bind fun x e1 m1 => (P.tru a.isPk x (objOf a x e1 m1) e1 m1).bind fun t e2 m2 => if t then .ok x e2 m2 else evE P b e2 m2 := rfl
@[simp] theorem evE_not : evE P (.not_ a) e m = (evE P a e m).bind fun x e1 m1 => (P.tru a.isPk x (objOf a x e1 m1) e1 m1).bind fun t e2 m2 => .ok (.bl (!t)) e2 m2 := rfl
@[simp] theorem evE_ite : evE P (.ite c a b) e m = (evT P c e m).bind fun t e1 m1 => if t then evE P a e1 m1 else evE P b e1 m1 := rfl
@[simp] theorem evE_tup : evE P (.tup a) e m = (evA P a e m).bind fun ds e1 m1 => if ds.length ≤ sizeL then .ok (.tup ds) e1 m1 else .no := rfl
@[simp] theorem evE_lst : evE P (.lst a) e m = (evA P a e m).bind fun ds e1 m1 => if ds.length ≤ sizeL then .ok (.lst ds) e1 m1 else .no := rfl
@[simp] theorem evE_dic {ks : List Str} : evE P (.dic ks a) e m = (evA P a e m).bind fun ds e1 m1 => .ok (.dic ((ks.map .inr).zip ds)) e1 m1 := rfl
@[simp] theorem evE_newc : evE P (.newc a) e m = (evA P a e m).bind fun ds e1 m1 => if ds.length ≤ sizeL then .ok (.cel m1.length) e1 (m1 ++ [.lst ds]) else .no := rfl
@[simp] theorem evE_call : evE P (.call i a b) e m = (evA P a e m).bind fun ds e1 m1 => (evA P b e1 m1).bind fun zs e2 m2 => match P.fos[i]? with
    | some fo => match arrK fo ds zs with
      | some vs => (P.call fo.f vs m2).lift e2
      | none => .no
    | none => .no := rfl
@[simp] theorem evE_make : evE P (.make i a b) e m = (evA P a e m).bind fun ds e1 m1 => (evA P b e1 m1).bind fun zs e2 m2 => match P.mfos[i]? with
    | some fo => match arrK fo ds zs with
      | some vs => (P.make fo.f vs m2).lift e2
      | none => .no
    | none => .no := rfl
/-- a method that is called: its def -/
def Par.mth (P : Par) (pk : Bool) (f : Str) (o : Option D) : Option Nat := match o with
    | some (.ins c fs) => if pk then none else match P.meth c f with
      | some g => if (fs.lookup f).isSome then none else some g
      | none => none
    | _ => none
@[simp] theorem mth_ins {pk : Bool} {f : Str} {c : Nat} {fs : List (Str × D)} : P.mth pk f (some (.ins c fs)) = if pk then none else match P.meth c f with
      | some g => if (fs.lookup f).isSome then none else some g
      | none => none := rfl
theorem evE_meth0 {f : Str} : evE P (.meth a f b) e m = (evE P a e m).bind fun x e1 m1 => match objOf a x e1 m1 with
    | some (.ins c fs) => if a.isPk then .no else match P.meth c f with
      | some g => if (fs.lookup f).isSome then .no else (evA P b e1 m1).bind fun ds e2 m2 => (P.call g (x :: ds) m2).lift e2
      | none => .no
    | _ => .no := rfl
@[simp] theorem evE_meth {f : Str} : evE P (.meth a f b) e m = (evE P a e m).bind fun x e1 m1 => match P.mth a.isPk f (objOf a x e1 m1) with
    | some g => (evA P b e1 m1).bind fun ds e2 m2 => (P.call g (x :: ds) m2).lift e2
    | none => .no := by
  rw [evE_meth0]
  congr 1
  funext x e1 m1
  unfold Par.mth
  cases objOf a x e1 m1 with
  | none => rfl
  | some d =>
    cases d <;> try rfl
    simp only []
    cases a.isPk with
    | true => rfl
    | false =>
      simp only [Bool.false_eq_true, if_false]
      split
      · split <;> rfl
      · rfl
/-- o.f -/
def Par.att (P : Par) (pk : Bool) (f : Str) (x : D) (o : Option D) (e1 : En) (m1 : Mu) : R D := match o with
    | some (.ins c fs) => match P.prop c f with
      | some g => if pk then .no else ((P.call g [x] m1).lift e1).nox
      | none => if P.fld c f then .opt (fs.lookup f) e1 m1 else .no
    | _ => .no
@[simp] theorem att_ins {pk : Bool} {f : Str} {x : D} {c : Nat} {fs : List (Str × D)} : P.att pk f x (some (.ins c fs)) e m = match P.prop c f with
      | some g => if pk then .no else ((P.call g [x] m).lift e).nox
      | none => if P.fld c f then .opt (fs.lookup f) e m else .no := rfl
@[simp] theorem evE_att {f : Str} : evE P (.att a f) e m = (evE P a e m).bind fun x e1 m1 => P.att a.isPk f x (objOf a x e1 m1) e1 m1 := rfl
@[simp] theorem evE_b1 {f : B1} : evE P (.b1 f a) e m = (evE P a e m).bind fun x e1 m1 => match objOf a x e1 m1 with
    | some d => .opt (b1D f d) e1 m1
    | none => .no := rfl
@[simp] theorem evE_b2 {f : B2} : evE P (.b2 f a b) e m = (evE P a e m).bind fun x e1 m1 => (evE P b e1 m1).bind fun y e2 m2 => .opt (b2D f x y) e2 m2 := rfl
@[simp] theorem evE_m0 {f : M0} : evE P (.m0 f a) e m = (evE P a e m).bind fun x e1 m1 => .opt (m0D f x) e1 m1 := rfl
@[simp] theorem evE_m1 {f : M1} : evE P (.m1 f a b) e m = (evE P a e m).bind fun x e1 m1 => if m1Ok f x then (evE P b e1 m1).bind fun y e2 m2 => match objOf b y e2 m2 with
    | some d2 => .opt (m1D f x d2) e2 m2
    | none => .no
    else .no := rfl
@[simp] theorem evE_ix : evE P (.ix a b) e m = (evE P a e m).bind fun x e1 m1 => (evE P b e1 m1).bind fun y e2 m2 => match objOf a x e2 m2 with
    | some d => .opt (ixD d y) e2 m2
    | none => .no := rfl
@[simp] theorem evE_sl : evE P (.sl a b c) e m = (evE P a e m).bind fun x e1 m1 => (evE P b e1 m1).bind fun l e2 m2 => match partD b l with
    | some lo => (evE P c e2 m2).bind fun h e3 m3 => match objOf a x e3 m3, partD c h with
      | some d, some hi => .opt (slD d lo hi) e3 m3
      | _, _ => .no
    | none => .no := rfl
@[simp] theorem evE_sno : evE P .sno e m = .ok .non e m := rfl
@[simp] theorem evE_isi {ts : List Ty} : evE P (.isi a ts) e m = (evE P a e m).bind fun x e1 m1 => match objOf a x e1 m1 with
    | some d => if P.insOk d then .opt ((isTys d ts).map .bl) e1 m1 else .no
    | none => .no := rfl
@[simp] theorem evE_efld {f : Str} : evE P (.efld i f) e m = match e[i]? with
    | some (.exc _ fs) => .opt (fs.lookup f) e m
    | _ => .no := rfl
@[simp] theorem evE_eisi {ts : List Ty} : evE P (.eisi i ts) e m = match e[i]? with
    | some (.exc c _) => .opt ((P.subs c ts).map .bl) e m
    | _ => .no := rfl
/-- one turn of a comprehension -/
def lcTurn (P : Par) (elt : C) (t : Tg) (cond : C) (own : List Nat) (d : D) (acc : List D) (e2 : En) (m2 : Mu) : R (List D) := match setT t d e2 with
  | some e3 => (evT P cond e3 m2).bind fun b e4 m4 => if b then (evE P elt e4 m4).bind fun y e5 m5 => pushR own acc y e5 m5 else .ok acc (wipeE own e4) m4
  | none => .no
@[simp] theorem evE_lc {elt it cond : C} {t : Tg} {own : List Nat} : evE P (.lc elt t it cond own) e m = (evI P it e m).bind fun w e1 m1 => (foldR (lcTurn P elt t cond own) w [] (wipeE own e1) m1).nox.bind fun ys e6 m6 => .ok (.lst ys) (restore own e1 e6) m6 := rfl
/-- .. of the second clause -/
def lc2Turn (P : Par) (elt : C) (t : Tg) (it2 : C) (t2 : Tg) (cond : C) (own own2 : List Nat) (d : D) (acc : List D) (e2 : En) (m2 : Mu) : R (List D) := match setT t d e2 with
  | some e3 => (evI P it2 e3 m2).bind fun w2 e4 m4 => (foldR (lcTurn P elt t2 cond own2) w2 acc (wipeE own2 e4) m4).bind fun acc9 e9 m9 => .ok acc9 (wipeE own e9) m9
  | none => .no
@[simp] theorem evE_lc2 {elt it it2 cond : C} {t t2 : Tg} {own own2 : List Nat} : evE P (.lc2 elt t it t2 it2 cond own own2) e m = (evI P it e m).bind fun w e1 m1 => (foldR (lc2Turn P elt t it2 t2 cond own own2) w [] (wipeE own e1) m1).nox.bind fun ys e6 m6 => .ok (.lst ys) (restore own e1 e6) m6 := rfl
@[simp] theorem evT_and : evT P (.and_ a b) e m = (evT P a e m).bind fun t e1 m1 => if t then evT P b e1 m1 else .ok false e1 m1 := rfl
@[simp] theorem evT_or : evT P (.or_ a b) e m = (evT P a e m).bind fun t e1 m1 => if t then .ok true e1 m1 else evT P b e1 m1 := rfl
@[simp] theorem evT_not : evT P (.not_ a) e m = (evT P a e m).bind fun t e1 m1 => .ok (!t) e1 m1 := rfl
@[simp] theorem evT_ite : evT P (.ite c a b) e m = (evT P c e m).bind fun t e1 m1 => if t then evT P a e1 m1 else evT P b e1 m1 := rfl
@[simp] theorem evT_cmp {op : CmpOp} : evT P (.cmp op a b) e m = (evE P a e m).bind fun x e1 m1 => (evE P b e1 m1).bind fun y e2 m2 => (P.cmp op x y (objOf a x e2 m2) (objOf b y e2 m2) e2 m2).bind fun d e3 m3 => .opt (unT d) e3 m3 := rfl
@[simp] theorem evT_chn {o1 o2 : CmpOp} : evT P (.chn o1 o2 a b c) e m = (evE P a e m).bind fun x e1 m1 => (evE P b e1 m1).bind fun y e2 m2 => match cmpD o1 (deref m2 x) (deref m2 y) with
    | some true => (evE P c e2 m2).bind fun z e3 m3 => .opt (cmpD o2 (deref m3 y) (deref m3 z)) e3 m3
    | some false => .ok false e2 m2
    | none => .no := rfl
@[simp] theorem evT_isN {neg : Bool} : evT P (.isN neg a) e m = (evE P a e m).bind fun x e1 m1 => .ok (neg != isNon x) e1 m1 := rfl
@[simp] theorem evT_isB {neg v : Bool} : evT P (.isB neg v a) e m = (evE P a e m).bind fun x e1 m1 => match x with
    | .bl b => .ok (neg != (b == v)) e1 m1
    | _ => .no := rfl
@[simp] theorem evT_tru : evT P (.tru a) e m = (evE P a e m).bind fun x e1 m1 => P.tru a.isPk x (objOf a x e1 m1) e1 m1 := rfl
@[simp] theorem evA_nil : evA P .nil e m = .ok [] e m := rfl
@[simp] theorem evA_cons : evA P (.cons a b) e m = (evE P a e m).bind fun d e1 m1 => (evA P b e1 m1).bind fun ds e2 m2 => .ok (d :: ds) e2 m2 := rfl
@[simp] theorem evI_rng : evI P (.rng a b c) e m = (evE P a e m).bind fun x e1 m1 => (evE P b e1 m1).bind fun y e2 m2 => (evE P c e2 m2).bind fun z e3 m3 => match x, y, z with
    | .int x, .int y, .int z => .opt (rangeD x y z) e3 m3
    | _, _, _ => .no := rfl
@[simp] theorem evI_wk : evI P (.wk a) e m = (evE P a e m).bind fun x e1 m1 => .opt (itemsOf x) e1 m1 := rfl
/-! statements -/
variable {s s1 s2 : S}
@[simp] theorem evS_skip : evS P .skip e m = .nx e m := rfl
@[simp] theorem evS_seq : evS P (.seq s1 s2) e m = (evS P s1 e m).bind fun e1 m1 => evS P s2 e1 m1 := rfl
@[simp] theorem evS_ex : evS P (.ex a) e m = (evE P a e m).bindS fun _ e1 m1 => .nx e1 m1 := rfl
@[simp] theorem evS_asg {t : Tg} : evS P (.asg t a) e m = (evE P a e m).bindS fun x e1 m1 => match setT t x e1 with
    | some e2 => .nx e2 m1
    | none => .no := rfl
@[simp] theorem evS_own0 : evS P (.own i .nil) e m = (evA P .nil e m).bindS fun ds e1 m1 => if ds.length ≤ sizeL ∧ i < e1.length ∧ 0 < i then .nx (e1.set i (.own (.lst ds))) m1 else .no := rfl
@[simp] theorem evS_own1 : evS P (.own i (.cons a b)) e m = (evA P (.cons a b) e m).bindS fun ds e1 m1 => if ds.length ≤ sizeL ∧ i < e1.length ∧ 0 < i then .nx (e1.set i (.own (.lst ds))) m1 else .no := rfl
@[simp] theorem evS_ownD {ks : List Str} : evS P (.own i (.dic ks a)) e m = (evA P a e m).bindS fun ds e1 m1 => if i < e1.length ∧ 0 < i then .nx (e1.set i (.own (.dic ((ks.map Sum.inr).zip ds)))) m1 else .no := rfl
@[simp] theorem evS_ownL {t : Tg} {own : List Nat} : evS P (.own i (.lc a t b c own)) e m = (evE P (.lc a t b c own) e m).bindS fun d e1 m1 => if i < e1.length ∧ 0 < i then .nx (e1.set i (.own d)) m1 else .no := rfl
@[simp] theorem evS_par : evS P (.par i j a b) e m = (evE P a e m).bindS fun x e1 m1 => (evE P b e1 m1).bindS fun y e2 m2 => if i < e2.length && j < e2.length then .nx ((e2.set i (.val x)).set j (.val y)) m2 else .no := rfl
@[simp] theorem evS_mut {f : MU} : evS P (.mut a f b) e m = (evE P a e m).bindS fun x e1 m1 => if isLst (objOf a x e1 m1) then (evA P b e1 m1).bindS fun ds e2 m2 => match objOf a x e2 m2 with
    | some d => match (muD f d ds).bind fun d' => wrO a x d' e2 m2 with
      | some (e3, m3) => .nx e3 m3
      | none => .no
    | none => .no
    else .no := rfl
@[simp] theorem evS_seti : evS P (.seti a b c) e m = (evE P c e m).bindS fun z e1 m1 => (evE P a e1 m1).bindS fun x e2 m2 => (evE P b e2 m2).bindS fun y e3 m3 => match objOf a x e3 m3 with
    | some d => match (setiD d y z).bind fun d' => wrO a x d' e3 m3 with
      | some (e4, m4) => .nx e4 m4
      | none => .no
    | none => .no := rfl
@[simp] theorem evS_fld {f : Str} : evS P (.fld i f a) e m = (evE P a e m).bindS fun z e1 m1 => match e1[i]? with
    | some (.own (.ins k fs)) => if decide (fs.length < 900) && P.fld k f then .nx (e1.set i (.own (.ins k (putF f z fs)))) m1 else .no
    | _ => .no := rfl
@[simp] theorem evS_ret : evS P (.ret a) e m = (evE P a e m).bindS fun x e1 m1 => .ret x e1 m1 := rfl
@[simp] theorem evS_retN : evS P .retN e m = .ret .non e m := rfl
@[simp] theorem evS_if : evS P (.if_ c s1 s2) e m = (evT P c e m).bindS fun t e1 m1 => if t then evS P s1 e1 m1 else evS P s2 e1 m1 := rfl
/-- one turn of a for -/
def forTurn (P : Par) (t : Tg) (s : S) (d : D) (e2 : En) (m2 : Mu) : RS := match setT t d e2 with
  | some e3 => evS P s e3 m2
  | none => .no
@[simp] theorem evS_for {t : Tg} : evS P (.for_ t a s) e m = (evI P a e m).bindS fun w e1 m1 => forL (forTurn P t s) w e1 m1 := rfl
@[simp] theorem evS_wh : evS P (.wh c s) e m = whL (evT P c) (evS P s) P.fuel e m := rfl
@[simp] theorem evS_brk : evS P .brk e m = .brk e m := rfl
@[simp] theorem evS_cnt : evS P .cnt e m = .cnt e m := rfl
@[simp] theorem evS_raise : evS P (.raise i a) e m = (evA P a e m).bindS fun ds e1 m1 => match P.exc[i]? with
    | some x => if x.fields.length = ds.length then .ex i (x.fields.zip ds) e1 m1 else .no
    | none => .no := rfl
@[simp] theorem evS_try {k : Nat} : evS P (.try_ s k i s1) e m = match evS P s e m with
    | .ex c' fs e1 m1 => match P.sub c' (.c k) with
      | some true => if i < e1.length then match evS P.cold s1 (e1.set i (.exc c' fs)) m1 with
          | .nx e2 m2 => if noExc (e2.set i .no) then .nx (e2.set i .no) m2 else .no
          | .ret d e2 m2 => if noExc (e2.set i .no) then .ret d (e2.set i .no) m2 else .no
          | _ => .no
        else .no
      | some false => .ex c' fs e1 m1
      | none => .no
    | r => r := rfl
end
/-! loops -/
@[simp] theorem forL_nil {f : D → En → Mu → RS} {e : En} {m : Mu} : forL f [] e m = .nx e m := rfl
@[simp] theorem forL_cons {f : D → En → Mu → RS} {d : D} {ds : List D} {e : En} {m : Mu} : forL f (d :: ds) e m = match f d e m with
    | .nx e1 m1 => forL f ds e1 m1
    | .cnt e1 m1 => forL f ds e1 m1
    | .brk e1 m1 => .nx e1 m1
    | r => r := rfl
/-! a def's run -/
section
variable {G : Pg} {n f : Nat} {ds : List D} {m : Mu} {np nn : Nat} {b : S}
theorem run_eq (h : G.fns[f]? = some ⟨np, nn, b⟩) (hl : ds.length = np) : run G (n + 1) f ds m = (evS (G.par (run G n) (mk G n)) b (ini (ds.map .val) nn) m).fin := by
  simp only [run, h, hl, if_true]
theorem mk_eq {c : Nat} {k : Cl} (hk : G.cls[c]? = some k) (h : G.fns[k.init]? = some ⟨np, nn, b⟩) (hl : ds.length + 1 = np) : mk G (n + 1) c ds m = (evS (G.par (run G n) (mk G n)) b (ini (.own (.ins c []) :: ds.map .val) nn) m).fin0 := by
  simp only [mk, hk, h, hl, if_true]
@[simp] theorem par_call {c k : Nat → List D → Mu → R0} : (G.par c k).call = c := rfl
@[simp] theorem par_make {c k : Nat → List D → Mu → R0} : (G.par c k).make = k := rfl
@[simp] theorem par_gl {c k : Nat → List D → Mu → R0} : (G.par c k).gl = G.gl := rfl
@[simp] theorem par_cls {c k : Nat → List D → Mu → R0} : (G.par c k).cls = G.cls := rfl
@[simp] theorem par_exc {c k : Nat → List D → Mu → R0} : (G.par c k).exc = G.exc := rfl
@[simp] theorem par_fos {c k : Nat → List D → Mu → R0} : (G.par c k).fos = G.fos := rfl
@[simp] theorem par_mfos {c k : Nat → List D → Mu → R0} : (G.par c k).mfos = G.mfos := rfl
@[simp] theorem par_fuel {c k : Nat → List D → Mu → R0} : (G.par c k).fuel = G.fuel := rfl
@[simp] theorem cold_gl {P : Par} : P.cold.gl = P.gl := rfl
@[simp] theorem cold_cls {P : Par} : P.cold.cls = P.cls := rfl
@[simp] theorem cold_exc {P : Par} : P.cold.exc = P.exc := rfl
@[simp] theorem fin_nx {e : En} : (RS.nx e m).fin = .ok .non m := rfl
@[simp] theorem fin_ret {e : En} {d : D} : (RS.ret d e m).fin = .ok d m := rfl
@[simp] theorem fin_ex {e : En} {c : Nat} {fs : List (Str × D)} : (RS.ex c fs e m).fin = .ex c fs m := rfl
end
/-! data, by their constructors -/
section
variable {P : Par} {e : En} {m : Mu} {c : C} {x y d : D} {op : CmpOp} {i j : Int} {b b2 : Bool} {z z2 : Str} {ds ds2 : List D} {kvs : List (Key × D)} {fs : List (Str × D)} {k : Nat}
@[simp] theorem deref_non : deref m .non = .non := rfl
@[simp] theorem deref_bl : deref m (.bl b) = (.bl b) := rfl
@[simp] theorem deref_int : deref m (.int i) = (.int i) := rfl
@[simp] theorem deref_str : deref m (.str z) = (.str z) := rfl
@[simp] theorem deref_tup : deref m (.tup ds) = (.tup ds) := rfl
@[simp] theorem deref_lst : deref m (.lst ds) = (.lst ds) := rfl
@[simp] theorem deref_scr : deref m (.scr ds) = (.scr ds) := rfl
@[simp] theorem deref_dic : deref m (.dic kvs) = (.dic kvs) := rfl
@[simp] theorem deref_ins : deref m (.ins k fs) = (.ins k fs) := rfl
@[simp] theorem deref_cel : deref m (.cel k) = (m[k]?).getD .non := rfl
theorem objOf_np (h : c.isPk = false) : objOf c d e m = some (deref m d) := by cases c <;> first | rfl | cases h
@[simp] theorem pk_cst {d : D} : (C.cst d).isPk = false := rfl
@[simp] theorem ob_cst {q d : D} {e : En} {m : Mu} : objOf (C.cst q) d e m = some (deref m d) := rfl
@[simp] theorem pk_loc {i} : (C.loc i).isPk = false := rfl
@[simp] theorem ob_loc {i} {d : D} {e : En} {m : Mu} : objOf (C.loc i) d e m = some (deref m d) := rfl
@[simp] theorem pk_glb {i} : (C.glb i).isPk = false := rfl
@[simp] theorem ob_glb {i} {d : D} {e : En} {m : Mu} : objOf (C.glb i) d e m = some (deref m d) := rfl
@[simp] theorem pk_bin {o a b} : (C.bin o a b).isPk = false := rfl
@[simp] theorem ob_bin {o a b} {d : D} {e : En} {m : Mu} : objOf (C.bin o a b) d e m = some (deref m d) := rfl
@[simp] theorem pk_un {o a} : (C.un o a).isPk = false := rfl
@[simp] theorem ob_un {o a} {d : D} {e : En} {m : Mu} : objOf (C.un o a) d e m = some (deref m d) := rfl
@[simp] theorem pk_cmp {o a b} : (C.cmp o a b).isPk = false := rfl
@[simp] theorem ob_cmp {o a b} {d : D} {e : En} {m : Mu} : objOf (C.cmp o a b) d e m = some (deref m d) := rfl
@[simp] theorem pk_chn {o p a b c} : (C.chn o p a b c).isPk = false := rfl
@[simp] theorem ob_chn {o p a b c} {d : D} {e : En} {m : Mu} : objOf (C.chn o p a b c) d e m = some (deref m d) := rfl
@[simp] theorem pk_dget {a b} : (C.dget a b).isPk = false := rfl
@[simp] theorem ob_dget {a b} {d : D} {e : En} {m : Mu} : objOf (C.dget a b) d e m = some (deref m d) := rfl
@[simp] theorem pk_isN {n a} : (C.isN n a).isPk = false := rfl
@[simp] theorem ob_isN {n a} {d : D} {e : En} {m : Mu} : objOf (C.isN n a) d e m = some (deref m d) := rfl
@[simp] theorem pk_isB {n v a} : (C.isB n v a).isPk = false := rfl
@[simp] theorem ob_isB {n v a} {d : D} {e : En} {m : Mu} : objOf (C.isB n v a) d e m = some (deref m d) := rfl
@[simp] theorem pk_and_ {a b} : (C.and_ a b).isPk = false := rfl
@[simp] theorem ob_and_ {a b} {d : D} {e : En} {m : Mu} : objOf (C.and_ a b) d e m = some (deref m d) := rfl
@[simp] theorem pk_or_ {a b} : (C.or_ a b).isPk = false := rfl
@[simp] theorem ob_or_ {a b} {d : D} {e : En} {m : Mu} : objOf (C.or_ a b) d e m = some (deref m d) := rfl
@[simp] theorem pk_not_ {a} : (C.not_ a).isPk = false := rfl
@[simp] theorem ob_not_ {a} {d : D} {e : En} {m : Mu} : objOf (C.not_ a) d e m = some (deref m d) := rfl
@[simp] theorem pk_ite {c a b} : (C.ite c a b).isPk = false := rfl
@[simp] theorem ob_ite {c a b} {d : D} {e : En} {m : Mu} : objOf (C.ite c a b) d e m = some (deref m d) := rfl
@[simp] theorem pk_tup {a} : (C.tup a).isPk = false := rfl
@[simp] theorem ob_tup {a} {d : D} {e : En} {m : Mu} : objOf (C.tup a) d e m = some (deref m d) := rfl
@[simp] theorem pk_lst {a} : (C.lst a).isPk = false := rfl
@[simp] theorem ob_lst {a} {d : D} {e : En} {m : Mu} : objOf (C.lst a) d e m = some (deref m d) := rfl
@[simp] theorem pk_dic {k a} : (C.dic k a).isPk = false := rfl
@[simp] theorem ob_dic {k a} {d : D} {e : En} {m : Mu} : objOf (C.dic k a) d e m = some (deref m d) := rfl
@[simp] theorem pk_newc {a} : (C.newc a).isPk = false := rfl
@[simp] theorem ob_newc {a} {d : D} {e : En} {m : Mu} : objOf (C.newc a) d e m = some (deref m d) := rfl
@[simp] theorem pk_call {f a b} : (C.call f a b).isPk = false := rfl
@[simp] theorem ob_call {f a b} {d : D} {e : En} {m : Mu} : objOf (C.call f a b) d e m = some (deref m d) := rfl
@[simp] theorem pk_make {f a b} : (C.make f a b).isPk = false := rfl
@[simp] theorem ob_make {f a b} {d : D} {e : En} {m : Mu} : objOf (C.make f a b) d e m = some (deref m d) := rfl
@[simp] theorem pk_meth {o m a} : (C.meth o m a).isPk = false := rfl
@[simp] theorem ob_meth {o f a} {d : D} {e : En} {m : Mu} : objOf (C.meth o f a) d e m = some (deref m d) := rfl
@[simp] theorem pk_att {o f} : (C.att o f).isPk = false := rfl
@[simp] theorem ob_att {o f} {d : D} {e : En} {m : Mu} : objOf (C.att o f) d e m = some (deref m d) := rfl
@[simp] theorem pk_b1 {f a} : (C.b1 f a).isPk = false := rfl
@[simp] theorem ob_b1 {f a} {d : D} {e : En} {m : Mu} : objOf (C.b1 f a) d e m = some (deref m d) := rfl
@[simp] theorem pk_b2 {f a b} : (C.b2 f a b).isPk = false := rfl
@[simp] theorem ob_b2 {f a b} {d : D} {e : En} {m : Mu} : objOf (C.b2 f a b) d e m = some (deref m d) := rfl
@[simp] theorem pk_m0 {f a} : (C.m0 f a).isPk = false := rfl
@[simp] theorem ob_m0 {f a} {d : D} {e : En} {m : Mu} : objOf (C.m0 f a) d e m = some (deref m d) := rfl
@[simp] theorem pk_m1 {f a b} : (C.m1 f a b).isPk = false := rfl
@[simp] theorem ob_m1 {f a b} {d : D} {e : En} {m : Mu} : objOf (C.m1 f a b) d e m = some (deref m d) := rfl
@[simp] theorem pk_ix {a b} : (C.ix a b).isPk = false := rfl
@[simp] theorem ob_ix {a b} {d : D} {e : En} {m : Mu} : objOf (C.ix a b) d e m = some (deref m d) := rfl
@[simp] theorem pk_sl {a b c} : (C.sl a b c).isPk = false := rfl
@[simp] theorem ob_sl {a b c} {d : D} {e : En} {m : Mu} : objOf (C.sl a b c) d e m = some (deref m d) := rfl
@[simp] theorem pk_isi {a t} : (C.isi a t).isPk = false := rfl
@[simp] theorem ob_isi {a t} {d : D} {e : En} {m : Mu} : objOf (C.isi a t) d e m = some (deref m d) := rfl
@[simp] theorem pk_efld {i f} : (C.efld i f).isPk = false := rfl
@[simp] theorem ob_efld {i f} {d : D} {e : En} {m : Mu} : objOf (C.efld i f) d e m = some (deref m d) := rfl
@[simp] theorem pk_eisi {i t} : (C.eisi i t).isPk = false := rfl
@[simp] theorem ob_eisi {i t} {d : D} {e : En} {m : Mu} : objOf (C.eisi i t) d e m = some (deref m d) := rfl
@[simp] theorem pk_lc {a t b c o} : (C.lc a t b c o).isPk = false := rfl
@[simp] theorem ob_lc {a t b c o} {d : D} {e : En} {m : Mu} : objOf (C.lc a t b c o) d e m = some (deref m d) := rfl
@[simp] theorem pk_lc2 {a t b t2 b2 c o o2} : (C.lc2 a t b t2 b2 c o o2).isPk = false := rfl
@[simp] theorem ob_lc2 {a t b t2 b2 c o o2} {d : D} {e : En} {m : Mu} : objOf (C.lc2 a t b t2 b2 c o o2) d e m = some (deref m d) := rfl
@[simp] theorem pk_pk {i : Nat} : (C.pk i).isPk = true := rfl
@[simp] theorem rl_v0 {q : D} : rdLoc 0 (.val q :: e) m = .ok q (.val q :: e) m := rfl
@[simp] theorem rl_o0 {q : D} : rdLoc 0 (.own q :: e) m = .ok q (.val q :: e) m := rfl
@[simp] theorem rp_v0 {q : D} : rdPk 0 (.val q :: e) m = .ok q (.val q :: e) m := rfl
@[simp] theorem rp_o0 {q : D} : rdPk 0 (.own q :: e) m = .ok q (.own q :: e) m := rfl
@[simp] theorem op_v0 {q d : D} : objOf (.pk 0) d (.val q :: e) m = some (deref m q) := rfl
@[simp] theorem op_o0 {q d : D} : objOf (.pk 0) d (.own q :: e) m = some q := rfl
@[simp] theorem wr_o0 {q d r : D} : wrO (.pk 0) r d (.own q :: e) m = some (.own d :: e, m) := rfl
@[simp] theorem rl_v1 {x0 : EV} {q : D} : rdLoc 1 (x0 :: .val q :: e) m = .ok q (x0 :: .val q :: e) m := rfl
@[simp] theorem rl_o1 {x0 : EV} {q : D} : rdLoc 1 (x0 :: .own q :: e) m = .ok q (x0 :: .val q :: e) m := rfl
@[simp] theorem rp_v1 {x0 : EV} {q : D} : rdPk 1 (x0 :: .val q :: e) m = .ok q (x0 :: .val q :: e) m := rfl
@[simp] theorem rp_o1 {x0 : EV} {q : D} : rdPk 1 (x0 :: .own q :: e) m = .ok q (x0 :: .own q :: e) m := rfl
@[simp] theorem op_v1 {x0 : EV} {q d : D} : objOf (.pk 1) d (x0 :: .val q :: e) m = some (deref m q) := rfl
@[simp] theorem op_o1 {x0 : EV} {q d : D} : objOf (.pk 1) d (x0 :: .own q :: e) m = some q := rfl
@[simp] theorem wr_o1 {x0 : EV} {q d r : D} : wrO (.pk 1) r d (x0 :: .own q :: e) m = some (x0 :: .own d :: e, m) := rfl
@[simp] theorem rl_v2 {x0 x1 : EV} {q : D} : rdLoc 2 (x0 :: x1 :: .val q :: e) m = .ok q (x0 :: x1 :: .val q :: e) m := rfl
@[simp] theorem rl_o2 {x0 x1 : EV} {q : D} : rdLoc 2 (x0 :: x1 :: .own q :: e) m = .ok q (x0 :: x1 :: .val q :: e) m := rfl
@[simp] theorem rp_v2 {x0 x1 : EV} {q : D} : rdPk 2 (x0 :: x1 :: .val q :: e) m = .ok q (x0 :: x1 :: .val q :: e) m := rfl
@[simp] theorem rp_o2 {x0 x1 : EV} {q : D} : rdPk 2 (x0 :: x1 :: .own q :: e) m = .ok q (x0 :: x1 :: .own q :: e) m := rfl
@[simp] theorem op_v2 {x0 x1 : EV} {q d : D} : objOf (.pk 2) d (x0 :: x1 :: .val q :: e) m = some (deref m q) := rfl
@[simp] theorem op_o2 {x0 x1 : EV} {q d : D} : objOf (.pk 2) d (x0 :: x1 :: .own q :: e) m = some q := rfl
@[simp] theorem wr_o2 {x0 x1 : EV} {q d r : D} : wrO (.pk 2) r d (x0 :: x1 :: .own q :: e) m = some (x0 :: x1 :: .own d :: e, m) := rfl
@[simp] theorem rl_v3 {x0 x1 x2 : EV} {q : D} : rdLoc 3 (x0 :: x1 :: x2 :: .val q :: e) m = .ok q (x0 :: x1 :: x2 :: .val q :: e) m := rfl
@[simp] theorem rl_o3 {x0 x1 x2 : EV} {q : D} : rdLoc 3 (x0 :: x1 :: x2 :: .own q :: e) m = .ok q (x0 :: x1 :: x2 :: .val q :: e) m := rfl
@[simp] theorem rp_v3 {x0 x1 x2 : EV} {q : D} : rdPk 3 (x0 :: x1 :: x2 :: .val q :: e) m = .ok q (x0 :: x1 :: x2 :: .val q :: e) m := rfl
@[simp] theorem rp_o3 {x0 x1 x2 : EV} {q : D} : rdPk 3 (x0 :: x1 :: x2 :: .own q :: e) m = .ok q (x0 :: x1 :: x2 :: .own q :: e) m := rfl
@[simp] theorem op_v3 {x0 x1 x2 : EV} {q d : D} : objOf (.pk 3) d (x0 :: x1 :: x2 :: .val q :: e) m = some (deref m q) := rfl
@[simp] theorem op_o3 {x0 x1 x2 : EV} {q d : D} : objOf (.pk 3) d (x0 :: x1 :: x2 :: .own q :: e) m = some q := rfl
@[simp] theorem wr_o3 {x0 x1 x2 : EV} {q d r : D} : wrO (.pk 3) r d (x0 :: x1 :: x2 :: .own q :: e) m = some (x0 :: x1 :: x2 :: .own d :: e, m) := rfl
@[simp] theorem rl_v4 {x0 x1 x2 x3 : EV} {q : D} : rdLoc 4 (x0 :: x1 :: x2 :: x3 :: .val q :: e) m = .ok q (x0 :: x1 :: x2 :: x3 :: .val q :: e) m := rfl
@[simp] theorem rl_o4 {x0 x1 x2 x3 : EV} {q : D} : rdLoc 4 (x0 :: x1 :: x2 :: x3 :: .own q :: e) m = .ok q (x0 :: x1 :: x2 :: x3 :: .val q :: e) m := rfl
@[simp] theorem rp_v4 {x0 x1 x2 x3 : EV} {q : D} : rdPk 4 (x0 :: x1 :: x2 :: x3 :: .val q :: e) m = .ok q (x0 :: x1 :: x2 :: x3 :: .val q :: e) m := rfl
@[simp] theorem rp_o4 {x0 x1 x2 x3 : EV} {q : D} : rdPk 4 (x0 :: x1 :: x2 :: x3 :: .own q :: e) m = .ok q (x0 :: x1 :: x2 :: x3 :: .own q :: e) m := rfl
@[simp] theorem op_v4 {x0 x1 x2 x3 : EV} {q d : D} : objOf (.pk 4) d (x0 :: x1 :: x2 :: x3 :: .val q :: e) m = some (deref m q) := rfl
@[simp] theorem op_o4 {x0 x1 x2 x3 : EV} {q d : D} : objOf (.pk 4) d (x0 :: x1 :: x2 :: x3 :: .own q :: e) m = some q := rfl
@[simp] theorem wr_o4 {x0 x1 x2 x3 : EV} {q d r : D} : wrO (.pk 4) r d (x0 :: x1 :: x2 :: x3 :: .own q :: e) m = some (x0 :: x1 :: x2 :: x3 :: .own d :: e, m) := rfl
@[simp] theorem rl_v5 {x0 x1 x2 x3 x4 : EV} {q : D} : rdLoc 5 (x0 :: x1 :: x2 :: x3 :: x4 :: .val q :: e) m = .ok q (x0 :: x1 :: x2 :: x3 :: x4 :: .val q :: e) m := rfl
@[simp] theorem rl_o5 {x0 x1 x2 x3 x4 : EV} {q : D} : rdLoc 5 (x0 :: x1 :: x2 :: x3 :: x4 :: .own q :: e) m = .ok q (x0 :: x1 :: x2 :: x3 :: x4 :: .val q :: e) m := rfl
@[simp] theorem rp_v5 {x0 x1 x2 x3 x4 : EV} {q : D} : rdPk 5 (x0 :: x1 :: x2 :: x3 :: x4 :: .val q :: e) m = .ok q (x0 :: x1 :: x2 :: x3 :: x4 :: .val q :: e) m := rfl
@[simp] theorem rp_o5 {x0 x1 x2 x3 x4 : EV} {q : D} : rdPk 5 (x0 :: x1 :: x2 :: x3 :: x4 :: .own q :: e) m = .ok q (x0 :: x1 :: x2 :: x3 :: x4 :: .own q :: e) m := rfl
@[simp] theorem op_v5 {x0 x1 x2 x3 x4 : EV} {q d : D} : objOf (.pk 5) d (x0 :: x1 :: x2 :: x3 :: x4 :: .val q :: e) m = some (deref m q) := rfl
@[simp] theorem op_o5 {x0 x1 x2 x3 x4 : EV} {q d : D} : objOf (.pk 5) d (x0 :: x1 :: x2 :: x3 :: x4 :: .own q :: e) m = some q := rfl
@[simp] theorem wr_o5 {x0 x1 x2 x3 x4 : EV} {q d r : D} : wrO (.pk 5) r d (x0 :: x1 :: x2 :: x3 :: x4 :: .own q :: e) m = some (x0 :: x1 :: x2 :: x3 :: x4 :: .own d :: e, m) := rfl
@[simp] theorem rl_v6 {x0 x1 x2 x3 x4 x5 : EV} {q : D} : rdLoc 6 (x0 :: x1 :: x2 :: x3 :: x4 :: x5 :: .val q :: e) m = .ok q (x0 :: x1 :: x2 :: x3 :: x4 :: x5 :: .val q :: e) m := rfl
@[simp] theorem rl_o6 {x0 x1 x2 x3 x4 x5 : EV} {q : D} : rdLoc 6 (x0 :: x1 :: x2 :: x3 :: x4 :: x5 :: .own q :: e) m = .ok q (x0 :: x1 :: x2 :: x3 :: x4 :: x5 :: .val q :: e) m := rfl
@[simp] theorem rp_v6 {x0 x1 x2 x3 x4 x5 : EV} {q : D} : rdPk 6 (x0 :: x1 :: x2 :: x3 :: x4 :: x5 :: .val q :: e) m = .ok q (x0 :: x1 :: x2 :: x3 :: x4 :: x5 :: .val q :: e) m := rfl
@[simp] theorem rp_o6 {x0 x1 x2 x3 x4 x5 : EV} {q : D} : rdPk 6 (x0 :: x1 :: x2 :: x3 :: x4 :: x5 :: .own q :: e) m = .ok q (x0 :: x1 :: x2 :: x3 :: x4 :: x5 :: .own q :: e) m := rfl
@[simp] theorem op_v6 {x0 x1 x2 x3 x4 x5 : EV} {q d : D} : objOf (.pk 6) d (x0 :: x1 :: x2 :: x3 :: x4 :: x5 :: .val q :: e) m = some (deref m q) := rfl
@[simp] theorem op_o6 {x0 x1 x2 x3 x4 x5 : EV} {q d : D} : objOf (.pk 6) d (x0 :: x1 :: x2 :: x3 :: x4 :: x5 :: .own q :: e) m = some q := rfl
@[simp] theorem wr_o6 {x0 x1 x2 x3 x4 x5 : EV} {q d r : D} : wrO (.pk 6) r d (x0 :: x1 :: x2 :: x3 :: x4 :: x5 :: .own q :: e) m = some (x0 :: x1 :: x2 :: x3 :: x4 :: x5 :: .own d :: e, m) := rfl
@[simp] theorem rl_v7 {x0 x1 x2 x3 x4 x5 x6 : EV} {q : D} : rdLoc 7 (x0 :: x1 :: x2 :: x3 :: x4 :: x5 :: x6 :: .val q :: e) m = .ok q (x0 :: x1 :: x2 :: x3 :: x4 :: x5 :: x6 :: .val q :: e) m := rfl
@[simp] theorem rl_o7 {x0 x1 x2 x3 x4 x5 x6 : EV} {q : D} : rdLoc 7 (x0 :: x1 :: x2 :: x3 :: x4 :: x5 :: x6 :: .own q :: e) m = .ok q (x0 :: x1 :: x2 :: x3 :: x4 :: x5 :: x6 :: .val q :: e) m := rfl
@[simp] theorem rp_v7 {x0 x1 x2 x3 x4 x5 x6 : EV} {q : D} : rdPk 7 (x0 :: x1 :: x2 :: x3 :: x4 :: x5 :: x6 :: .val q :: e) m = .ok q (x0 :: x1 :: x2 :: x3 :: x4 :: x5 :: x6 :: .val q :: e) m := rfl
@[simp] theorem rp_o7 {x0 x1 x2 x3 x4 x5 x6 : EV} {q : D} : rdPk 7 (x0 :: x1 :: x2 :: x3 :: x4 :: x5 :: x6 :: .own q :: e) m = .ok q (x0 :: x1 :: x2 :: x3 :: x4 :: x5 :: x6 :: .own q :: e) m := rfl
@[simp] theorem op_v7 {x0 x1 x2 x3 x4 x5 x6 : EV} {q d : D} : objOf (.pk 7) d (x0 :: x1 :: x2 :: x3 :: x4 :: x5 :: x6 :: .val q :: e) m = some (deref m q) := rfl
@[simp] theorem op_o7 {x0 x1 x2 x3 x4 x5 x6 : EV} {q d : D} : objOf (.pk 7) d (x0 :: x1 :: x2 :: x3 :: x4 :: x5 :: x6 :: .own q :: e) m = some q := rfl
@[simp] theorem wr_o7 {x0 x1 x2 x3 x4 x5 x6 : EV} {q d r : D} : wrO (.pk 7) r d (x0 :: x1 :: x2 :: x3 :: x4 :: x5 :: x6 :: .own q :: e) m = some (x0 :: x1 :: x2 :: x3 :: x4 :: x5 :: x6 :: .own d :: e, m) := rfl
@[simp] theorem rl_v8 {x0 x1 x2 x3 x4 x5 x6 x7 : EV} {q : D} : rdLoc 8 (x0 :: x1 :: x2 :: x3 :: x4 :: x5 :: x6 :: x7 :: .val q :: e) m = .ok q (x0 :: x1 :: x2 :: x3 :: x4 :: x5 :: x6 :: x7 :: .val q :: e) m := rfl
@[simp] theorem rl_o8 {x0 x1 x2 x3 x4 x5 x6 x7 : EV} {q : D} : rdLoc 8 (x0 :: x1 :: x2 :: x3 :: x4 :: x5 :: x6 :: x7 :: .own q :: e) m = .ok q (x0 :: x1 :: x2 :: x3 :: x4 :: x5 :: x6 :: x7 :: .val q :: e) m := rfl
@[simp] theorem rp_v8 {x0 x1 x2 x3 x4 x5 x6 x7 : EV} {q : D} : rdPk 8 (x0 :: x1 :: x2 :: x3 :: x4 :: x5 :: x6 :: x7 :: .val q :: e) m = .ok q (x0 :: x1 :: x2 :: x3 :: x4 :: x5 :: x6 :: x7 :: .val q :: e) m := rfl
@[simp] theorem rp_o8 {x0 x1 x2 x3 x4 x5 x6 x7 : EV} {q : D} : rdPk 8 (x0 :: x1 :: x2 :: x3 :: x4 :: x5 :: x6 :: x7 :: .own q :: e) m = .ok q (x0 :: x1 :: x2 :: x3 :: x4 :: x5 :: x6 :: x7 :: .own q :: e) m := rfl
@[simp] theorem op_v8 {x0 x1 x2 x3 x4 x5 x6 x7 : EV} {q d : D} : objOf (.pk 8) d (x0 :: x1 :: x2 :: x3 :: x4 :: x5 :: x6 :: x7 :: .val q :: e) m = some (deref m q) := rfl
@[simp] theorem op_o8 {x0 x1 x2 x3 x4 x5 x6 x7 : EV} {q d : D} : objOf (.pk 8) d (x0 :: x1 :: x2 :: x3 :: x4 :: x5 :: x6 :: x7 :: .own q :: e) m = some q := rfl
@[simp] theorem wr_o8 {x0 x1 x2 x3 x4 x5 x6 x7 : EV} {q d r : D} : wrO (.pk 8) r d (x0 :: x1 :: x2 :: x3 :: x4 :: x5 :: x6 :: x7 :: .own q :: e) m = some (x0 :: x1 :: x2 :: x3 :: x4 :: x5 :: x6 :: x7 :: .own d :: e, m) := rfl
@[simp] theorem rl_v9 {x0 x1 x2 x3 x4 x5 x6 x7 x8 : EV} {q : D} : rdLoc 9 (x0 :: x1 :: x2 :: x3 :: x4 :: x5 :: x6 :: x7 :: x8 :: .val q :: e) m = .ok q (x0 :: x1 :: x2 :: x3 :: x4 :: x5 :: x6 :: x7 :: x8 :: .val q :: e) m := rfl
@[simp] theorem rl_o9 {x0 x1 x2 x3 x4 x5 x6 x7 x8 : EV} {q : D} : rdLoc 9 (x0 :: x1 :: x2 :: x3 :: x4 :: x5 :: x6 :: x7 :: x8 :: .own q :: e) m = .ok q (x0 :: x1 :: x2 :: x3 :: x4 :: x5 :: x6 :: x7 :: x8 :: .val q :: e) m := rfl
@[simp] theorem rp_v9 {x0 x1 x2 x3 x4 x5 x6 x7 x8 : EV} {q : D} : rdPk 9 (x0 :: x1 :: x2 :: x3 :: x4 :: x5 :: x6 :: x7 :: x8 :: .val q :: e) m = .ok q (x0 :: x1 :: x2 :: x3 :: x4 :: x5 :: x6 :: x7 :: x8 :: .val q :: e) m := rfl
@[simp] theorem rp_o9 {x0 x1 x2 x3 x4 x5 x6 x7 x8 : EV} {q : D} : rdPk 9 (x0 :: x1 :: x2 :: x3 :: x4 :: x5 :: x6 :: x7 :: x8 :: .own q :: e) m = .ok q (x0 :: x1 :: x2 :: x3 :: x4 :: x5 :: x6 :: x7 :: x8 :: .own q :: e) m := rfl
@[simp] theorem op_v9 {x0 x1 x2 x3 x4 x5 x6 x7 x8 : EV} {q d : D} : objOf (.pk 9) d (x0 :: x1 :: x2 :: x3 :: x4 :: x5 :: x6 :: x7 :: x8 :: .val q :: e) m = some (deref m q) := rfl
@[simp] theorem op_o9 {x0 x1 x2 x3 x4 x5 x6 x7 x8 : EV} {q d : D} : objOf (.pk 9) d (x0 :: x1 :: x2 :: x3 :: x4 :: x5 :: x6 :: x7 :: x8 :: .own q :: e) m = some q := rfl
@[simp] theorem wr_o9 {x0 x1 x2 x3 x4 x5 x6 x7 x8 : EV} {q d r : D} : wrO (.pk 9) r d (x0 :: x1 :: x2 :: x3 :: x4 :: x5 :: x6 :: x7 :: x8 :: .own q :: e) m = some (x0 :: x1 :: x2 :: x3 :: x4 :: x5 :: x6 :: x7 :: x8 :: .own d :: e, m) := rfl
@[simp] theorem wr_cel {i : Nat} (h : k < m.length) : wrO (.loc i) (.cel k) x e m = some (e, m.set k x) := by
  show (if k < m.length then some (e, m.set k x) else none) = _
  rw [if_pos h]
@[simp] theorem wr_pk_cel (h : k < m.length) : wrO (.pk 0) d x (.val (.cel k) :: e) m = some (.val (.cel k) :: e, m.set k x) := by
  show (if k < m.length then some (EV.val (.cel k) :: e, m.set k x) else none) = _
  rw [if_pos h]
def isIns : D → Bool
  | .ins _ _ => true
  | _ => false
@[simp] theorem isIns_non : isIns .non = false := rfl
@[simp] theorem isIns_bl : isIns (.bl b) = false := rfl
@[simp] theorem isIns_int : isIns (.int i) = false := rfl
@[simp] theorem isIns_str : isIns (.str z) = false := rfl
@[simp] theorem isIns_tup : isIns (.tup ds) = false := rfl
@[simp] theorem isIns_lst : isIns (.lst ds) = false := rfl
@[simp] theorem isIns_scr : isIns (.scr ds) = false := rfl
@[simp] theorem isIns_dic : isIns (.dic kvs) = false := rfl
@[simp] theorem isIns_ins : isIns (.ins k fs) = true := rfl
theorem bin_D {op : Operator} {x y a b : D} (h : isIns a = false) : P.bin op x y (some a) (some b) e m = .opt (binD op a b) e m := by cases a <;> first | rfl | cases h
@[simp] theorem bin_non {op : Operator} {x y u : D} : P.bin op x y (some .non) (some u) e m = .opt (binD op .non u) e m := rfl
@[simp] theorem bin_bl {op : Operator} {x y u : D} : P.bin op x y (some (.bl b)) (some u) e m = .opt (binD op (.bl b) u) e m := rfl
@[simp] theorem bin_int {op : Operator} {x y u : D} : P.bin op x y (some (.int i)) (some u) e m = .opt (binD op (.int i) u) e m := rfl
@[simp] theorem bin_str {op : Operator} {x y u : D} : P.bin op x y (some (.str z)) (some u) e m = .opt (binD op (.str z) u) e m := rfl
@[simp] theorem bin_tup {op : Operator} {x y u : D} : P.bin op x y (some (.tup ds)) (some u) e m = .opt (binD op (.tup ds) u) e m := rfl
@[simp] theorem bin_lst {op : Operator} {x y u : D} : P.bin op x y (some (.lst ds)) (some u) e m = .opt (binD op (.lst ds) u) e m := rfl
@[simp] theorem bin_scr {op : Operator} {x y u : D} : P.bin op x y (some (.scr ds)) (some u) e m = .opt (binD op (.scr ds) u) e m := rfl
@[simp] theorem bin_dic {op : Operator} {x y u : D} : P.bin op x y (some (.dic kvs)) (some u) e m = .opt (binD op (.dic kvs) u) e m := rfl
theorem cmp_D {x y a b : D} (h : isIns a = false) (h2 : isIns b = false) : P.cmp op x y (some a) (some b) e m = .opt ((cmpD op a b).map .bl) e m := by cases a <;> cases b <;> first | rfl | (cases h; done) | (cases h2; done)
@[simp] theorem cmp_non_non {u v : D} : P.cmp op u v (some .non) (some .non) e m = .opt ((cmpD op .non .non).map .bl) e m := rfl
@[simp] theorem cmp_non_bl {u v : D} : P.cmp op u v (some .non) (some (.bl b2)) e m = .opt ((cmpD op .non (.bl b2)).map .bl) e m := rfl
@[simp] theorem cmp_non_int {u v : D} : P.cmp op u v (some .non) (some (.int j)) e m = .opt ((cmpD op .non (.int j)).map .bl) e m := rfl
@[simp] theorem cmp_non_str {u v : D} : P.cmp op u v (some .non) (some (.str z2)) e m = .opt ((cmpD op .non (.str z2)).map .bl) e m := rfl
@[simp] theorem cmp_non_tup {u v : D} : P.cmp op u v (some .non) (some (.tup ds2)) e m = .opt ((cmpD op .non (.tup ds2)).map .bl) e m := rfl
@[simp] theorem cmp_non_lst {u v : D} : P.cmp op u v (some .non) (some (.lst ds2)) e m = .opt ((cmpD op .non (.lst ds2)).map .bl) e m := rfl
@[simp] theorem cmp_non_scr {u v : D} : P.cmp op u v (some .non) (some (.scr ds2)) e m = .opt ((cmpD op .non (.scr ds2)).map .bl) e m := rfl
@[simp] theorem cmp_non_dic {u v : D} {kvs2 : List (Key × D)} : P.cmp op u v (some .non) (some (.dic kvs2)) e m = .opt ((cmpD op .non (.dic kvs2)).map .bl) e m := rfl
@[simp] theorem cmp_bl_non {u v : D} : P.cmp op u v (some (.bl b)) (some .non) e m = .opt ((cmpD op (.bl b) .non).map .bl) e m := rfl
@[simp] theorem cmp_bl_bl {u v : D} : P.cmp op u v (some (.bl b)) (some (.bl b2)) e m = .opt ((cmpD op (.bl b) (.bl b2)).map .bl) e m := rfl
@[simp] theorem cmp_bl_int {u v : D} : P.cmp op u v (some (.bl b)) (some (.int j)) e m = .opt ((cmpD op (.bl b) (.int j)).map .bl) e m := rfl
@[simp] theorem cmp_bl_str {u v : D} : P.cmp op u v (some (.bl b)) (some (.str z2)) e m = .opt ((cmpD op (.bl b) (.str z2)).map .bl) e m := rfl
@[simp] theorem cmp_bl_tup {u v : D} : P.cmp op u v (some (.bl b)) (some (.tup ds2)) e m = .opt ((cmpD op (.bl b) (.tup ds2)).map .bl) e m := rfl
@[simp] theorem cmp_bl_lst {u v : D} : P.cmp op u v (some (.bl b)) (some (.lst ds2)) e m = .opt ((cmpD op (.bl b) (.lst ds2)).map .bl) e m := rfl
@[simp] theorem cmp_bl_scr {u v : D} : P.cmp op u v (some (.bl b)) (some (.scr ds2)) e m = .opt ((cmpD op (.bl b) (.scr ds2)).map .bl) e m := rfl
@[simp] theorem cmp_bl_dic {u v : D} {kvs2 : List (Key × D)} : P.cmp op u v (some (.bl b)) (some (.dic kvs2)) e m = .opt ((cmpD op (.bl b) (.dic kvs2)).map .bl) e m := rfl
@[simp] theorem cmp_int_non {u v : D} : P.cmp op u v (some (.int i)) (some .non) e m = .opt ((cmpD op (.int i) .non).map .bl) e m := rfl
@[simp] theorem cmp_int_bl {u v : D} : P.cmp op u v (some (.int i)) (some (.bl b2)) e m = .opt ((cmpD op (.int i) (.bl b2)).map .bl) e m := rfl
@[simp] theorem cmp_int_int {u v : D} : P.cmp op u v (some (.int i)) (some (.int j)) e m = .opt ((cmpD op (.int i) (.int j)).map .bl) e m := rfl
@[simp] theorem cmp_int_str {u v : D} : P.cmp op u v (some (.int i)) (some (.str z2)) e m = .opt ((cmpD op (.int i) (.str z2)).map .bl) e m := rfl
@[simp] theorem cmp_int_tup {u v : D} : P.cmp op u v (some (.int i)) (some (.tup ds2)) e m = .opt ((cmpD op (.int i) (.tup ds2)).map .bl) e m := rfl
@[simp] theorem cmp_int_lst {u v : D} : P.cmp op u v (some (.int i)) (some (.lst ds2)) e m = .opt ((cmpD op (.int i) (.lst ds2)).map .bl) e m := rfl
@[simp] theorem cmp_int_scr {u v : D} : P.cmp op u v (some (.int i)) (some (.scr ds2)) e m = .opt ((cmpD op (.int i) (.scr ds2)).map .bl) e m := rfl
@[simp] theorem cmp_int_dic {u v : D} {kvs2 : List (Key × D)} : P.cmp op u v (some (.int i)) (some (.dic kvs2)) e m = .opt ((cmpD op (.int i) (.dic kvs2)).map .bl) e m := rfl
@[simp] theorem cmp_str_non {u v : D} : P.cmp op u v (some (.str z)) (some .non) e m = .opt ((cmpD op (.str z) .non).map .bl) e m := rfl
@[simp] theorem cmp_str_bl {u v : D} : P.cmp op u v (some (.str z)) (some (.bl b2)) e m = .opt ((cmpD op (.str z) (.bl b2)).map .bl) e m := rfl
@[simp] theorem cmp_str_int {u v : D} : P.cmp op u v (some (.str z)) (some (.int j)) e m = .opt ((cmpD op (.str z) (.int j)).map .bl) e m := rfl
@[simp] theorem cmp_str_str {u v : D} : P.cmp op u v (some (.str z)) (some (.str z2)) e m = .opt ((cmpD op (.str z) (.str z2)).map .bl) e m := rfl
@[simp] theorem cmp_str_tup {u v : D} : P.cmp op u v (some (.str z)) (some (.tup ds2)) e m = .opt ((cmpD op (.str z) (.tup ds2)).map .bl) e m := rfl
@[simp] theorem cmp_str_lst {u v : D} : P.cmp op u v (some (.str z)) (some (.lst ds2)) e m = .opt ((cmpD op (.str z) (.lst ds2)).map .bl) e m := rfl
@[simp] theorem cmp_str_scr {u v : D} : P.cmp op u v (some (.str z)) (some (.scr ds2)) e m = .opt ((cmpD op (.str z) (.scr ds2)).map .bl) e m := rfl
@[simp] theorem cmp_str_dic {u v : D} {kvs2 : List (Key × D)} : P.cmp op u v (some (.str z)) (some (.dic kvs2)) e m = .opt ((cmpD op (.str z) (.dic kvs2)).map .bl) e m := rfl
@[simp] theorem cmp_tup_non {u v : D} : P.cmp op u v (some (.tup ds)) (some .non) e m = .opt ((cmpD op (.tup ds) .non).map .bl) e m := rfl
@[simp] theorem cmp_tup_bl {u v : D} : P.cmp op u v (some (.tup ds)) (some (.bl b2)) e m = .opt ((cmpD op (.tup ds) (.bl b2)).map .bl) e m := rfl
@[simp] theorem cmp_tup_int {u v : D} : P.cmp op u v (some (.tup ds)) (some (.int j)) e m = .opt ((cmpD op (.tup ds) (.int j)).map .bl) e m := rfl
@[simp] theorem cmp_tup_str {u v : D} : P.cmp op u v (some (.tup ds)) (some (.str z2)) e m = .opt ((cmpD op (.tup ds) (.str z2)).map .bl) e m := rfl
@[simp] theorem cmp_tup_tup {u v : D} : P.cmp op u v (some (.tup ds)) (some (.tup ds2)) e m = .opt ((cmpD op (.tup ds) (.tup ds2)).map .bl) e m := rfl
@[simp] theorem cmp_tup_lst {u v : D} : P.cmp op u v (some (.tup ds)) (some (.lst ds2)) e m = .opt ((cmpD op (.tup ds) (.lst ds2)).map .bl) e m := rfl
@[simp] theorem cmp_tup_scr {u v : D} : P.cmp op u v (some (.tup ds)) (some (.scr ds2)) e m = .opt ((cmpD op (.tup ds) (.scr ds2)).map .bl) e m := rfl
@[simp] theorem cmp_tup_dic {u v : D} {kvs2 : List (Key × D)} : P.cmp op u v (some (.tup ds)) (some (.dic kvs2)) e m = .opt ((cmpD op (.tup ds) (.dic kvs2)).map .bl) e m := rfl
@[simp] theorem cmp_lst_non {u v : D} : P.cmp op u v (some (.lst ds)) (some .non) e m = .opt ((cmpD op (.lst ds) .non).map .bl) e m := rfl
@[simp] theorem cmp_lst_bl {u v : D} : P.cmp op u v (some (.lst ds)) (some (.bl b2)) e m = .opt ((cmpD op (.lst ds) (.bl b2)).map .bl) e m := rfl
@[simp] theorem cmp_lst_int {u v : D} : P.cmp op u v (some (.lst ds)) (some (.int j)) e m = .opt ((cmpD op (.lst ds) (.int j)).map .bl) e m := rfl
@[simp] theorem cmp_lst_str {u v : D} : P.cmp op u v (some (.lst ds)) (some (.str z2)) e m = .opt ((cmpD op (.lst ds) (.str z2)).map .bl) e m := rfl
@[simp] theorem cmp_lst_tup {u v : D} : P.cmp op u v (some (.lst ds)) (some (.tup ds2)) e m = .opt ((cmpD op (.lst ds) (.tup ds2)).map .bl) e m := rfl
@[simp] theorem cmp_lst_lst {u v : D} : P.cmp op u v (some (.lst ds)) (some (.lst ds2)) e m = .opt ((cmpD op (.lst ds) (.lst ds2)).map .bl) e m := rfl
@[simp] theorem cmp_lst_scr {u v : D} : P.cmp op u v (some (.lst ds)) (some (.scr ds2)) e m = .opt ((cmpD op (.lst ds) (.scr ds2)).map .bl) e m := rfl
@[simp] theorem cmp_lst_dic {u v : D} {kvs2 : List (Key × D)} : P.cmp op u v (some (.lst ds)) (some (.dic kvs2)) e m = .opt ((cmpD op (.lst ds) (.dic kvs2)).map .bl) e m := rfl
@[simp] theorem cmp_scr_non {u v : D} : P.cmp op u v (some (.scr ds)) (some .non) e m = .opt ((cmpD op (.scr ds) .non).map .bl) e m := rfl
@[simp] theorem cmp_scr_bl {u v : D} : P.cmp op u v (some (.scr ds)) (some (.bl b2)) e m = .opt ((cmpD op (.scr ds) (.bl b2)).map .bl) e m := rfl
@[simp] theorem cmp_scr_int {u v : D} : P.cmp op u v (some (.scr ds)) (some (.int j)) e m = .opt ((cmpD op (.scr ds) (.int j)).map .bl) e m := rfl
@[simp] theorem cmp_scr_str {u v : D} : P.cmp op u v (some (.scr ds)) (some (.str z2)) e m = .opt ((cmpD op (.scr ds) (.str z2)).map .bl) e m := rfl
@[simp] theorem cmp_scr_tup {u v : D} : P.cmp op u v (some (.scr ds)) (some (.tup ds2)) e m = .opt ((cmpD op (.scr ds) (.tup ds2)).map .bl) e m := rfl
@[simp] theorem cmp_scr_lst {u v : D} : P.cmp op u v (some (.scr ds)) (some (.lst ds2)) e m = .opt ((cmpD op (.scr ds) (.lst ds2)).map .bl) e m := rfl
@[simp] theorem cmp_scr_scr {u v : D} : P.cmp op u v (some (.scr ds)) (some (.scr ds2)) e m = .opt ((cmpD op (.scr ds) (.scr ds2)).map .bl) e m := rfl
@[simp] theorem cmp_scr_dic {u v : D} {kvs2 : List (Key × D)} : P.cmp op u v (some (.scr ds)) (some (.dic kvs2)) e m = .opt ((cmpD op (.scr ds) (.dic kvs2)).map .bl) e m := rfl
@[simp] theorem cmp_dic_non {u v : D} : P.cmp op u v (some (.dic kvs)) (some .non) e m = .opt ((cmpD op (.dic kvs) .non).map .bl) e m := rfl
@[simp] theorem cmp_dic_bl {u v : D} : P.cmp op u v (some (.dic kvs)) (some (.bl b2)) e m = .opt ((cmpD op (.dic kvs) (.bl b2)).map .bl) e m := rfl
@[simp] theorem cmp_dic_int {u v : D} : P.cmp op u v (some (.dic kvs)) (some (.int j)) e m = .opt ((cmpD op (.dic kvs) (.int j)).map .bl) e m := rfl
@[simp] theorem cmp_dic_str {u v : D} : P.cmp op u v (some (.dic kvs)) (some (.str z2)) e m = .opt ((cmpD op (.dic kvs) (.str z2)).map .bl) e m := rfl
@[simp] theorem cmp_dic_tup {u v : D} : P.cmp op u v (some (.dic kvs)) (some (.tup ds2)) e m = .opt ((cmpD op (.dic kvs) (.tup ds2)).map .bl) e m := rfl
@[simp] theorem cmp_dic_lst {u v : D} : P.cmp op u v (some (.dic kvs)) (some (.lst ds2)) e m = .opt ((cmpD op (.dic kvs) (.lst ds2)).map .bl) e m := rfl
@[simp] theorem cmp_dic_scr {u v : D} : P.cmp op u v (some (.dic kvs)) (some (.scr ds2)) e m = .opt ((cmpD op (.dic kvs) (.scr ds2)).map .bl) e m := rfl
@[simp] theorem cmp_dic_dic {u v : D} {kvs2 : List (Key × D)} : P.cmp op u v (some (.dic kvs)) (some (.dic kvs2)) e m = .opt ((cmpD op (.dic kvs) (.dic kvs2)).map .bl) e m := rfl
theorem tru_D {pk : Bool} {a : D} (h : isIns a = false) : P.tru pk x (some a) e m = .opt (truD a) e m := by cases a <;> first | rfl | cases h
@[simp] theorem tru_non {pk : Bool} : P.tru pk x (some .non) e m = .opt (truD .non) e m := rfl
@[simp] theorem tru_bl {pk : Bool} : P.tru pk x (some (.bl b)) e m = .opt (truD (.bl b)) e m := rfl
@[simp] theorem tru_int {pk : Bool} : P.tru pk x (some (.int i)) e m = .opt (truD (.int i)) e m := rfl
@[simp] theorem tru_str {pk : Bool} : P.tru pk x (some (.str z)) e m = .opt (truD (.str z)) e m := rfl
@[simp] theorem tru_tup {pk : Bool} : P.tru pk x (some (.tup ds)) e m = .opt (truD (.tup ds)) e m := rfl
@[simp] theorem tru_lst {pk : Bool} : P.tru pk x (some (.lst ds)) e m = .opt (truD (.lst ds)) e m := rfl
@[simp] theorem tru_scr {pk : Bool} : P.tru pk x (some (.scr ds)) e m = .opt (truD (.scr ds)) e m := rfl
@[simp] theorem tru_dic {pk : Bool} : P.tru pk x (some (.dic kvs)) e m = .opt (truD (.dic kvs)) e m := rfl
theorem insOk_D {a : D} (h : isIns a = false) : P.insOk a = true := by cases a <;> first | rfl | cases h
@[simp] theorem insOk_non : P.insOk .non = true := rfl
@[simp] theorem insOk_bl : P.insOk (.bl b) = true := rfl
@[simp] theorem insOk_int : P.insOk (.int i) = true := rfl
@[simp] theorem insOk_str : P.insOk (.str z) = true := rfl
@[simp] theorem insOk_tup : P.insOk (.tup ds) = true := rfl
@[simp] theorem insOk_lst : P.insOk (.lst ds) = true := rfl
@[simp] theorem insOk_scr : P.insOk (.scr ds) = true := rfl
@[simp] theorem insOk_dic : P.insOk (.dic kvs) = true := rfl
@[simp] theorem binD_add : binD .Add (.int i) (.int j) = some (.int (i + j)) := rfl
@[simp] theorem binD_sub : binD .Sub (.int i) (.int j) = some (.int (i - j)) := rfl
@[simp] theorem binD_mul : binD .Mult (.int i) (.int j) = if small i || small j then some (.int (i * j)) else none := rfl
theorem binD_fdiv : binD .FloorDiv (.int i) (.int j) = if decide (0 < j) && decide (j < wideI) then some (.int (i / j)) else if decide (j < 0) && decide (-(2 ^ 29) < j) then some (.int (i.fdiv j)) else none := rfl
@[simp] theorem binD_fdivP (h : 0 < j) (h2 : j < wideI) : binD .FloorDiv (.int i) (.int j) = some (.int (i / j)) := by rw [binD_fdiv]; simp [h, h2]
@[simp] theorem binD_mod (h : 0 < j) : binD .Mod (.int i) (.int j) = some (.int (i % j)) := by show (if 0 < j then some (D.int (i % j)) else none) = _; rw [if_pos h]
theorem binD_pow : binD .Pow (.int i) (.int j) = if decide (0 ≤ j) && decide (j ≤ 1000) && small i then some (.int (i ^ j.toNat)) else none := rfl
@[simp] theorem binD_adds : binD .Add (.str z) (.str z2) = if z.length + z2.length ≤ sizeL then some (.str (z ++ z2)) else none := rfl
@[simp] theorem binD_addl : binD .Add (.lst ds) (.lst ds2) = if ds.length + ds2.length ≤ sizeL then some (.lst (ds ++ ds2)) else none := rfl
@[simp] theorem binD_addc : binD .Add (.scr ds) (.lst ds2) = if ds.length + ds2.length ≤ sizeL then some (.lst (ds ++ ds2)) else none := rfl
@[simp] theorem binD_addt : binD .Add (.tup ds) (.tup ds2) = if !ds.isEmpty && decide (ds.length + ds2.length ≤ sizeL) then some (.tup (ds ++ ds2)) else none := rfl
@[simp] theorem binD_rep {q : Int} : binD .Mult (.lst ds) (.int q) = if decide (-(2 ^ 63) ≤ q) && decide (q < 2 ^ 63) && decide (ds.length * q.toNat ≤ sizeL) then some (.lst (List.replicate q.toNat ds).flatten) else none := rfl
@[simp] theorem cmpD_eq : cmpD .Eq x y = eqT x y := rfl
@[simp] theorem cmpD_ne : cmpD .NotEq x y = if isS x && isS y || plain x 60 && plain y 60 then (eqD x y).map (!·) else none := rfl
@[simp] theorem cmpD_lt : cmpD .Lt x y = ltD x y := rfl
@[simp] theorem cmpD_le : cmpD .LtE x y = leD x y := rfl
@[simp] theorem cmpD_gt : cmpD .Gt x y = ltD y x := rfl
@[simp] theorem cmpD_ge : cmpD .GtE (.int i) (.int j) = some (decide (j ≤ i)) := rfl
@[simp] theorem cmpD_inl : cmpD .In x (.lst ds) = if flat x && ds.all flat then inL x ds else none := rfl
@[simp] theorem cmpD_int : cmpD .In x (.tup ds) = if flat x && ds.all flat then inL x ds else none := rfl
@[simp] theorem cmpD_ninl : cmpD .NotIn x (.lst ds) = if flat x && ds.all flat then (inL x ds).map (!·) else none := rfl
@[simp] theorem cmpD_nint : cmpD .NotIn x (.tup ds) = if flat x && ds.all flat then (inL x ds).map (!·) else none := rfl
@[simp] theorem eqT_str : eqT (.str z) (.str z2) = some (z == z2) := rfl
@[simp] theorem isS_str : isS (.str z) = true := rfl
@[simp] theorem eqT_int : eqT (.int i) (.int j) = some (i == j) := rfl
@[simp] theorem ltD_int : ltD (.int i) (.int j) = some (decide (i < j)) := rfl
@[simp] theorem leD_int : leD (.int i) (.int j) = some (decide (i ≤ j)) := rfl
@[simp] theorem ltD_str : ltD (.str z) (.str z2) = some (decide (z.cps.toList < z2.cps.toList)) := rfl
@[simp] theorem leD_str : leD (.str z) (.str z2) = some (decide (z.cps.toList ≤ z2.cps.toList)) := rfl
@[simp] theorem ltD_tup : ltD (.tup ds) (.tup ds2) = ltL ds ds2 := rfl
@[simp] theorem leD_tup : leD (.tup ds) (.tup ds2) = leL ds ds2 := rfl
@[simp] theorem truD_non : truD .non = some false := rfl
@[simp] theorem truD_bl : truD (.bl b) = some b := rfl
@[simp] theorem truD_int : truD (.int i) = some (i != 0) := rfl
@[simp] theorem truD_tup : truD (.tup ds) = some (!ds.isEmpty) := rfl
@[simp] theorem truD_lst : truD (.lst ds) = some (!ds.isEmpty) := rfl
@[simp] theorem isNon_non : isNon .non = true := rfl
@[simp] theorem isNon_bl : isNon (.bl b) = false := rfl
@[simp] theorem isNon_int : isNon (.int i) = false := rfl
@[simp] theorem isNon_str : isNon (.str z) = false := rfl
@[simp] theorem isNon_tup : isNon (.tup ds) = false := rfl
@[simp] theorem isNon_lst : isNon (.lst ds) = false := rfl
@[simp] theorem isNon_scr : isNon (.scr ds) = false := rfl
@[simp] theorem isNon_dic : isNon (.dic kvs) = false := rfl
@[simp] theorem isNon_ins : isNon (.ins k fs) = false := rfl
@[simp] theorem unT_bl : unT (.bl b) = some b := rfl
@[simp] theorem isTy_non_int : isTy .non (.b "int") = some false := rfl
@[simp] theorem isTy_non_bool : isTy .non (.b "bool") = some false := rfl
@[simp] theorem isTy_non_str : isTy .non (.b "str") = some false := rfl
@[simp] theorem isTy_non_tuple : isTy .non (.b "tuple") = some false := rfl
@[simp] theorem isTy_non_list : isTy .non (.b "list") = some false := rfl
@[simp] theorem isTy_non_dict : isTy .non (.b "dict") = some false := rfl
@[simp] theorem isTy_non_c {j : Nat} : isTy .non (.c j) = some false := rfl
@[simp] theorem isTy_bl_int : isTy (.bl b) (.b "int") = some true := rfl
@[simp] theorem isTy_bl_bool : isTy (.bl b) (.b "bool") = some true := rfl
@[simp] theorem isTy_bl_str : isTy (.bl b) (.b "str") = some false := rfl
@[simp] theorem isTy_bl_tuple : isTy (.bl b) (.b "tuple") = some false := rfl
@[simp] theorem isTy_bl_list : isTy (.bl b) (.b "list") = some false := rfl
@[simp] theorem isTy_bl_dict : isTy (.bl b) (.b "dict") = some false := rfl
@[simp] theorem isTy_bl_c {j : Nat} : isTy (.bl b) (.c j) = some false := rfl
@[simp] theorem isTy_int_int : isTy (.int i) (.b "int") = some true := rfl
@[simp] theorem isTy_int_bool : isTy (.int i) (.b "bool") = some false := rfl
@[simp] theorem isTy_int_str : isTy (.int i) (.b "str") = some false := rfl
@[simp] theorem isTy_int_tuple : isTy (.int i) (.b "tuple") = some false := rfl
@[simp] theorem isTy_int_list : isTy (.int i) (.b "list") = some false := rfl
@[simp] theorem isTy_int_dict : isTy (.int i) (.b "dict") = some false := rfl
@[simp] theorem isTy_int_c {j : Nat} : isTy (.int i) (.c j) = some false := rfl
@[simp] theorem isTy_str_int : isTy (.str z) (.b "int") = some false := rfl
@[simp] theorem isTy_str_bool : isTy (.str z) (.b "bool") = some false := rfl
@[simp] theorem isTy_str_str : isTy (.str z) (.b "str") = some true := rfl
@[simp] theorem isTy_str_tuple : isTy (.str z) (.b "tuple") = some false := rfl
@[simp] theorem isTy_str_list : isTy (.str z) (.b "list") = some false := rfl
@[simp] theorem isTy_str_dict : isTy (.str z) (.b "dict") = some false := rfl
@[simp] theorem isTy_str_c {j : Nat} : isTy (.str z) (.c j) = some false := rfl
@[simp] theorem isTy_tup_int : isTy (.tup ds) (.b "int") = some false := rfl
@[simp] theorem isTy_tup_bool : isTy (.tup ds) (.b "bool") = some false := rfl
@[simp] theorem isTy_tup_str : isTy (.tup ds) (.b "str") = some false := rfl
@[simp] theorem isTy_tup_tuple : isTy (.tup ds) (.b "tuple") = some true := rfl
@[simp] theorem isTy_tup_list : isTy (.tup ds) (.b "list") = some false := rfl
@[simp] theorem isTy_tup_dict : isTy (.tup ds) (.b "dict") = some false := rfl
@[simp] theorem isTy_tup_c {j : Nat} : isTy (.tup ds) (.c j) = some false := rfl
@[simp] theorem isTy_lst_int : isTy (.lst ds) (.b "int") = some false := rfl
@[simp] theorem isTy_lst_bool : isTy (.lst ds) (.b "bool") = some false := rfl
@[simp] theorem isTy_lst_str : isTy (.lst ds) (.b "str") = some false := rfl
@[simp] theorem isTy_lst_tuple : isTy (.lst ds) (.b "tuple") = some false := rfl
@[simp] theorem isTy_lst_list : isTy (.lst ds) (.b "list") = some true := rfl
@[simp] theorem isTy_lst_dict : isTy (.lst ds) (.b "dict") = some false := rfl
@[simp] theorem isTy_lst_c {j : Nat} : isTy (.lst ds) (.c j) = some false := rfl
@[simp] theorem isTy_dic_int : isTy (.dic kvs) (.b "int") = some false := rfl
@[simp] theorem isTy_dic_bool : isTy (.dic kvs) (.b "bool") = some false := rfl
@[simp] theorem isTy_dic_str : isTy (.dic kvs) (.b "str") = some false := rfl
@[simp] theorem isTy_dic_tuple : isTy (.dic kvs) (.b "tuple") = some false := rfl
@[simp] theorem isTy_dic_list : isTy (.dic kvs) (.b "list") = some false := rfl
@[simp] theorem isTy_dic_dict : isTy (.dic kvs) (.b "dict") = some true := rfl
@[simp] theorem isTy_dic_c {j : Nat} : isTy (.dic kvs) (.c j) = some false := rfl
@[simp] theorem isTy_ins_int : isTy (.ins k fs) (.b "int") = some false := rfl
@[simp] theorem isTy_ins_bool : isTy (.ins k fs) (.b "bool") = some false := rfl
@[simp] theorem isTy_ins_str : isTy (.ins k fs) (.b "str") = some false := rfl
@[simp] theorem isTy_ins_tuple : isTy (.ins k fs) (.b "tuple") = some false := rfl
@[simp] theorem isTy_ins_list : isTy (.ins k fs) (.b "list") = some false := rfl
@[simp] theorem isTy_ins_dict : isTy (.ins k fs) (.b "dict") = some false := rfl
@[simp] theorem isTy_ins_c {j : Nat} : isTy (.ins k fs) (.c j) = some (k == j) := rfl
@[simp] theorem isTys_nil : isTys x [] = some false := rfl
@[simp] theorem isTys_cons {t : Ty} {ts : List Ty} : isTys x (t :: ts) = match isTy x t with
    | some true => some true
    | some false => isTys x ts
    | none => none := rfl
@[simp] theorem b1_len_lst : b1D .len (.lst ds) = some (.int ds.length) := rfl
@[simp] theorem b1_len_scr : b1D .len (.scr ds) = some (.int ds.length) := rfl
@[simp] theorem b1_len_tup : b1D .len (.tup ds) = some (.int ds.length) := rfl
@[simp] theorem b1_abs : b1D .abs (.int i) = some (.int (if i < 0 then -i else i)) := rfl
@[simp] theorem b1_int_int : b1D .int (.int i) = some (.int i) := rfl
@[simp] theorem b1_int_bl : b1D .int (.bl b) = some (.int (b2i b)) := rfl
@[simp] theorem b1_bool_bl : b1D .bool (.bl b) = some (.bl b) := rfl
@[simp] theorem b1_bool_tup : b1D .bool (.tup ds) = some (.bl (!ds.isEmpty)) := rfl
@[simp] theorem b1_bool_lst : b1D .bool (.lst ds) = some (.bl (!ds.isEmpty)) := rfl
@[simp] theorem b1_list_lst : b1D .list (.lst ds) = some (.lst ds) := rfl
@[simp] theorem b1_list_scr : b1D .list (.scr ds) = some (.lst ds) := rfl
@[simp] theorem b1_list_tup : b1D .list (.tup ds) = some (.lst ds) := rfl
@[simp] theorem b1_tuple_lst : b1D .tuple (.lst ds) = some (.tup ds) := rfl
@[simp] theorem b1_tuple_tup : b1D .tuple (.tup ds) = some (.tup ds) := rfl
@[simp] theorem b1_len_str : b1D .len (.str z) = if z.length ≤ sizeL then some (.int z.length) else none := rfl
@[simp] theorem b1_all : b1D .all (.lst ds) = (toBls ds).map fun bs => .bl (bs.all fun b => b) := rfl
@[simp] theorem b1_any : b1D .any (.lst ds) = (toBls ds).map fun bs => .bl (bs.any fun b => b) := rfl
@[simp] theorem b1_sum : b1D .sum (.lst ds) = (toInts ds).map fun ns => .int ns.sum := rfl
@[simp] theorem b1_sorted : b1D .sorted (.lst ds) = (toInts ds).map fun ns => .lst ((sortI ns).map .int) := rfl
@[simp] theorem b2_max : b2D .max (.int i) (.int j) = some (.int (if j > i then j else i)) := rfl
@[simp] theorem b2_min : b2D .min (.int i) (.int j) = some (.int (if j < i then j else i)) := rfl
@[simp] theorem ix_lst : ixD (.lst ds) (.int i) = atD ds i := rfl
@[simp] theorem ix_tup : ixD (.tup ds) (.int i) = atD ds i := rfl
@[simp] theorem items_lst : itemsOf (.lst ds) = some ds := rfl
@[simp] theorem items_tup : itemsOf (.tup ds) = some ds := rfl
@[simp] theorem items_str : itemsOf (.str z) = some (z.cps.toList.map fun c => .str ⟨#[c]⟩) := rfl
@[simp] theorem part_sno : partD .sno d = some none := rfl
@[simp] theorem sl_lst {lo hi : Option Int} : slD (.lst ds) lo hi = some (.lst (cutD ds lo hi)) := rfl
@[simp] theorem sl_tup {lo hi : Option Int} : slD (.tup ds) lo hi = some (.tup (cutD ds lo hi)) := rfl
@[simp] theorem setT_nm {i : Nat} : setT (.nm i) d e = if i < e.length then some (e.set i (.val d)) else none := rfl
@[simp] theorem setT_nil : setT .nil (.tup []) e = some e := rfl
@[simp] theorem setT_cons {t ts : Tg} : setT (.cons t ts) (.tup (d :: ds)) e = (setT t d e).bind fun e1 => setT ts (.tup ds) e1 := rfl
@[simp] theorem setiD_dic {x : D} {q : Key} {y : D} (h : keyOf y = some q) (hl : kvs.length < sizeL) : setiD (.dic kvs) y x = some (.dic (setK q x kvs)) := by
  show (keyOf y).bind _ = _
  rw [h]
  exact if_pos hl
@[simp] theorem b1_repr : b1D .repr x = (reprD x).map .str := by cases x <;> rfl
@[simp] theorem setiD_lst : setiD (.lst ds) (.int i) x = (L2.ixN ds.length i).map fun j => .lst (ds.set j x) := rfl
@[simp] theorem b2i_t : b2i true = 1 := rfl
@[simp] theorem b2i_f : b2i false = 0 := rfl
@[simp] theorem flat_bl : flat (.bl b) = true := rfl
@[simp] theorem flat_int : flat (.int i) = true := rfl
@[simp] theorem flat_str : flat (.str z) = true := rfl
@[simp] theorem flat_non : flat .non = true := rfl
end
@[simp] theorem nox_ok {α : Type} {a : α} {e : En} {m : Mu} : (R.ok a e m).nox = .ok a e m := rfl
@[simp] theorem m1_join {z : Str} {ds : List D} : m1D .join (.str z) (.lst ds) = (toStrs ds).bind fun ys => if (ys.map (·.length)).sum + ys.length * z.length ≤ 16777216 then some (.str (Txt.join z ys)) else none := rfl
@[simp] theorem m1_count {b : Bool} {ds : List D} : m1D .count (.lst ds) (.bl b) = (toBls ds).map fun bs => .int (bs.count b : Nat) := rfl
@[simp] theorem m1Ok_str {z : Str} : m1Ok .join (.str z) = true := rfl
@[simp] theorem m1Ok_count {ds : List D} : m1Ok .count (.lst ds) = true := rfl
@[simp] theorem wipe_nil {e : En} : wipeE [] e = e := rfl
@[simp] theorem wipe_cons {i : Nat} {r : List Nat} {e : En} : wipeE (i :: r) e = (wipeE r e).set i .no := rfl
@[simp] theorem restore_nil {e e2 : En} : restore [] e e2 = e2 := rfl
@[simp] theorem restore_cons {i : Nat} {r : List Nat} {e e2 : En} : restore (i :: r) e e2 = restore r e (e2.set i (match e[i]? with
    | some (.val d) => .val d
    | _ => .no)) := rfl
theorem range1 {a b : Int} (h0 : -(2 ^ 61) < a) (h1 : a < 2 ^ 61) (h2 : -(2 ^ 61) < b) (h3 : b < 2 ^ 61) : rangeD a b 1 = some (rInts a (b - a).toNat 1) := by
  simp only [rangeD, h0, h1, h2, h3, decide_true, Bool.and_true, if_true]
theorem range2 {a b : Int} (h0 : -(2 ^ 61) < a) (h1 : a < 2 ^ 61) (h2 : -(2 ^ 61) < b) (h3 : b < 2 ^ 61) : rangeD a b 2 = some (rInts a ((b - a + 1) / 2).toNat 2) := by
  simp only [rangeD, h0, h1, h2, h3, decide_true, Bool.and_true, if_true]
  rfl
/-! turns with an invariant -/
theorem foldR_inv {f : D → List D → En → Mu → R (List D)} {N : Nat} (I : Nat → List D → En → Mu → Prop) : ∀ (ds : List D) (i : Nat), i + ds.length = N → (∀ i d acc e m, d ∈ ds → i < N → I i acc e m → ∃ acc' e' m', f d acc e m = .ok acc' e' m' ∧ I (i + 1) acc' e' m') → ∀ acc e m, I i acc e m → ∃ acc' e' m', foldR f ds acc e m = .ok acc' e' m' ∧ I N acc' e' m'
  | [], i, hn, _, acc, e, m, h => ⟨acc, e, m, rfl, by have : i = N := hn; rw [← this]; exact h⟩
  | d :: ds, i, hn, st, acc, e, m, h => by
    have hn' : i + (ds.length + 1) = N := hn
    obtain ⟨a1, e1, m1, q1, h1⟩ := st i d acc e m (List.mem_cons_self ..) (by omega) h
    obtain ⟨a2, e2, m2, q2, h2⟩ := foldR_inv I ds (i + 1) (by omega) (fun i d acc e m hd => st i d acc e m (List.mem_cons_of_mem _ hd)) a1 e1 m1 h1
    refine ⟨a2, e2, m2, ?_, h2⟩
    show (f d acc e m).bind _ = _
    rw [q1]
    exact q2
theorem forL_inv {f : D → En → Mu → RS} (I : En → Mu → Prop) : ∀ (ds : List D), (∀ d e m, d ∈ ds → I e m → ∃ e' m', f d e m = .nx e' m' ∧ I e' m') → ∀ e m, I e m → ∃ e' m', forL f ds e m = .nx e' m' ∧ I e' m'
  | [], _, e, m, h => ⟨e, m, rfl, h⟩
  | d :: ds, st, e, m, h => by
    obtain ⟨e1, m1, q1, h1⟩ := st d e m (List.mem_cons_self ..) h
    obtain ⟨e2, m2, q2, h2⟩ := forL_inv I ds (fun d e m hd => st d e m (List.mem_cons_of_mem _ hd)) e1 m1 h1
    refine ⟨e2, m2, ?_, h2⟩
    rw [forL_cons, q1]
    exact q2
theorem foldR_map {f : D → List D → En → Mu → R (List D)} {g : D → D} {e : En} {m : Mu} : ∀ (ds acc : List D), acc.length + ds.length ≤ sizeL → (∀ d acc, d ∈ ds → acc.length < sizeL → f d acc e m = .ok (acc ++ [g d]) e m) → foldR f ds acc e m = .ok (acc ++ ds.map g) e m
  | [], acc, _, _ => by simp [foldR]
  | d :: ds, acc, hl, h => by
    have hl' : acc.length + (ds.length + 1) ≤ sizeL := hl
    show (f d acc e m).bind _ = _
    rw [h d acc (List.mem_cons_self ..) (by omega)]
    show foldR f ds (acc ++ [g d]) e m = _
    rw [foldR_map ds (acc ++ [g d]) (by simp; omega) (fun d acc hd => h d acc (List.mem_cons_of_mem _ hd))]
    simp
theorem foldR_nil {f : D → List D → En → Mu → R (List D)} {acc : List D} {e : En} {m : Mu} : foldR f [] acc e m = .ok acc e m := rfl
theorem foldR_cons {f : D → List D → En → Mu → R (List D)} {d : D} {ds acc : List D} {e : En} {m : Mu} : foldR f (d :: ds) acc e m = (f d acc e m).bind fun acc1 e1 m1 => foldR f ds acc1 e1 m1 := rfl
end G
end
section
set_option Elab.async false
set_option linter.all false
/-! sets as ascending pairs of cuts, over any total order: met, outside, what they hold, one only form -/
namespace OS
structure Ord (C : Type) where
  lt : C → C → Bool
  irr : ∀ a, lt a a = false
  tr : ∀ {a b c}, lt a b = true → lt b c = true → lt a c = true
  tot : ∀ {a b}, lt a b = false → lt b a = false → a = b
variable {C : Type} (O : Ord C)
abbrev Ord.le (a b : C) : Prop := O.lt b a = false
section
variable {O} {a b c : C}
theorem le_refl : O.le a a := O.irr a
theorem asy (h : O.lt a b = true) : O.le a b := by
  cases q : O.lt b a with
  | false => exact q
  | true => have := O.tr h q; rw [O.irr] at this; cases this
theorem lt_le (h : O.lt a b = true) (g : O.le b c) : O.lt a c = true := by
  cases q : O.lt a c with
  | true => rfl
  | false =>
    -- c ≤ a < b ≤ c
    by_cases e : a = c
    · subst e
      have g : O.lt a b = false := g
      rw [h] at g; cases g
    · cases z : O.lt c a with
      | false => exact absurd (O.tot q z) e
      | true =>
        have := O.tr z h
        have g : O.lt c b = false := g
        rw [this] at g; cases g
theorem le_lt (h : O.le a b) (g : O.lt b c = true) : O.lt a c = true := by
  cases q : O.lt a c with
  | true => rfl
  | false =>
    cases z : O.lt c a with
    | false => have := O.tot q z; subst this; have h : O.lt b a = false := h; rw [g] at h; cases h
    | true => have := O.tr g z; have h : O.lt b a = false := h; rw [this] at h; cases h
theorem le_tr (h : O.le a b) (g : O.le b c) : O.le a c := by
  cases q : O.lt c a with
  | false => exact q
  | true => have := lt_le q h; have g : O.lt c b = false := g; rw [this] at g; cases g
end
abbrev Pr (C : Type) := List (C × C)
def has1 (x : C) (p : C × C) : Bool := !O.lt x p.1 && O.lt x p.2
def mem (p : Pr C) (x : C) : Bool := p.any (has1 O x)
def mx (a b : C) : C := if O.lt b a then a else b
def mn (a b : C) : C := if O.lt a b then a else b
def met1 (p : C × C) (q : Pr C) : Pr C := q.filterMap fun r => if O.lt (mx O p.1 r.1) (mn O p.2 r.2) then some (mx O p.1 r.1, mn O p.2 r.2) else none
def met (p q : Pr C) : Pr C := p.flatMap fun r => met1 O r q
def one (a b : C) : Pr C := if O.lt a b then [(a, b)] else []
/-- what lies outside, from cur on -/
def out (last : C) : C → Pr C → Pr C
  | cur, [] => one O cur last
  | cur, (l, h) :: p => one O cur l ++ out last h p
/-- strictly behind b, ascending, nowhere touching, up to last -/
def CanS (last : C) : C → Pr C → Prop
  | _, [] => True
  | b, (l, h) :: p => O.lt b l = true ∧ O.lt l h = true ∧ O.le h last ∧ CanS last h p
/-- from first on -/
def Can (first last : C) : Pr C → Prop
  | [] => True
  | (l, h) :: p => O.le first l ∧ O.lt l h = true ∧ O.le h last ∧ CanS O last h p
variable {O}
theorem mem_nil {x : C} : mem O [] x = false := rfl
theorem mem_cons {r : C × C} {p : Pr C} {x : C} : mem O (r :: p) x = (has1 O x r || mem O p x) := rfl
theorem mem_app {p q : Pr C} {x : C} : mem O (p ++ q) x = (mem O p x || mem O q x) := List.any_append
theorem mem_one {a b x : C} : mem O (one O a b) x = has1 O x (a, b) := by
  unfold one
  split
  · simp [mem]
  · rename_i h
    cases q : has1 O x (a, b) with
    | false => rfl
    | true =>
      simp only [has1, Bool.and_eq_true, Bool.not_eq_true'] at q
      exact absurd (le_lt q.1 q.2) h
theorem mx_lt {a b x : C} : O.lt x (mx O a b) = (O.lt x a || O.lt x b) := by
  unfold mx
  split
  · rename_i h
    cases q : O.lt x b with
    | false => simp
    | true => simp [O.tr q h]
  · rename_i h
    have h : O.lt b a = false := by simpa using h
    cases q : O.lt x a with
    | false => simp
    | true => simp [lt_le q h]
theorem mn_lt {a b x : C} : O.lt x (mn O a b) = (O.lt x a && O.lt x b) := by
  unfold mn
  split
  · rename_i h
    cases q : O.lt x a with
    | false => simp
    | true => simp [O.tr q h]
  · rename_i h
    have h : O.lt a b = false := by simpa using h
    cases q : O.lt x b with
    | false => simp
    | true => simp [lt_le q h]
theorem mem_met1 {r : C × C} {q : Pr C} {x : C} : mem O (met1 O r q) x = (has1 O x r && mem O q x) := by
  induction q with
  | nil => simp [met1, mem]
  | cons s q ih =>
    have e : has1 O x (mx O r.1 s.1, mn O r.2 s.2) = (has1 O x r && has1 O x s) := by
      simp only [has1, mx_lt, mn_lt]
      cases O.lt x r.1 <;> cases O.lt x s.1 <;> cases O.lt x r.2 <;> cases O.lt x s.2 <;> rfl
    have step : mem O (met1 O r (s :: q)) x = (has1 O x (mx O r.1 s.1, mn O r.2 s.2) || mem O (met1 O r q) x) := by
      unfold met1
      rw [List.filterMap_cons]
      split
      · rename_i h
        split at h
        · cases h
        · rename_i h2
          rw [← mem_one]
          simp [one, h2, mem]
      · rename_i h
        split at h
        · cases h
          rfl
        · cases h
    rw [step, e, ih, mem_cons]
    cases has1 O x r <;> cases has1 O x s <;> cases mem O q x <;> rfl
theorem mem_met {p q : Pr C} {x : C} : mem O (met O p q) x = (mem O p x && mem O q x) := by
  induction p with
  | nil => rfl
  | cons r p ih =>
    show mem O (met1 O r q ++ met O p q) x = _
    rw [mem_app, mem_met1, ih, mem_cons]
    cases has1 O x r <;> cases mem O p x <;> cases mem O q x <;> rfl
/-- nothing up to b -/
theorem canS_not {last : C} : ∀ {p : Pr C} {b x : C}, CanS O last b p → O.le x b → mem O p x = false
  | [], _, _, _, _ => rfl
  | (l, h) :: p, b, x, ⟨h1, h2, h3, h4⟩, hx => by
    rw [mem_cons, canS_not h4 (le_tr hx (le_tr (asy h1) (asy h2)))]
    simp [has1, le_lt hx h1]
theorem canS_le {last : C} : ∀ {p : Pr C} {b c : C}, CanS O last b p → O.le c b → CanS O last c p
  | [], _, _, _, _ => trivial
  | (l, h) :: p, b, c, ⟨h1, h2, h3, h4⟩, hc => ⟨le_lt hc h1, h2, h3, h4⟩
theorem mem_outS {last : C} : ∀ {p : Pr C} {cur x : C}, CanS O last cur p → O.le cur x → O.lt x last = true → mem O (out O last cur p) x = !mem O p x
  | [], cur, x, _, h0, h1 => by
    show mem O (one O cur last) x = _
    rw [mem_one]
    have h0 : O.lt x cur = false := h0
    simp [has1, h0, h1, mem]
  | (l, h) :: p, cur, x, ⟨g1, g2, g3, g4⟩, h0, h1 => by
    show mem O (one O cur l ++ out O last h p) x = _
    rw [mem_app, mem_one, mem_cons]
    have h0 : O.lt x cur = false := h0
    cases q : O.lt x l with
    | true =>
      have e1 : mem O p x = false := canS_not g4 (le_tr (asy q) (asy g2))
      simp [has1, h0, q, e1]
    | false =>
      cases q2 : O.lt x h with
      | true =>
        have e1 : mem O (out O last h p) x = false := by
          have : ∀ {p : Pr C} {b : C}, CanS O last b p → O.lt x b = true → mem O (out O last b p) x = false := by
            intro p
            induction p with
            | nil =>
              intro b _ hb
              show mem O (one O b last) x = _
              rw [mem_one]
              simp [has1, hb]
            | cons r p ih =>
              intro b hc hb
              obtain ⟨l2, h2⟩ := r
              obtain ⟨c1, c2, c3, c4⟩ := hc
              show mem O (one O b l2 ++ out O last h2 p) x = _
              rw [mem_app, mem_one, ih c4 (O.tr (O.tr hb c1) c2)]
              simp [has1, hb]
          exact this g4 q2
        simp [has1, h0, q, q2, e1]
      | false =>
        rw [mem_outS g4 q2 h1]
        simp [has1, h0, q, q2]
theorem mem_out {first last : C} {p : Pr C} {x : C} (hc : Can O first last p) (h0 : O.le first x) (h1 : O.lt x last = true) : mem O (out O last first p) x = !mem O p x := by
  cases p with
  | nil => exact mem_outS (p := []) trivial h0 h1
  | cons r p =>
    obtain ⟨l, h⟩ := r
    obtain ⟨g1, g2, g3, g4⟩ := hc
    by_cases e : O.lt first l = true
    · exact mem_outS (p := (l, h) :: p) ⟨e, g2, g3, g4⟩ h0 h1
    · have e : O.lt first l = false := by simpa using e
      have : first = l := O.tot e g1
      subst this
      show mem O (one O first first ++ out O last h p) x = _
      have h0 : O.lt x first = false := h0
      rw [mem_app, mem_one, mem_cons]
      cases q2 : O.lt x h with
      | false => rw [mem_outS g4 q2 h1]; simp [has1, h0, q2]
      | true =>
        have e1 : mem O p x = false := canS_not g4 (asy q2)
        have e2 : mem O (out O last h p) x = false := by
          have : ∀ {p : Pr C} {b : C}, CanS O last b p → O.lt x b = true → mem O (out O last b p) x = false := by
            intro p
            induction p with
            | nil =>
              intro b _ hb
              show mem O (one O b last) x = _
              rw [mem_one]
              simp [has1, hb]
            | cons r p ih =>
              intro b hc hb
              obtain ⟨l2, h2⟩ := r
              obtain ⟨c1, c2, c3, c4⟩ := hc
              show mem O (one O b l2 ++ out O last h2 p) x = _
              rw [mem_app, mem_one, ih c4 (O.tr (O.tr hb c1) c2)]
              simp [has1, hb]
          exact this g4 q2
        simp [has1, h0, q2, e1, e2]
/-- the form -/
theorem one_canS {last a b c : C} {p : Pr C} (h : O.lt c a = true) (hb : O.le b last) (hp : CanS O last b p) (hp2 : CanS O last c p) : CanS O last c (one O a b ++ p) := by
  unfold one
  split
  · rename_i q
    exact ⟨h, q, hb, hp⟩
  · exact hp2
theorem canS_outS {last : C} : ∀ {p : Pr C} {cur b : C}, CanS O last cur p → O.lt b cur = true → CanS O last b (out O last cur p)
  | [], cur, b, _, hb => by
    have := one_canS (last := last) (b := last) (p := []) hb le_refl trivial trivial
    show CanS O last b (one O cur last)
    simpa using this
  | (l, h) :: p, cur, b, ⟨g1, g2, g3, g4⟩, hb => one_canS hb (le_tr (asy g2) g3) (canS_outS g4 g2) (canS_outS g4 (O.tr (O.tr hb g1) g2))
theorem can_of_canS {first last b : C} {p : Pr C} (h : CanS O last b p) (hb : O.le first b) : Can O first last p := by
  cases p with
  | nil => trivial
  | cons r p =>
    obtain ⟨l, k⟩ := r
    obtain ⟨g1, g2, g3, g4⟩ := h
    exact ⟨le_tr hb (asy g1), g2, g3, g4⟩
theorem can_out {first last : C} {p : Pr C} (hc : Can O first last p) : Can O first last (out O last first p) := by
  cases p with
  | nil =>
    show Can O first last (one O first last)
    unfold one
    split
    · rename_i q; exact ⟨le_refl, q, le_refl, trivial⟩
    · trivial
  | cons r p =>
    obtain ⟨l, h⟩ := r
    obtain ⟨g1, g2, g3, g4⟩ := hc
    show Can O first last (one O first l ++ out O last h p)
    have t : CanS O last l (out O last h p) := canS_outS g4 g2
    unfold one
    split
    · rename_i q
      exact ⟨le_refl, q, le_tr (asy g2) g3, t⟩
    · exact can_of_canS t g1
theorem canS_app {last : C} : ∀ {p q : Pr C} {b c : C}, CanS O last b p → (∀ r ∈ p, O.le r.2 c) → O.le b c → CanS O last c q → CanS O last b (p ++ q)
  | [], q, b, c, _, _, hb, hq => canS_le hq hb
  | (l, h) :: p, q, b, c, ⟨g1, g2, g3, g4⟩, hr, hb, hq => ⟨g1, g2, g3, canS_app g4 (fun r hm => hr r (List.mem_cons_of_mem _ hm)) (hr (l, h) (List.mem_cons_self ..)) hq⟩
theorem mn_le1 {a b : C} : O.le (mn O a b) a := by
  show O.lt a (mn O a b) = false
  rw [mn_lt, O.irr]; rfl
theorem mn_le2 {a b : C} : O.le (mn O a b) b := by
  show O.lt b (mn O a b) = false
  rw [mn_lt, O.irr, Bool.and_false]
theorem le_mx1 {a b : C} : O.le a (mx O a b) := by
  unfold mx
  split
  · exact le_refl
  · rename_i h; simpa using h
theorem le_mx2 {a b : C} : O.le b (mx O a b) := by
  unfold mx
  split
  · rename_i h; exact asy h
  · exact le_refl
theorem canS_met1 {last : C} {r : C × C} (hl : O.le r.2 last) : ∀ {q : Pr C} {b : C}, CanS O last b q → CanS O last b (met1 O r q) ∧ ∀ t ∈ met1 O r q, O.le t.2 r.2
  | [], b, _ => ⟨trivial, fun _ h => (nomatch h)⟩
  | (l, h) :: q, b, ⟨g1, g2, g3, g4⟩ => by
    obtain ⟨i1, i2⟩ := canS_met1 hl g4
    have e : met1 O r ((l, h) :: q) = one O (mx O r.1 l) (mn O r.2 h) ++ met1 O r q := by
      unfold met1 one
      rw [List.filterMap_cons]
      by_cases z : O.lt (mx O r.1 l) (mn O r.2 h) = true <;> simp [z]
    rw [e]
    refine ⟨one_canS (lt_le g1 le_mx2) (le_tr mn_le1 hl) (canS_le i1 mn_le2) (canS_le i1 (le_tr (asy g1) (asy g2))), fun t ht => ?_⟩
    rcases List.mem_append.mp ht with ht | ht
    · unfold one at ht
      split at ht
      · simp at ht; subst ht; exact mn_le1
      · cases ht
    · exact i2 t ht
/-- starts of a met part lie behind the part's start -/
theorem canS_met1b {last c : C} {r : C × C} (hc : O.lt c r.1 = true) (hl : O.le r.2 last) : ∀ {q : Pr C} {first : C}, Can O first last q → CanS O last c (met1 O r q)
  | [], _, _ => trivial
  | (l, h) :: q, first, ⟨g1, g2, g3, g4⟩ => by
    obtain ⟨i1, i2⟩ := canS_met1 (r := r) hl g4
    have e : met1 O r ((l, h) :: q) = one O (mx O r.1 l) (mn O r.2 h) ++ met1 O r q := by
      unfold met1 one
      rw [List.filterMap_cons]
      by_cases z : O.lt (mx O r.1 l) (mn O r.2 h) = true <;> simp [z]
    have tail : CanS O last c (met1 O r q) := canS_met1b hc hl (can_of_canS (first := h) g4 le_refl)
    rw [e]
    exact one_canS (lt_le hc le_mx1) (le_tr mn_le1 hl) (canS_le i1 mn_le2) tail
theorem canS_met {last first : C} {q : Pr C} (hq : Can O first last q) : ∀ {p : Pr C} {b : C}, CanS O last b p → CanS O last b (met O p q)
  | [], b, _ => trivial
  | (l, h) :: p, b, ⟨g1, g2, g3, g4⟩ => by
    have m1 : CanS O last b (met1 O (l, h) q) := canS_met1b (r := (l, h)) g1 g3 hq
    have m2 : ∀ t ∈ met1 O (l, h) q, O.le t.2 h := fun t ht => by
      unfold met1 at ht
      obtain ⟨s, _, hs⟩ := List.mem_filterMap.mp ht
      split at hs
      · cases hs; exact mn_le1
      · cases hs
    exact canS_app (c := h) m1 m2 (le_tr (asy g1) (asy g2)) (canS_met hq g4)
theorem can_met {first last : C} {p q : Pr C} (hp : Can O first last p) (hq : Can O first last q) : Can O first last (met O p q) := by
  cases p with
  | nil => trivial
  | cons r p =>
    obtain ⟨l, h⟩ := r
    obtain ⟨g1, g2, g3, g4⟩ := hp
    show Can O first last (met1 O (l, h) q ++ met O p q)
    have m2 : ∀ t ∈ met1 O (l, h) q, O.le t.2 h := fun t ht => by
      unfold met1 at ht
      obtain ⟨s, _, hs⟩ := List.mem_filterMap.mp ht
      split at hs
      · cases hs; exact mn_le1
      · cases hs
    have tl := canS_met hq g4
    cases q with
    | nil => 
      have : met1 O (l, h) [] = [] := rfl
      rw [this]
      exact can_of_canS tl (le_tr g1 (asy g2))
    | cons s q =>
      obtain ⟨l2, h2⟩ := s
      obtain ⟨k1, k2, k3, k4⟩ := hq
      have e : met1 O (l, h) ((l2, h2) :: q) = one O (mx O l l2) (mn O h h2) ++ met1 O (l, h) q := by
        unfold met1 one
        rw [List.filterMap_cons]
        by_cases z : O.lt (mx O l l2) (mn O h h2) = true <;> simp [z]
      rw [e] at m2 ⊢
      have i1 := (canS_met1 (r := (l, h)) g3 k4).1
      unfold one at m2 ⊢
      split
      · rename_i z
        rw [if_pos z] at m2
        refine ⟨le_tr g1 le_mx1, z, le_tr mn_le1 g3, ?_⟩
        exact canS_app (c := h) (canS_le i1 mn_le2) (fun t ht => m2 t (List.mem_append.mpr (.inr ht))) mn_le1 tl
      · rename_i z
        rw [if_neg z] at m2
        have : CanS O last h2 (met1 O (l, h) q ++ met O p ((l2, h2) :: q)) ∨ CanS O last h (met O p ((l2, h2) :: q)) := .inr tl
        have i0 : CanS O last h2 (met1 O (l, h) q) := i1
        by_cases w : O.lt h h2 = true
        · -- nothing of q's rest begins ahead of h
          have : met1 O (l, h) q = [] := by
            cases hz : met1 O (l, h) q with
            | nil => rfl
            | cons t ts =>
              rw [hz] at i0
              have := i0.1
              have b1 : O.lt h2 t.1 = true := i0.1
              have b2 : O.lt t.1 t.2 = true := i0.2.1
              have b3 : O.le t.2 h := m2 t (List.mem_append.mpr (.inr (by rw [hz]; exact List.mem_cons_self ..)))
              have c1 := lt_le (O.tr (O.tr w b1) b2) b3
              rw [O.irr] at c1
              cases c1
          simp only [this, List.nil_append]
          exact can_of_canS tl (le_tr g1 (asy g2))
        · have w : O.lt h h2 = false := by simpa using w
          exact can_of_canS (b := h2) (canS_app (c := h) i0 (fun t ht => m2 t (List.mem_append.mpr (.inr ht))) w tl) (le_tr k1 (asy k2))
/-- one only form -/
theorem uniqS {last : C} : ∀ {p q : Pr C} {b : C}, CanS O last b p → CanS O last b q → (∀ x, O.lt b x = true → O.lt x last = true → mem O p x = mem O q x) → p = q
  | [], [], _, _, _, _ => rfl
  | [], (l, h) :: q, b, _, ⟨g1, g2, g3, g4⟩, hx => by
    have := hx l g1 (lt_le g2 g3)
    rw [mem_nil, mem_cons] at this
    simp [has1, O.irr, g2] at this
  | (l, h) :: p, [], b, ⟨g1, g2, g3, g4⟩, _, hx => by
    have := hx l g1 (lt_le g2 g3)
    rw [mem_nil, mem_cons] at this
    simp [has1, O.irr, g2] at this
  | (l, h) :: p, (l2, h2) :: q, b, ⟨g1, g2, g3, g4⟩, ⟨k1, k2, k3, k4⟩, hx => by
    have el : l = l2 := by
      refine O.tot ?_ ?_
      · cases z : O.lt l l2 with
        | false => rfl
        | true =>
          have := hx l g1 (lt_le g2 g3)
          rw [mem_cons, mem_cons, canS_not k4 (le_tr (asy z) (asy k2))] at this
          simp [has1, O.irr, g2, z] at this
      · cases z : O.lt l2 l with
        | false => rfl
        | true =>
          have := hx l2 k1 (lt_le k2 k3)
          rw [mem_cons, mem_cons, canS_not g4 (le_tr (asy z) (asy g2))] at this
          simp [has1, O.irr, k2, z] at this
    subst el
    have eh : h = h2 := by
      refine O.tot ?_ ?_
      · cases z : O.lt h h2 with
        | false => rfl
        | true =>
          have := hx h (O.tr g1 g2) (lt_le z k3)
          rw [mem_cons, mem_cons, canS_not g4 le_refl] at this
          have a1 : O.lt h l = false := asy g2
          simp [has1, O.irr, a1, z] at this
      · cases z : O.lt h2 h with
        | false => rfl
        | true =>
          have := hx h2 (O.tr k1 k2) (lt_le z g3)
          rw [mem_cons, mem_cons, canS_not k4 le_refl] at this
          have a1 : O.lt h2 l = false := asy k2
          simp [has1, O.irr, a1, z] at this
    subst eh
    have := uniqS g4 k4 fun x hb hl => by
      have := hx x (O.tr (O.tr g1 g2) hb) hl
      rw [mem_cons, mem_cons] at this
      have a1 : O.lt x h = false := asy hb
      simpa [has1, a1] using this
    rw [this]
theorem uniq {first last : C} {p q : Pr C} (hp : Can O first last p) (hq : Can O first last q) (hx : ∀ x, O.le first x → O.lt x last = true → mem O p x = mem O q x) : p = q := by
  cases p with
  | nil =>
    cases q with
    | nil => rfl
    | cons r q =>
      obtain ⟨l, h⟩ := r
      obtain ⟨g1, g2, g3, g4⟩ := hq
      have := hx l g1 (lt_le g2 g3)
      rw [mem_nil, mem_cons] at this
      simp [has1, O.irr, g2] at this
  | cons r p =>
    obtain ⟨l, h⟩ := r
    obtain ⟨g1, g2, g3, g4⟩ := hp
    cases q with
    | nil =>
      have := hx l g1 (lt_le g2 g3)
      rw [mem_nil, mem_cons] at this
      simp [has1, O.irr, g2] at this
    | cons s q =>
      obtain ⟨l2, h2⟩ := s
      obtain ⟨k1, k2, k3, k4⟩ := hq
      have el : l = l2 := by
        refine O.tot ?_ ?_
        · cases z : O.lt l l2 with
          | false => rfl
          | true =>
            have := hx l g1 (lt_le g2 g3)
            rw [mem_cons, mem_cons, canS_not k4 (le_tr (asy z) (asy k2))] at this
            simp [has1, O.irr, g2, z] at this
        · cases z : O.lt l2 l with
          | false => rfl
          | true =>
            have := hx l2 k1 (lt_le k2 k3)
            rw [mem_cons, mem_cons, canS_not g4 (le_tr (asy z) (asy g2))] at this
            simp [has1, O.irr, k2, z] at this
      subst el
      have eh : h = h2 := by
        refine O.tot ?_ ?_
        · cases z : O.lt h h2 with
          | false => rfl
          | true =>
            have := hx h (le_tr g1 (asy g2)) (lt_le z k3)
            rw [mem_cons, mem_cons, canS_not g4 le_refl] at this
            have a1 : O.lt h l = false := asy g2
            simp [has1, O.irr, a1, z] at this
        · cases z : O.lt h2 h with
          | false => rfl
          | true =>
            have := hx h2 (le_tr k1 (asy k2)) (lt_le z g3)
            rw [mem_cons, mem_cons, canS_not k4 le_refl] at this
            have a1 : O.lt h2 l = false := asy k2
            simp [has1, O.irr, a1, z] at this
      subst eh
      have := uniqS g4 k4 fun x hb hl => by
        have := hx x (le_tr g1 (le_tr (asy g2) (asy hb))) hl
        rw [mem_cons, mem_cons] at this
        have a1 : O.lt x h = false := asy hb
        simpa [has1, a1] using this
      rw [this]
/-! how long: by the cuts there are -/
def cuts (p : Pr C) : List C := p.flatMap fun r => [r.1, r.2]
theorem asc_len [DecidableEq C] : ∀ {l S : List C}, l.Pairwise (fun a b => O.lt a b = true) → (∀ a ∈ l, a ∈ S) → l.length ≤ S.length
  | [], _, _, _ => Nat.zero_le _
  | a :: l, S, hp, hs => by
    obtain ⟨h1, h2⟩ := List.pairwise_cons.mp hp
    have ha : a ∈ S := hs a (List.mem_cons_self ..)
    have ih := asc_len (S := S.erase a) h2 fun b hb => by
      have hne : b ≠ a := fun e => by
        have := h1 b hb
        rw [e, O.irr] at this
        cases this
      exact (List.mem_erase_of_ne hne).mpr (hs b (List.mem_cons_of_mem _ hb))
    rw [List.length_erase_of_mem ha] at ih
    have : 0 < S.length := List.length_pos_of_mem ha
    rw [List.length_cons]
    omega
theorem asc_canS {last : C} : ∀ {p : Pr C} {b : C}, CanS O last b p → (∀ a ∈ cuts p, O.lt b a = true) ∧ (cuts p).Pairwise fun a b => O.lt a b = true
  | [], _, _ => ⟨fun _ h => (nomatch h), List.Pairwise.nil⟩
  | (l, h) :: p, b, ⟨g1, g2, g3, g4⟩ => by
    obtain ⟨i1, i2⟩ := asc_canS g4
    refine ⟨fun a ha => ?_, ?_⟩
    · rcases List.mem_cons.mp ha with rfl | ha
      · exact g1
      · rcases List.mem_cons.mp ha with rfl | ha
        · exact O.tr g1 g2
        · exact O.tr (O.tr g1 g2) (i1 a ha)
    · refine List.pairwise_cons.mpr ⟨fun a ha => ?_, List.pairwise_cons.mpr ⟨i1, i2⟩⟩
      rcases List.mem_cons.mp ha with rfl | ha
      · exact g2
      · exact O.tr g2 (i1 a ha)
theorem cuts_len : ∀ p : Pr C, (cuts p).length = 2 * p.length
  | [] => rfl
  | r :: p => by
    show (r.1 :: r.2 :: cuts p).length = _
    simp [cuts_len p]
    omega
theorem can_len [DecidableEq C] {first last : C} {p : Pr C} {S : List C} (hc : Can O first last p) (hs : ∀ a ∈ cuts p, a ∈ S) : 2 * p.length ≤ S.length := by
  rw [← cuts_len]
  cases p with
  | nil => exact Nat.zero_le _
  | cons r p =>
    obtain ⟨l, h⟩ := r
    obtain ⟨g1, g2, g3, g4⟩ := hc
    obtain ⟨i1, i2⟩ := asc_canS g4
    refine asc_len (O := O) (l := l :: h :: cuts p) (List.pairwise_cons.mpr ⟨fun a ha => ?_, List.pairwise_cons.mpr ⟨i1, i2⟩⟩) hs
    rcases List.mem_cons.mp ha with rfl | ha
    · exact g2
    · exact O.tr g2 (i1 a ha)
theorem mx_or {a b : C} : mx O a b = a ∨ mx O a b = b := by unfold mx; split <;> simp
theorem mn_or {a b : C} : mn O a b = a ∨ mn O a b = b := by unfold mn; split <;> simp
theorem cuts_app {p q : Pr C} {a : C} : a ∈ cuts (p ++ q) ↔ a ∈ cuts p ∨ a ∈ cuts q := by
  unfold cuts
  rw [List.flatMap_append, List.mem_append]
theorem cuts_one {a b c : C} (h : c ∈ cuts (one O a b)) : c = a ∨ c = b := by
  unfold one at h
  split at h
  · simpa [cuts] using h
  · cases h
theorem cuts_out {last : C} : ∀ {p : Pr C} {cur a : C}, a ∈ cuts (out O last cur p) → a = cur ∨ a = last ∨ a ∈ cuts p
  | [], cur, a, h => (cuts_one h).imp id .inl
  | (l, h) :: p, cur, a, hh => by
    rcases cuts_app.mp (show a ∈ cuts (one O cur l ++ out O last h p) from hh) with z | z
    · rcases cuts_one z with z | z
      · exact .inl z
      · exact .inr (.inr (by rw [z]; exact List.mem_cons_self ..))
    · rcases cuts_out z with z | z | z
      · exact .inr (.inr (by rw [z]; exact List.mem_cons_of_mem _ (List.mem_cons_self ..)))
      · exact .inr (.inl z)
      · exact .inr (.inr (List.mem_cons_of_mem _ (List.mem_cons_of_mem _ z)))
theorem cuts_met1 {r : C × C} {a : C} : ∀ {q : Pr C}, a ∈ cuts (met1 O r q) → a = r.1 ∨ a = r.2 ∨ a ∈ cuts q
  | [], h => (nomatch h)
  | s :: q, h => by
    have e : met1 O r (s :: q) = one O (mx O r.1 s.1) (mn O r.2 s.2) ++ met1 O r q := by
      unfold met1 one
      rw [List.filterMap_cons]
      by_cases z : O.lt (mx O r.1 s.1) (mn O r.2 s.2) = true <;> simp [z]
    rw [e] at h
    rcases cuts_app.mp h with z | z
    · rcases cuts_one z with z | z
      · rcases mx_or (O := O) (a := r.1) (b := s.1) with y | y
        · exact .inl (z.trans y)
        · exact .inr (.inr (by rw [z, y]; exact List.mem_cons_self ..))
      · rcases mn_or (O := O) (a := r.2) (b := s.2) with y | y
        · exact .inr (.inl (z.trans y))
        · exact .inr (.inr (by rw [z, y]; exact List.mem_cons_of_mem _ (List.mem_cons_self ..)))
    · rcases cuts_met1 z with z | z | z
      · exact .inl z
      · exact .inr (.inl z)
      · exact .inr (.inr (List.mem_cons_of_mem _ (List.mem_cons_of_mem _ z)))
theorem cuts_met {q : Pr C} {a : C} : ∀ {p : Pr C}, a ∈ cuts (met O p q) → a ∈ cuts p ∨ a ∈ cuts q
  | [], h => (nomatch h)
  | r :: p, h => by
    rcases cuts_app.mp (show a ∈ cuts (met1 O r q ++ met O p q) from h) with z | z
    · rcases cuts_met1 z with z | z | z
      · exact .inl (by rw [z]; exact List.mem_cons_self ..)
      · exact .inl (by rw [z]; exact List.mem_cons_of_mem _ (List.mem_cons_self ..))
      · exact .inr z
    · exact (cuts_met z).imp (fun z => List.mem_cons_of_mem _ (List.mem_cons_of_mem _ z)) id
end OS
end
section
set_option Elab.async false
set_option linter.all false
set_option maxRecDepth 100000
set_option maxHeartbeats 1000000
/-! G: pairs of cuts as data; met_pairs, outside_pairs -/
namespace G
open OS (Pr mem mx mn met met1 one out Can CanS)
open PySem
inductive Cut (α : Type) where
  | bot
  | at_ (a : α)
  | top
  deriving DecidableEq
/-- what stands in cuts: ints, texts -/
structure Cod (α : Type) where
  f : α → D
  lt : α → α → Bool
  irr : ∀ a, lt a a = false
  tr : ∀ {a b c}, lt a b = true → lt b c = true → lt a c = true
  tot : ∀ {a b}, lt a b = false → lt b a = false → a = b
  fl : ∀ a, flat (f a) = true
  eq : ∀ a b, eqD (f a) (f b) = some (!(lt a b || lt b a))
  l1 : ∀ a b, lt1 (f a) (f b) = some (lt a b)
  pl : ∀ a n, plain (f a) n = true
variable {α : Type} (K : Cod α)
def cutLt : Cut α → Cut α → Bool
  | .bot, .bot => false
  | .bot, _ => true
  | .at_ a, .at_ b => K.lt a b
  | .at_ _, .top => true
  | _, _ => false
def Cod.O : OS.Ord (Cut α) where
  lt := cutLt K
  irr := fun a => by cases a <;> first | rfl | exact K.irr _
  tr := fun {a b c} h g => by
    cases a <;> cases b <;> cases c <;> simp_all [cutLt]
    exact K.tr h g
  tot := fun {a b} h g => by
    cases a <;> cases b <;> simp_all [cutLt]
    exact K.tot h g
def enc : Cut α → D
  | .bot => .tup [.int (-1)]
  | .at_ a => .tup [.int 0, K.f a]
  | .top => .tup [.int 1]
def encP (p : Cut α × Cut α) : D := .tup [enc K p.1, enc K p.2]
def encL (p : Pr (Cut α)) : List D := p.map (encP K)
section
variable {K} {P : Par} {a b : Cut α} {u v : D} {e : En} {m : Mu} {op : CmpOp}
@[simp] theorem enc_lt : ltD (enc K a) (enc K b) = some (K.O.lt a b) := by
  have hf : ∀ x y : D, flat x = true → flat y = true → (flat x && flat y) = true := fun x y h1 h2 => by rw [h1, h2]; rfl
  cases a <;> cases b
  case at_.at_ x y =>
    show ltL [.int 0, K.f x] [.int 0, K.f y] = some (K.lt x y)
    show (if flat (.int 0) && flat (.int 0) then match eqD (.int 0) (.int 0) with
      | some true => ltL [K.f x] [K.f y]
      | some false => lt1 (.int 0) (.int 0)
      | none => none
      else none) = _
    show (if flat (K.f x) && flat (K.f y) then match eqD (K.f x) (K.f y) with
      | some true => ltL [] []
      | some false => lt1 (K.f x) (K.f y)
      | none => none
      else none) = _
    rw [if_pos (hf _ _ (K.fl x) (K.fl y)), K.eq, K.l1]
    cases h1 : K.lt x y with
    | true => rfl
    | false =>
      cases h2 : K.lt y x with
      | true => rfl
      | false => rfl
  all_goals rfl
@[simp] theorem deref_enc : deref m (enc K a) = enc K a := by cases a <;> rfl
@[simp] theorem deref_encP {p : Cut α × Cut α} : deref m (encP K p) = encP K p := rfl
theorem isIns_enc : isIns (enc K a) = false := by cases a <;> rfl
@[simp] theorem cmp_enc : P.cmp op u v (some (enc K a)) (some (enc K b)) e m = .opt ((cmpD op (enc K a) (enc K b)).map .bl) e m := cmp_D isIns_enc isIns_enc
theorem lt_enc : cmpD .Lt (enc K a) (enc K b) = some (K.O.lt a b) := enc_lt
theorem gt_enc : cmpD .Gt (enc K a) (enc K b) = some (K.O.lt b a) := enc_lt
/-! ### met_pairs -/
def metIn : S := (.seq (.par 7 8 (.ite (.cmp .Gt (.loc 4) (.loc 6)) (.loc 4) (.loc 6)) (.ite (.cmp .Lt (.loc 3) (.loc 5)) (.loc 3) (.loc 5)))
  (.seq (.if_ (.cmp .Lt (.loc 7) (.loc 8))
  (.seq (.mut (.pk 2) .append (.cons (.tup (.cons (.loc 7) (.cons (.loc 8) .nil))) .nil))
  .skip)
  .skip)
  .skip))
def metOut : S := (.seq (.for_ (.cons (.nm 6) (.cons (.nm 5) .nil)) (.wk (.loc 1)) metIn) .skip)
def metBody : S := (.seq (.own 2 .nil)
  (.seq (.for_ (.cons (.nm 4) (.cons (.nm 3) .nil)) (.wk (.loc 0)) metOut)
  (.seq (.ret (.loc 2))
  .skip)))
theorem met1_cons {r s : Cut α × Cut α} {q : Pr (Cut α)} : met1 K.O r (s :: q) = one K.O (mx K.O r.1 s.1) (mn K.O r.2 s.2) ++ met1 K.O r q := by
  unfold met1 one
  rw [List.filterMap_cons]
  by_cases z : K.O.lt (mx K.O r.1 s.1) (mn K.O r.2 s.2) = true <;> simp [z]
@[simp] theorem mu_app {xs : List D} {d : D} (h : xs.length < sizeL) : muD .append (.lst xs) [d] = some (.lst (xs ++ [d])) := by
  show (if xs.length < sizeL then _ else _) = _
  rw [if_pos h]
@[simp] theorem isLst_lst {ds : List D} : isLst (some (.lst ds)) = true := rfl
theorem met_in {d0 d1 : D} {l h : Cut α} : ∀ (q : Pr (Cut α)) (acc : List D) (x5 x6 x7 x8 : EV), acc.length + q.length < 100000 →
    ∃ y5 y6 y7 y8, forL (forTurn P (.cons (.nm 6) (.cons (.nm 5) .nil)) metIn) (encL K q) [.val d0, .val d1, .own (.lst acc), .val (enc K h), .val (enc K l), x5, x6, x7, x8] m =
      .nx [.val d0, .val d1, .own (.lst (acc ++ encL K (met1 K.O (l, h) q))), .val (enc K h), .val (enc K l), y5, y6, y7, y8] m
  | [], acc, x5, x6, x7, x8, _ => ⟨x5, x6, x7, x8, by simp [encL, met1]⟩
  | (b, t) :: q, acc, x5, x6, x7, x8, hl => by
    have hl : acc.length + (q.length + 1) < 100000 := hl
    have hs2 : 2 ≤ sizeL := by decide
    have ha : acc.length < sizeL := by unfold sizeL; omega
    have e1 : (if K.O.lt b l = true then enc K l else enc K b) = enc K (mx K.O l b) := by unfold mx; split <;> rfl
    have e2 : (if K.O.lt h t = true then enc K h else enc K t) = enc K (mn K.O h t) := by unfold mn; split <;> rfl
    have turn : ∃ y5 y6 y7 y8, G.forTurn P (.cons (.nm 6) (.cons (.nm 5) .nil)) metIn (encP K (b, t)) [.val d0, .val d1, .own (.lst acc), .val (enc K h), .val (enc K l), x5, x6, x7, x8] m =
        .nx [.val d0, .val d1, .own (.lst (acc ++ encL K (one K.O (mx K.O l b) (mn K.O h t)))), .val (enc K h), .val (enc K l), y5, y6, y7, y8] m := by
      refine ⟨.val (enc K t), .val (enc K b), .val (enc K (mx K.O l b)), .val (enc K (mn K.O h t)), ?_⟩
      cases z1 : K.O.lt b l <;> cases z2 : K.O.lt h t <;> cases z : K.O.lt (mx K.O l b) (mn K.O h t) <;> simp [mx, mn, z1, z2] at z <;> simp [G.forTurn, metIn, encP, mx, mn, z1, z2, z, one, encL, hs2, ha]
    obtain ⟨y5, y6, y7, y8, et⟩ := turn
    obtain ⟨w5, w6, w7, w8, er⟩ := met_in q (acc ++ encL K (one K.O (mx K.O l b) (mn K.O h t))) y5 y6 y7 y8 (by
      have : (encL K (one K.O (mx K.O l b) (mn K.O h t))).length ≤ 1 := by unfold one; split <;> simp [encL]
      rw [List.length_append]; omega)
    refine ⟨w5, w6, w7, w8, ?_⟩
    show forL _ (encP K (b, t) :: encL K q) _ _ = _
    rw [forL_cons, et]
    dsimp only
    rw [er, met1_cons]
    simp [encL, List.append_assoc]
theorem met1_len {r : Cut α × Cut α} {q : Pr (Cut α)} : (met1 K.O r q).length ≤ q.length := List.length_filterMap_le _ _
theorem met_out {d0 d1 : D} {q : Pr (Cut α)} (hq : itemsOf d1 = some (encL K q)) (hd : ∀ e m, evE P (.loc 1) (.val d0 :: .val d1 :: e) m = .ok d1 (.val d0 :: .val d1 :: e) m) : ∀ (p : Pr (Cut α)) (acc : List D) (x3 x4 x5 x6 x7 x8 : EV), acc.length + (p.length + 1) * (q.length + 1) < 100000 →
    ∃ y3 y4 y5 y6 y7 y8, forL (forTurn P (.cons (.nm 4) (.cons (.nm 3) .nil)) metOut) (encL K p) [.val d0, .val d1, .own (.lst acc), x3, x4, x5, x6, x7, x8] m =
      .nx [.val d0, .val d1, .own (.lst (acc ++ encL K (met K.O p q))), y3, y4, y5, y6, y7, y8] m
  | [], acc, x3, x4, x5, x6, x7, x8, _ => ⟨x3, x4, x5, x6, x7, x8, by simp [encL, met]⟩
  | (l, h) :: p, acc, x3, x4, x5, x6, x7, x8, hl => by
    have hl : acc.length + (p.length + 1 + 1) * (q.length + 1) < 100000 := hl
    have hmul : (p.length + 1 + 1) * (q.length + 1) = (p.length + 1) * (q.length + 1) + (q.length + 1) := Nat.succ_mul _ _
    obtain ⟨y5, y6, y7, y8, e1⟩ := met_in (K := K) (P := P) (m := m) (d0 := d0) (d1 := d1) (l := l) (h := h) q acc x5 x6 x7 x8 (by
      have : 0 < (p.length + 1) * (q.length + 1) := Nat.mul_pos (Nat.succ_pos _) (Nat.succ_pos _)
      omega)
    obtain ⟨w3, w4, w5, w6, w7, w8, e2⟩ := met_out hq hd p (acc ++ encL K (met1 K.O (l, h) q)) (.val (enc K h)) (.val (enc K l)) y5 y6 y7 y8 (by
      have := met1_len (K := K) (r := (l, h)) (q := q)
      simp only [List.length_append, encL, List.length_map] at this ⊢
      omega)
    refine ⟨w3, w4, w5, w6, w7, w8, ?_⟩
    show forL _ (encP K (l, h) :: encL K p) _ _ = _
    have turn : G.forTurn P (.cons (.nm 4) (.cons (.nm 3) .nil)) metOut (encP K (l, h)) [.val d0, .val d1, .own (.lst acc), x3, x4, x5, x6, x7, x8] m = .nx [.val d0, .val d1, .own (.lst (acc ++ encL K (met1 K.O (l, h) q))), .val (enc K h), .val (enc K l), y5, y6, y7, y8] m := by
      simp [G.forTurn, metOut, encP, hq, e1]
    rw [forL_cons, turn]
    dsimp only
    rw [e2]
    simp [encL, met, List.append_assoc]
theorem met_body {d0 d1 : D} {p q : Pr (Cut α)} (hp : itemsOf d0 = some (encL K p)) (hq : itemsOf d1 = some (encL K q)) (hl : (p.length + 1) * (q.length + 1) < 90000) :
    (evS P metBody (ini [.val d0, .val d1] 9) m).fin = .ok (.lst (encL K (met K.O p q))) m := by
  obtain ⟨y3, y4, y5, y6, y7, y8, e1⟩ := met_out (K := K) (P := P) (m := m) (d0 := d0) (d1 := d1) hq (fun _ _ => rfl) p [] .no .no .no .no .no .no (by simp; omega)
  simp [metBody, ini, hp, e1]
/-! ### outside_pairs -/
def outBody : S := (.seq (.asg (.nm 5) (.bin .Add (.bin .Add (.lst (.cons (.loc 1) .nil)) (.lc2 (.loc 4) (.nm 3) (.wk (.loc 0)) (.nm 4) (.wk (.loc 3)) (.tru (.cst (.bl true))) [3, 4] [4])) (.lst (.cons (.loc 2) .nil))))
  (.seq (.ret (.lc (.tup (.cons (.ix (.loc 5) (.loc 6)) (.cons (.ix (.loc 5) (.bin .Add (.loc 6) (.cst (.int 1)))) .nil))) (.nm 6) (.rng (.cst (.int 0)) (.b1 .len (.loc 5)) (.cst (.int 2))) (.cmp .Lt (.ix (.loc 5) (.loc 6)) (.ix (.loc 5) (.bin .Add (.loc 6) (.cst (.int 1))))) [6]))
  .skip))
def flatC (p : Pr (Cut α)) : List (Cut α) := p.flatMap fun r => [r.1, r.2]
theorem atD_app {pre post : List D} {x : D} : atD (pre ++ x :: post) (pre.length : Int) = some x := by
  unfold atD L2.atI L2.ixN
  have h : ((pre.length : Nat) : Int) < ((pre ++ x :: post).length : Nat) := by simp; omega
  rw [if_pos (Int.natCast_nonneg _), if_pos h]
  simp
theorem atD_app1 {pre post : List D} {x y : D} : atD (pre ++ x :: y :: post) ((pre.length : Int) + 1) = some y := by
  have := atD_app (pre := pre ++ [x]) (post := post) (x := y)
  simpa using this
theorem flatC_len : ∀ p : Pr (Cut α), (flatC p).length = 2 * p.length
  | [] => rfl
  | r :: p => by
    show (r.1 :: r.2 :: flatC p).length = _
    simp [flatC_len p]
    omega
theorem flat_fold {d0 d1 d2 : D} {y5 y6 : EV} : ∀ (p : Pr (Cut α)) (acc : List D) , acc.length + 2 * p.length < 100000 →
    foldR (lc2Turn P (.loc 4) (.nm 3) (.wk (.loc 3)) (.nm 4) (.tru (.cst (.bl true))) [3, 4] [4]) (encL K p) acc [.val d0, .val d1, .val d2, .no, .no, y5, y6] m = .ok (acc ++ (flatC p).map (enc K)) [.val d0, .val d1, .val d2, .no, .no, y5, y6] m
  | [], acc, _ => by simp [encL, foldR_nil, flatC]
  | (l, h) :: p, acc, hl => by
    have hl : acc.length + 2 * (p.length + 1) < 100000 := hl
    have h1 : acc.length < sizeL := by unfold sizeL; omega
    have h2 : acc.length + 1 < sizeL := by unfold sizeL; omega
    show foldR _ (encP K (l, h) :: encL K p) _ _ _ = _
    have turn : lc2Turn P (.loc 4) (.nm 3) (.wk (.loc 3)) (.nm 4) (.tru (.cst (.bl true))) [3, 4] [4] (encP K (l, h)) acc [.val d0, .val d1, .val d2, .no, .no, y5, y6] m = .ok (acc ++ [enc K l, enc K h]) [.val d0, .val d1, .val d2, .no, .no, y5, y6] m := by
      simp [lc2Turn, lcTurn, encP, foldR_nil, foldR_cons, pushR, h1, h2]
    rw [foldR_cons, turn]
    show foldR _ _ _ _ _ = _
    rw [flat_fold p _ (by simp; omega)]
    simp [flatC]
theorem out_fold {d0 d1 d2 x3 x4 : EV} {last : Cut α} : ∀ (p : Pr (Cut α)) (pre : List D) (cur : Cut α) (i : Nat) (acc : List D), pre.length = 2 * i → acc.length + p.length < 100000 →
    foldR (lcTurn P (.tup (.cons (.ix (.loc 5) (.loc 6)) (.cons (.ix (.loc 5) (.bin .Add (.loc 6) (.cst (.int 1)))) .nil))) (.nm 6) (.cmp .Lt (.ix (.loc 5) (.loc 6)) (.ix (.loc 5) (.bin .Add (.loc 6) (.cst (.int 1))))) [6])
      ((List.range' i (p.length + 1)).map fun (j : Nat) => D.int (0 + (j : Int) * 2)) acc [d0, d1, d2, x3, x4, .val (.lst (pre ++ (cur :: flatC p ++ [last]).map (enc K))), .no] m =
      .ok (acc ++ encL K (out K.O last cur p)) [d0, d1, d2, x3, x4, .val (.lst (pre ++ (cur :: flatC p ++ [last]).map (enc K))), .no] m
  | [], pre, cur, i, acc, hp, hl => by
    have hl : acc.length + 0 < 100000 := hl
    have h1 : acc.length < sizeL := by unfold sizeL; omega
    have hs2 : 2 ≤ sizeL := by decide
    have hi : (i : Int) * 2 = (pre.length : Int) := by omega
    have a0 : atD (pre ++ [enc K cur, enc K last]) (pre.length : Int) = some (enc K cur) := atD_app
    have a1 : atD (pre ++ [enc K cur, enc K last]) ((pre.length : Int) + 1) = some (enc K last) := atD_app1
    cases z : K.O.lt cur last <;> simp [flatC, foldR_nil, foldR_cons, lcTurn, hi, a0, a1, z, out, one, encL, encP, pushR, h1, hs2]
  | (l, h) :: p, pre, cur, i, acc, hp, hl => by
    have hl : acc.length + (p.length + 1) < 100000 := hl
    have h1 : acc.length < sizeL := by unfold sizeL; omega
    have hs2 : 2 ≤ sizeL := by decide
    have hi : (i : Int) * 2 = (pre.length : Int) := by omega
    have ec : (pre ++ (cur :: flatC ((l, h) :: p) ++ [last]).map (enc K)) = (pre ++ [enc K cur, enc K l]) ++ (h :: flatC p ++ [last]).map (enc K) := by simp [flatC]
    have a0 : atD (pre ++ (cur :: flatC ((l, h) :: p) ++ [last]).map (enc K)) (pre.length : Int) = some (enc K cur) := by simpa [flatC] using (atD_app (pre := pre) (x := enc K cur) (post := enc K l :: (h :: flatC p ++ [last]).map (enc K)))
    have a1 : atD (pre ++ (cur :: flatC ((l, h) :: p) ++ [last]).map (enc K)) ((pre.length : Int) + 1) = some (enc K l) := by simpa [flatC] using (atD_app1 (pre := pre) (x := enc K cur) (y := enc K l) (post := (h :: flatC p ++ [last]).map (enc K)))
    have er : (List.range' i (((l, h) :: p).length + 1)).map (fun (j : Nat) => D.int (0 + (j : Int) * 2)) = D.int (0 + (i : Int) * 2) :: (List.range' (i + 1) (p.length + 1)).map (fun (j : Nat) => D.int (0 + (j : Int) * 2)) := by
      rw [List.length_cons, List.range'_succ, List.map_cons]
    generalize hc : (pre ++ (cur :: flatC ((l, h) :: p) ++ [last]).map (enc K)) = cs at ec a0 a1
    have turn : lcTurn P (.tup (.cons (.ix (.loc 5) (.loc 6)) (.cons (.ix (.loc 5) (.bin .Add (.loc 6) (.cst (.int 1)))) .nil))) (.nm 6) (.cmp .Lt (.ix (.loc 5) (.loc 6)) (.ix (.loc 5) (.bin .Add (.loc 6) (.cst (.int 1))))) [6] (.int (0 + (i : Int) * 2)) acc [d0, d1, d2, x3, x4, .val (.lst cs), .no] m =
        .ok (acc ++ encL K (one K.O cur l)) [d0, d1, d2, x3, x4, .val (.lst cs), .no] m := by
      cases z : K.O.lt cur l <;> simp [lcTurn, hi, a0, a1, z, one, encL, encP, pushR, h1, hs2]
    rw [er, foldR_cons, turn]
    show foldR _ _ _ _ _ = _
    have ih := out_fold (d0 := d0) (d1 := d1) (d2 := d2) (x3 := x3) (x4 := x4) (last := last) p (pre ++ [enc K cur, enc K l]) h (i + 1) (acc ++ encL K (one K.O cur l)) (by simp; omega) (by
      have : (encL K (one K.O cur l)).length ≤ 1 := by unfold one; split <;> simp [encL]
      rw [List.length_append]; omega)
    rw [← ec] at ih
    rw [ih]
    simp [encL, out, List.append_assoc]
theorem rng_of {c : C} {e : En} {L : List D} {N : Int} (hc : evE P c e m = .ok (.int N) e m) (hr : rangeD 0 N 2 = some L) : evI P (.rng (.cst (.int 0)) c (.cst (.int 2))) e m = .ok L e m := by
  simp [hc, hr]
theorem len_at5 {d0 d1 d2 x3 x4 : EV} {cs : List D} {N : Int} (hlen : b1D .len (.lst cs) = some (.int N)) : evE P (.b1 .len (.loc 5)) [d0, d1, d2, x3, x4, .val (.lst cs), .no] m = .ok (.int N) [d0, d1, d2, x3, x4, .val (.lst cs), .no] m := by
  simp [-b1_len_lst, hlen]
theorem two_steps {s : S} {c : C} {e e1 e2 : En} {m1 m2 : Mu} {d : D} (h1 : evS P s e m = .nx e1 m1) (h2 : evE P c e1 m1 = .ok d e2 m2) : (evS P (.seq s (.seq (.ret c) .skip)) e m).fin = .ok d m2 := by
  simp [h1, h2]
theorem out_body {d0 : D} {p : Pr (Cut α)} {first last : Cut α} (hp : itemsOf d0 = some (encL K p)) (hl : p.length < 10000) :
    (evS P outBody (ini [.val d0, .val (enc K first), .val (enc K last)] 7) m).fin = .ok (.lst (encL K (out K.O last first p))) m := by
  have f1 := flat_fold (K := K) (P := P) (m := m) (d0 := d0) (d1 := enc K first) (d2 := enc K last) (y5 := .no) (y6 := .no) p [] (by simp; omega)
  have fl := flatC_len p
  have f2 := out_fold (K := K) (P := P) (m := m) (d0 := .val d0) (d1 := .val (enc K first)) (d2 := .val (enc K last)) (x3 := .no) (x4 := .no) (last := last) p [] first 0 [] rfl (by simp; omega)
  have hs1 : 1 ≤ sizeL := by decide
  have hs3 : 1 + (flatC p).length ≤ sizeL := by unfold sizeL; omega
  have hs4 : (flatC p).length + 1 + 1 ≤ sizeL := by unfold sizeL; omega
  have hr : rangeD 0 (((flatC p).length : Int) + 1 + 1) 2 = some ((List.range' 0 (p.length + 1)).map fun (j : Nat) => D.int (0 + (j : Int) * 2)) := by
    have hn : ((((flatC p).length : Int) + 1 + 1 - 0 + 1) / 2).toNat = p.length + 1 := by omega
    rw [range2 (by decide) (by decide) (by omega) (by omega), hn]
    simp only [rInts, List.range_eq_range']
  simp only [List.nil_append, List.map_cons, List.map_append, List.cons_append, List.map_nil] at f1 f2
  generalize (List.range' 0 (p.length + 1)).map (fun (j : Nat) => D.int (0 + (j : Int) * 2)) = L at hr f2
  have c1 : binD .Add (.lst [enc K first]) (.lst ((flatC p).map (enc K))) = some (.lst (enc K first :: (flatC p).map (enc K))) := by
    rw [binD_addl, if_pos (by rw [List.length_map, List.length_singleton]; exact hs3)]
    rfl
  have c2 : binD .Add (.lst (enc K first :: (flatC p).map (enc K))) (.lst [enc K last]) = some (.lst (enc K first :: ((flatC p).map (enc K) ++ [enc K last]))) := by
    rw [binD_addl, if_pos (by rw [List.length_cons, List.length_map, List.length_singleton]; exact hs4)]
    rfl
  have s1 : evS P (.asg (.nm 5) (.bin .Add (.bin .Add (.lst (.cons (.loc 1) .nil)) (.lc2 (.loc 4) (.nm 3) (.wk (.loc 0)) (.nm 4) (.wk (.loc 3)) (.tru (.cst (.bl true))) [3, 4] [4])) (.lst (.cons (.loc 2) .nil)))) [.val d0, .val (enc K first), .val (enc K last), .no, .no, .no, .no] m = .nx [.val d0, .val (enc K first), .val (enc K last), .no, .no, .val (.lst (enc K first :: ((flatC p).map (enc K) ++ [enc K last]))), .no] m := by
    simp [-binD_addl, hp, f1, hs1, c1, c2]
  have hlen : b1D .len (.lst (enc K first :: ((flatC p).map (enc K) ++ [enc K last]))) = some (.int (((flatC p).length : Int) + 1 + 1)) := by
    rw [b1_len_lst]
    simp
  have s2 := rng_of (P := P) (m := m) (len_at5 (d0 := .val d0) (d1 := .val (enc K first)) (d2 := .val (enc K last)) (x3 := .no) (x4 := .no) hlen) hr
  have s3 : evE P (.lc (.tup (.cons (.ix (.loc 5) (.loc 6)) (.cons (.ix (.loc 5) (.bin .Add (.loc 6) (.cst (.int 1)))) .nil))) (.nm 6) (.rng (.cst (.int 0)) (.b1 .len (.loc 5)) (.cst (.int 2))) (.cmp .Lt (.ix (.loc 5) (.loc 6)) (.ix (.loc 5) (.bin .Add (.loc 6) (.cst (.int 1))))) [6]) [.val d0, .val (enc K first), .val (enc K last), .no, .no, .val (.lst (enc K first :: ((flatC p).map (enc K) ++ [enc K last]))), .no] m = .ok (.lst (encL K (out K.O last first p))) [.val d0, .val (enc K first), .val (enc K last), .no, .no, .val (.lst (enc K first :: ((flatC p).map (enc K) ++ [enc K last]))), .no] m := by
    rw [evE_lc, s2, R.bind_ok]
    show ((foldR _ L [] [.val d0, .val (enc K first), .val (enc K last), .no, .no, .val (.lst (enc K first :: ((flatC p).map (enc K) ++ [enc K last]))), .no] m).nox.bind _) = _
    rw [f2]
    rfl
  exact two_steps s1 s3
end
end G
end
section
set_option Elab.async false
set_option linter.all false
set_option maxRecDepth 100000
set_option maxHeartbeats 1000000
/-! G: cuts of ints and of texts -/
namespace G
open PySem
open OS (Pr mem mx mn met met1 one out Can CanS)
def codI : Cod Int where
  f := .int
  lt := fun a b => decide (a < b)
  irr := fun a => by simp
  tr := fun h g => by simp at h g ⊢; omega
  tot := fun h g => by simp at h g; omega
  fl := fun _ => rfl
  eq := fun a b => by
    show some (a == b) = _
    by_cases h : a < b
    · have : (a == b) = false := by simp; omega
      simp [h, this]
    · by_cases g : b < a
      · have : (a == b) = false := by simp; omega
        simp [h, g, this]
      · have : a = b := by omega
        subst this
        simp
  l1 := fun _ _ => rfl
  pl := fun _ n => by cases n <;> rfl
abbrev Txs := { z : Str // PyData.strOk z = true }
theorem txs_ext {a b : Txs} (h : a.1.cps.toList = b.1.cps.toList) : a = b := by
  obtain ⟨⟨x⟩, hx⟩ := a
  obtain ⟨⟨y⟩, hy⟩ := b
  have : x = y := Array.toList_inj.mp h
  subst this
  rfl
def codS : Cod Txs where
  f := fun z => .str z.1
  lt := fun a b => decide (a.1.cps.toList < b.1.cps.toList)
  irr := fun a => by simp
  tr := fun h g => by
    simp only [decide_eq_true_eq] at h g ⊢
    exact List.lt_trans h g
  tot := fun {a b} h g => by
    simp only [decide_eq_false_iff_not] at h g
    exact txs_ext (List.le_antisymm g h)
  fl := fun _ => rfl
  eq := fun a b => by
    show some (a.1 == b.1) = _
    by_cases h : a.1.cps.toList < b.1.cps.toList
    · have : (a.1 == b.1) = false := by
        rw [beq_eq_false_iff_ne]
        intro e
        rw [e] at h
        exact absurd h (List.lt_irrefl _)
      simp [h, this]
    · by_cases g : b.1.cps.toList < a.1.cps.toList
      · have : (a.1 == b.1) = false := by
          rw [beq_eq_false_iff_ne]
          intro e
          rw [e] at g
          exact absurd g (List.lt_irrefl _)
        simp [h, g, this]
      · have : a = b := txs_ext (List.le_antisymm g h)
        subst this
        simp
  l1 := fun _ _ => rfl
  pl := fun a n => by cases n <;> exact a.2
section
variable {α : Type} {K : Cod α} {a b : Cut α}
theorem enc_plain (n : Nat) : plain (enc K a) (n + 1) = true := by
  cases a
  case at_ x =>
    show plainL [.int 0, K.f x] n = true
    simp only [plainL, K.pl, Bool.and_true]
    cases n <;> rfl
  all_goals
    show plainL [.int _] n = true
    simp only [plainL, Bool.and_true]
    cases n <;> rfl
theorem enc_eq [DecidableEq α] : eqD (enc K a) (enc K b) = some (a == b) := by
  cases a <;> cases b
  case at_.at_ x y =>
    show (match eqD (K.f x) (K.f y) with
      | some true => eqL [] []
      | some false => some false
      | none => none) = _
    rw [K.eq]
    by_cases h : x = y
    · subst h
      simp [K.irr, eqL]
    · have hn : (K.lt x y || K.lt y x) = true := by
        cases h1 : K.lt x y with
        | true => rfl
        | false =>
          cases h2 : K.lt y x with
          | true => rfl
          | false => exact absurd (K.tot h1 h2) h
      rw [hn]
      have : (Cut.at_ x == Cut.at_ y) = false := by simpa using h
      rw [this]
      rfl
  all_goals rfl
@[simp] theorem ne_enc [DecidableEq α] : (if isS (enc K a) && isS (enc K b) || plain (enc K a) 60 && plain (enc K b) 60 then (eqD (enc K a) (enc K b)).map (!·) else none) = some (!(a == b)) := by
  rw [enc_plain, enc_plain, enc_eq, Bool.and_true, Bool.or_true]
  rfl
theorem one_len {x y : Cut α} : (one K.O x y).length ≤ 1 := by unfold one; split <;> simp
theorem out_len {last : Cut α} : ∀ {p : Pr (Cut α)} {cur : Cut α}, (out K.O last cur p).length ≤ p.length + 1
  | [], _ => one_len
  | (l, h) :: p, cur => by
    have h1 := one_len (K := K) (x := cur) (y := l)
    have h2 := out_len (last := last) (p := p) (cur := h)
    show (one K.O cur l ++ out K.O last h p).length ≤ p.length + 1 + 1
    rw [List.length_append]
    omega
theorem met_len {q : Pr (Cut α)} : ∀ {p : Pr (Cut α)}, (met K.O p q).length ≤ p.length * q.length
  | [] => Nat.zero_le _
  | r :: p => by
    have h1 := met1_len (K := K) (r := r) (q := q)
    have h2 := met_len (q := q) (p := p)
    show (met1 K.O r q ++ met K.O p q).length ≤ (p.length + 1) * q.length
    rw [List.length_append, Nat.succ_mul]
    omega
/-- what joined_pairs makes -/
def joinP (K : Cod α) (first : Cut α) (p q : Pr (Cut α)) : Pr (Cut α) := out K.O .top first (met K.O (out K.O .top first p) (out K.O .top first q))
theorem can_join {first : Cut α} {p q : Pr (Cut α)} (hp : Can K.O first .top p) (hq : Can K.O first .top q) : Can K.O first .top (joinP K first p q) :=
  OS.can_out (OS.can_met (OS.can_out hp) (OS.can_out hq))
theorem mem_join {first x : Cut α} {p q : Pr (Cut α)} (hp : Can K.O first .top p) (hq : Can K.O first .top q) (h0 : K.O.le first x) (h1 : K.O.lt x .top = true) : mem K.O (joinP K first p q) x = (mem K.O p x || mem K.O q x) := by
  unfold joinP
  rw [OS.mem_out (OS.can_met (OS.can_out hp) (OS.can_out hq)) h0 h1, OS.mem_met, OS.mem_out hp h0 h1, OS.mem_out hq h0 h1]
  cases mem K.O p x <;> cases mem K.O q x <;> rfl
theorem cuts_join {first a : Cut α} {p q : Pr (Cut α)} (h : a ∈ OS.cuts (joinP K first p q)) : a = first ∨ a = .top ∨ a ∈ OS.cuts p ∨ a ∈ OS.cuts q := by
  rcases OS.cuts_out h with z | z | z
  · exact .inl z
  · exact .inr (.inl z)
  · rcases OS.cuts_met z with z | z
    · rcases OS.cuts_out z with z | z | z
      · exact .inl z
      · exact .inr (.inl z)
      · exact .inr (.inr (.inl z))
    · rcases OS.cuts_out z with z | z | z
      · exact .inl z
      · exact .inr (.inl z)
      · exact .inr (.inr (.inr z))
/-- what joined_all makes -/
def joinAll (K : Cod α) (first : Cut α) : Pr (Cut α) → Pr (Cut α) → Pr (Cut α)
  | acc, [] => acc
  | acc, r :: rows => joinAll K first (joinP K first acc [r]) rows
/-- a row -/
def RowOk (K : Cod α) (first : Cut α) (r : Cut α × Cut α) : Prop := K.O.le first r.1 ∧ K.O.lt r.1 r.2 = true
theorem can_row {first : Cut α} {r : Cut α × Cut α} (h : RowOk K first r) : Can K.O first .top [r] := ⟨h.1, h.2, by show cutLt K .top r.2 = false; cases r.2 <;> rfl, trivial⟩
theorem can_all {first : Cut α} : ∀ {rows acc : Pr (Cut α)}, Can K.O first .top acc → (∀ r ∈ rows, RowOk K first r) → Can K.O first .top (joinAll K first acc rows)
  | [], _, h, _ => h
  | r :: rows, acc, h, hr => can_all (rows := rows) (can_join h (can_row (hr r (List.mem_cons_self ..)))) fun r h => hr r (List.mem_cons_of_mem _ h)
theorem mem_all {first x : Cut α} (h0 : K.O.le first x) (h1 : K.O.lt x .top = true) : ∀ {rows acc : Pr (Cut α)}, Can K.O first .top acc → (∀ r ∈ rows, RowOk K first r) → mem K.O (joinAll K first acc rows) x = (mem K.O acc x || mem K.O rows x)
  | [], acc, h, _ => by show mem K.O acc x = _; rw [OS.mem_nil, Bool.or_false]
  | r :: rows, acc, h, hr => by
    have hc := can_row (hr r (List.mem_cons_self ..))
    show mem K.O (joinAll K first (joinP K first acc [r]) rows) x = _
    rw [mem_all h0 h1 (can_join h hc) fun r h => hr r (List.mem_cons_of_mem _ h), mem_join h hc h0 h1, OS.mem_cons (p := rows), OS.mem_cons (p := []), OS.mem_nil, Bool.or_false, Bool.or_assoc]
theorem cuts_all {first a : Cut α} : ∀ {rows acc : Pr (Cut α)}, a ∈ OS.cuts (joinAll K first acc rows) → a = first ∨ a = .top ∨ a ∈ OS.cuts acc ∨ a ∈ OS.cuts rows
  | [], acc, h => .inr (.inr (.inl h))
  | r :: rows, acc, h => by
    rcases cuts_all (rows := rows) h with z | z | z | z
    · exact .inl z
    · exact .inr (.inl z)
    · rcases cuts_join z with z | z | z | z
      · exact .inl z
      · exact .inr (.inl z)
      · exact .inr (.inr (.inl z))
      · refine .inr (.inr (.inr ?_))
        have z : a ∈ [r.1, r.2] := by simpa [OS.cuts] using z
        show a ∈ r.1 :: r.2 :: OS.cuts rows
        rcases List.mem_cons.mp z with y | y
        · rw [y]; exact List.mem_cons_self ..
        · rw [List.mem_singleton.mp y]; exact List.mem_cons_of_mem _ (List.mem_cons_self ..)
    · exact .inr (.inr (.inr (List.mem_cons_of_mem _ (List.mem_cons_of_mem _ z))))
end
theorem foldR_mapA {β : Type} {f : D → List D → En → Mu → R (List D)} {u g : β → D} {e : En} {m : Mu} : ∀ (xs : List β) (acc : List D), acc.length + xs.length ≤ sizeL → (∀ x acc, x ∈ xs → acc.length < sizeL → f (u x) acc e m = .ok (acc ++ [g x]) e m) → foldR f (xs.map u) acc e m = .ok (acc ++ xs.map g) e m
  | [], acc, _, _ => by simp [foldR]
  | x :: xs, acc, hl, h => by
    have hl' : acc.length + (xs.length + 1) ≤ sizeL := hl
    show (f (u x) acc e m).bind _ = _
    rw [h x acc (List.mem_cons_self ..) (by omega)]
    show foldR f (xs.map u) (acc ++ [g x]) e m = _
    rw [foldR_mapA xs (acc ++ [g x]) (by simp; omega) (fun x acc hx => h x acc (List.mem_cons_of_mem _ hx))]
    simp
/-- .. each turn draws something -/
theorem foldR_draw {β : Type} {f : D → List D → En → Mu → R (List D)} {g : β → D} {Q : β → Prop} {I : Mu → Prop} {e : En} (step : ∀ d acc m, I m → acc.length < sizeL → ∃ x m', f d acc e m = .ok (acc ++ [g x]) e m' ∧ Q x ∧ I m') : ∀ (ds acc : List D) (m : Mu), I m → acc.length + ds.length ≤ sizeL →
    ∃ (xs : List β) (m' : Mu), foldR f ds acc e m = .ok (acc ++ xs.map g) e m' ∧ xs.length = ds.length ∧ (∀ x ∈ xs, Q x) ∧ I m'
  | [], acc, m, hi, _ => ⟨[], m, by simp [foldR], rfl, (fun _ h => nomatch h), hi⟩
  | d :: ds, acc, m, hi, hl => by
    have hl' : acc.length + (ds.length + 1) ≤ sizeL := hl
    obtain ⟨x, m1, e1, hq, h1⟩ := step d acc m hi (by omega)
    obtain ⟨xs, m2, e2, l2, q2, h2⟩ := foldR_draw step ds (acc ++ [g x]) m1 h1 (by simp; omega)
    refine ⟨x :: xs, m2, ?_, by simp [l2], fun y hy => ?_, h2⟩
    · show (f d acc e m).bind _ = _
      rw [e1]
      show foldR f ds (acc ++ [g x]) e m1 = _
      rw [e2]
      simp
    · rcases List.mem_cons.mp hy with rfl | hy
      · exact hq
      · exact q2 y hy
/-! spans and ranges as they are written -/
def oI : Option Int → D
  | none => .non
  | some i => .int i
def oS : Option Str → D
  | none => .non
  | some z => .str z
def spanC (low high : Option Int) : Cut Int × Cut Int := (match low with
  | none => .bot
  | some l => .at_ l, match high with
  | none => .top
  | some h => .at_ (h + 1))
/-- back -/
def lowI : Cut Int → D
  | .at_ n => .int n
  | _ => .non
def highI : Cut Int → D
  | .at_ n => .int (n - 1)
  | _ => .non
def spanD (r : Cut Int × Cut Int) : D := .tup [lowI r.1, highI r.2]
def lowS : Cut Txs → D
  | .at_ n => .str n.1
  | _ => .non
def rangeDt (r : Cut Txs × Cut Txs) : D := .tup [lowS r.1, lowS r.2]
def rangeC (low : Txs) (high : Option Txs) : Cut Txs × Cut Txs := (.at_ low, match high with
  | none => .top
  | some h => .at_ h)
def oT : Option Txs → D
  | none => .non
  | some z => .str z.1
end G
end
section
set_option Elab.async false
set_option linter.all false
set_option maxRecDepth 100000
set_option maxHeartbeats 1000000
/-! G: how long a repr is. -/
namespace G
open PySem
mutual
def width : D → Nat
  | .int _ => 1921
  | .str x => 10 * x.length + 2
  | .tup ds => widthL ds + 3
  | .lst ds => widthL ds + 2
  | _ => 5
def widthL : List D → Nat
  | [] => 0
  | d :: ds => width d + 2 + widthL ds
end
mutual
/-- ints that are shown -/
def intsOk : D → Bool
  | .int i => decide (i.natAbs.log2 < 1920)
  | .tup ds => intsOkL ds
  | .lst ds => intsOkL ds
  | _ => true
def intsOkL : List D → Bool
  | [] => true
  | d :: ds => intsOk d && intsOkL ds
end
theorem listText_len : ∀ ts : List Str, (listText ts).length ≤ piled ts + 2
  | [] => by rw [listText_nil]; decide +kernel
  | t :: r => by
    have h := textFrom_length_pos r 1 (("[" : Str) ++ (if (0 : Nat) > 0 then ", " else "" : String) ++ t) (Nat.succ_pos 0)
    have e : ((("[" : Str) ++ (if (0 : Nat) > 0 then ", " else "" : String) ++ t)).length = 1 + t.length := by
      rw [strLen_append, strLen_append]; rfl
    have hX : (listText (t :: r)).length = (textFrom 0 "[" (t :: r)).length + 1 := by
      unfold listText
      rw [strLen_append]; rfl
    have h2 : (textFrom 0 "[" (t :: r)).length = 1 + t.length + piled r := by rw [← e]; exact h
    rw [hX, h2, piled_cons]
    omega
theorem join_len : ∀ ts : List Str, (Str.join ", " ts).length ≤ piled ts
  | [] => by decide +kernel
  | [t] => by rw [piled_cons]; show t.length ≤ _; omega
  | t :: u :: r => by
    have h := join_len (u :: r)
    show (t ++ ", " ++ Str.join ", " (u :: r)).length ≤ _
    rw [strLen_append, strLen_append, piled_cons]
    have : (Str.ofString ", ").length = 2 := by decide +kernel
    omega
theorem tupleText_len (ts : List Str) : (tupleText ts).length ≤ piled ts + 3 := by
  have h := join_len ts
  unfold tupleText
  rw [strLen_append, strLen_append]
  have h1 : (Str.ofString "(").length = 1 := by decide +kernel
  have h2 : (Str.ofString (if ts.length == 1 then ",)" else ")" : String)).length ≤ 2 := by split <;> decide +kernel
  omega
mutual
theorem shown_len : ∀ (d : D) (n : Nat), plain d n = true → intsOk d = true → (toPy d).showable = true ∧ (toPy d).shown.length ≤ width d
  | .non, n, _, _ => ⟨rfl, by decide +kernel⟩
  | .bl b, n, _, _ => ⟨rfl, by cases b <;> decide +kernel⟩
  | .int i, n, _, h => by
    have h : i.natAbs.log2 < 1920 := of_decide_eq_true h
    exact ⟨decide_eq_true h, PyProof.Rows.int_text_len_1921 h⟩
  | .str x, n, h, _ => by
    have h : PyData.strOk x = true := by cases n <;> exact h
    refine ⟨rfl, ?_⟩
    show (PyData.shown (.str x)).length ≤ _
    rw [PyData.shown_str]
    refine StrLaws.reprText_len x fun c hc => ?_
    unfold PyData.strOk at h
    rw [← Array.all_toList] at h
    have := List.all_eq_true.mp h c hc
    simp at this
    omega
  | .tup ds, 0, h, _ => nomatch h
  | .lst ds, 0, h, _ => nomatch h
  | .tup ds, n + 1, h, g => by
    have h : plainL ds n = true := h
    obtain ⟨h1, h2⟩ := shownL_len ds n h g
    refine ⟨h1, ?_⟩
    show (PyData.shown (.tuple (toPyL ds))).length ≤ widthL ds + 3
    have := tupleText_len (PyData.shownAll (toPyL ds))
    simp only [PyData.shown]
    omega
  | .lst ds, n + 1, h, g => by
    have h : plainL ds n = true := h
    obtain ⟨h1, h2⟩ := shownL_len ds n h g
    refine ⟨h1, ?_⟩
    show (PyData.shown (.list (toPyL ds))).length ≤ widthL ds + 2
    have := listText_len (PyData.shownAll (toPyL ds))
    simp only [PyData.shown]
    omega
  | .scr _, n, h, _ => by cases n <;> cases h
  | .dic _, n, h, _ => by cases n <;> cases h
  | .ins _ _, n, h, _ => by cases n <;> cases h
  | .cel _, n, h, _ => by cases n <;> cases h
theorem shownL_len : ∀ (ds : List D) (n : Nat), plainL ds n = true → intsOkL ds = true → PyData.showableAll (toPyL ds) = true ∧ piled (PyData.shownAll (toPyL ds)) ≤ widthL ds
  | [], n, _, _ => ⟨rfl, Nat.le_refl _⟩
  | d :: ds, n, h, g => by
    have h : plain d n = true ∧ plainL ds n = true := by simpa [plainL] using h
    have g : intsOk d = true ∧ intsOkL ds = true := by simpa [intsOkL] using g
    obtain ⟨h1, h2⟩ := shown_len d n h.1 g.1
    obtain ⟨h3, h4⟩ := shownL_len ds n h.2 g.2
    refine ⟨by show (PyData.showable _ && PyData.showableAll _) = true; rw [h1, h3]; rfl, ?_⟩
    show piled (PyData.shown (toPy d) :: PyData.shownAll (toPyL ds)) ≤ width d + 2 + widthL ds
    rw [piled_cons]
    omega
end
theorem repr_ok {d : D} (h : plain d 60 = true) (g : intsOk d = true) (w : width d ≤ sizeL) : reprD d = some (toPy d).shown := by
  obtain ⟨h1, h2⟩ := shown_len d 60 h g
  unfold reprD
  rw [h, h1, decide_eq_true (Nat.le_trans h2 w)]
  rfl
theorem widthL_map {β : Type} {f : β → D} {k : Nat} : ∀ {xs : List β}, (∀ x ∈ xs, width (f x) ≤ k) → widthL (xs.map f) ≤ xs.length * (k + 2)
  | [], _ => Nat.zero_le _
  | x :: xs, h => by
    have h1 := h x (List.mem_cons_self ..)
    have h2 := widthL_map (xs := xs) fun x hx => h x (List.mem_cons_of_mem _ hx)
    show width (f x) + 2 + widthL (xs.map f) ≤ (xs.length + 1) * (k + 2)
    rw [Nat.succ_mul]
    omega
theorem intsOkL_map {β : Type} {f : β → D} : ∀ {xs : List β}, (∀ x ∈ xs, intsOk (f x) = true) → intsOkL (xs.map f) = true
  | [], _ => rfl
  | x :: xs, h => by
    show (intsOk (f x) && intsOkL (xs.map f)) = true
    rw [h x (List.mem_cons_self ..), intsOkL_map fun x hx => h x (List.mem_cons_of_mem _ hx)]
    rfl
theorem plainL_map {β : Type} {f : β → D} {n : Nat} : ∀ {xs : List β}, (∀ x ∈ xs, plain (f x) n = true) → plainL (xs.map f) n = true
  | [], _ => rfl
  | x :: xs, h => by
    show (plain (f x) n && plainL (xs.map f) n) = true
    rw [h x (List.mem_cons_self ..), plainL_map fun x hx => h x (List.mem_cons_of_mem _ hx)]
    rfl
/-- == of mapped lists -/
theorem eqL_map {β : Type} [DecidableEq β] {f : β → D} : ∀ {xs ys : List β}, xs.length = ys.length → (∀ x ∈ xs, ∀ y ∈ ys, eqD (f x) (f y) = some (decide (x = y))) → eqL (xs.map f) (ys.map f) = some (decide (xs = ys))
  | [], [], _, _ => rfl
  | x :: xs, y :: ys, hl, h => by
    show (match eqD (f x) (f y) with
      | some true => eqL (xs.map f) (ys.map f)
      | some false => some false
      | none => none) = _
    rw [h x (List.mem_cons_self ..) y (List.mem_cons_self ..)]
    by_cases e : x = y
    · subst e
      have := eqL_map (xs := xs) (ys := ys) (by simpa using hl) fun a ha b hb => h a (List.mem_cons_of_mem _ ha) b (List.mem_cons_of_mem _ hb)
      simp [this]
    · simp [e]
theorem eq_lsts {β : Type} [DecidableEq β] {f : β → D} {xs ys : List β} (h : ∀ x ∈ xs, ∀ y ∈ ys, eqD (f x) (f y) = some (decide (x = y))) : eqD (.lst (xs.map f)) (.lst (ys.map f)) = some (decide (xs = ys)) := by
  show (if (xs.map f).length = (ys.map f).length then eqL (xs.map f) (ys.map f) else some false) = _
  rw [List.length_map, List.length_map]
  by_cases hl : xs.length = ys.length
  · rw [if_pos hl, eqL_map hl h]
  · rw [if_neg hl]
    have : xs ≠ ys := fun e => hl (by rw [e])
    simp [this]
end G
end
section
set_option Elab.async false
set_option linter.all false
set_option maxRecDepth 100000
set_option maxHeartbeats 0
/-! law_k04_whole_algebra_of_sets: the text as core language (printed by gen_law.py) -/
namespace K04
open PySem PySem.Spec PyProof.Rows L2 G
def top (i : Nat) : Stmt := PySem.Challenge.pw_latermeet_k04_whole_algebra_of_sets.main.body.getD i (.Pass ⟨0, 0, 0, 0⟩)
def sub (s : Stmt) (j : Nat) : Stmt := match s with
  | .ClassDef _ _ _ body _ _ _ _ _ _ _ => body.getD j (.Pass ⟨0, 0, 0, 0⟩)
  | _ => .Pass ⟨0, 0, 0, 0⟩
/-- law(_law_script): 0 _law_script, 1 _law_cell, 2 _law_source_here, 3 _law_turn, 4 _law_some -/
def b_law : S := (.seq (.for_ (.nm 1) (.wk (.sl (.bin .Add (.loc 0) (.lst (.cons (.cst (.int 0)) .nil))) .sno (.cst (.int 5))))
  (.seq (.asg (.nm 2) (.call 0 (.cons (.loc 1) .nil) .nil))
  (.seq (.own 4 (.lc (.call 1 (.cons (.call 2 (.cons (.loc 2) .nil) .nil) .nil) .nil) (.nm 3) (.rng (.cst (.int 0)) (.cst (.int 3)) (.cst (.int 1))) (.tru (.cst (.bl true))) [3]))
  (.seq (.if_ (.cmp .Eq (.call 3 (.cons (.loc 2) (.cons (.cst (.int 4)) .nil)) .nil) (.cst (.int 0)))
  (.seq (.seti (.pk 4) (.cst (.int 2)) (.bin .BitOr (.ix (.pk 4) (.cst (.int 0))) (.ix (.pk 4) (.cst (.int 1)))))
  .skip)
  .skip)
  (.seq (.if_ (.or_ (.not_ (.tru (.call 4 (.cons (.ix (.pk 4) (.cst (.int 0))) (.cons (.ix (.pk 4) (.cst (.int 1))) .nil)) .nil))) (.not_ (.tru (.call 4 (.cons (.ix (.pk 4) (.cst (.int 2))) (.cons (.ix (.pk 4) (.cst (.int 0))) .nil)) .nil))))
  (.seq (.ret (.cst (.bl false)))
  .skip)
  .skip)
  (.seq (.if_ (.not_ (.tru (.call 5 (.cons (.ix (.pk 4) (.cst (.int 0))) (.cons (.ix (.pk 4) (.cst (.int 1))) (.cons (.ix (.pk 4) (.cst (.int 2))) .nil))) .nil)))
  (.seq (.ret (.cst (.bl false)))
  .skip)
  .skip)
  .skip))))))
  (.seq (.ret (.cst (.bl true)))
  .skip))
/-- ScalarSet.__and__(self, other): 0 self, 1 other, 2 truth -/
def b_ScalarSet_and : S := (.seq (.if_ (.not_ (.tru (.isi (.loc 1) [.c 0])))
  .stuck
  .skip)
  (.seq (.ret (.make 0 .nil (.cons (.and_ (.att (.loc 0) "has_null") (.att (.loc 1) "has_null")) (.cons (.lc (.loc 2) (.nm 2) (.wk (.att (.loc 0) "bools")) (.cmp .In (.loc 2) (.att (.loc 1) "bools")) [2]) (.cons (.call 8 (.cons (.call 7 (.cons (.att (.loc 0) "numbers") (.cons (.att (.loc 1) "numbers") .nil)) .nil) .nil) .nil) (.cons (.call 6 (.cons (.call 7 (.cons (.att (.loc 0) "words") (.cons (.att (.loc 1) "words") .nil)) .nil) .nil) .nil) .nil))))))
  .skip))
/-- ScalarSet.__or__(self, other): 0 self, 1 other -/
def b_ScalarSet_or : S := (.seq (.if_ (.not_ (.tru (.isi (.loc 1) [.c 0])))
  .stuck
  .skip)
  (.seq (.ret (.un .Invert (.bin .BitAnd (.un .Invert (.loc 0)) (.un .Invert (.loc 1)))))
  .skip))
/-- ScalarSet.__xor__(self, other): 0 self, 1 other -/
def b_ScalarSet_xor : S := (.seq (.if_ (.not_ (.tru (.isi (.loc 1) [.c 0])))
  .stuck
  .skip)
  (.seq (.ret (.bin .BitOr (.bin .Sub (.loc 0) (.loc 1)) (.bin .Sub (.loc 1) (.loc 0))))
  .skip))
/-- ScalarSet.__sub__(self, other): 0 self, 1 other -/
def b_ScalarSet_sub : S := (.seq (.if_ (.not_ (.tru (.isi (.loc 1) [.c 0])))
  .stuck
  .skip)
  (.seq (.ret (.bin .BitAnd (.loc 0) (.un .Invert (.loc 1))))
  .skip))
/-- ScalarSet.__invert__(self): 0 self, 1 truth -/
def b_ScalarSet_invert : S := (.seq (.ret (.make 0 .nil (.cons (.not_ (.att (.loc 0) "has_null")) (.cons (.lc (.loc 1) (.nm 1) (.wk (.tup (.cons (.cst (.bl false)) (.cons (.cst (.bl true)) .nil)))) (.cmp .NotIn (.loc 1) (.att (.loc 0) "bools")) [1]) (.cons (.call 8 (.cons (.call 9 (.cons (.att (.loc 0) "numbers") (.cons (.glb 2) (.cons (.glb 0) .nil))) .nil) .nil) .nil) (.cons (.call 6 (.cons (.call 9 (.cons (.att (.loc 0) "words") (.cons (.glb 1) (.cons (.glb 0) .nil))) .nil) .nil) .nil) .nil))))))
  .skip)
/-- ScalarSet.__bool__(self): 0 self -/
def b_ScalarSet_bool : S := (.seq (.ret (.or_ (.b1 .bool (.att (.loc 0) "has_null")) (.or_ (.b1 .bool (.att (.loc 0) "bools")) (.or_ (.b1 .bool (.att (.loc 0) "numbers")) (.b1 .bool (.att (.loc 0) "words"))))))
  .skip)
/-- ScalarSet.__le__(self, other): 0 self, 1 other -/
def b_ScalarSet_le : S := (.seq (.if_ (.not_ (.tru (.isi (.loc 1) [.c 0])))
  .stuck
  .skip)
  (.seq (.ret (.not_ (.bin .Sub (.loc 0) (.loc 1))))
  .skip))
/-- ScalarSet.__lt__(self, other): 0 self, 1 other -/
def b_ScalarSet_lt : S := (.seq (.if_ (.not_ (.tru (.isi (.loc 1) [.c 0])))
  .stuck
  .skip)
  (.seq (.ret (.and_ (.cmp .LtE (.loc 0) (.loc 1)) (.not_ (.cmp .LtE (.loc 1) (.loc 0)))))
  .skip))
/-- ScalarSet.__eq__(self, other): 0 self, 1 other -/
def b_ScalarSet_eq : S := (.seq (.ret (.and_ (.isi (.loc 1) [.c 0]) (.cmp .Eq (.meth (.loc 0) "pieces" .nil) (.meth (.loc 1) "pieces" .nil))))
  .skip)
/-- ScalarSet.pieces(self): 0 self -/
def b_ScalarSet_pieces : S := (.seq (.ret (.tup (.cons (.att (.loc 0) "has_null") (.cons (.b1 .list (.att (.loc 0) "bools")) (.cons (.call 8 (.cons (.att (.loc 0) "numbers") .nil) .nil) (.cons (.call 6 (.cons (.att (.loc 0) "words") .nil) .nil) .nil))))))
  .skip)
/-- _law_source(_law_cell): 0 _law_cell -/
def b_source : S := (.seq (.ret (.newc (.cons (.bin .Mult (.b1 .abs (.loc 0)) (.b1 .int (.cmp .GtE (.b1 .abs (.loc 0)) (.bin .Pow (.cst (.int 10)) (.cst (.int 18)))))) (.cons (.loc 0) (.cons (.cst (.int 0)) .nil)))))
  .skip)
/-- _law_made(_law_heard): 0 _law_heard -/
def b_made : S := (.seq (.ret (.make 0 .nil (.cons (.dget (.loc 0) (.cst (.str "null"))) (.cons (.b1 .list (.dget (.loc 0) (.cst (.str "truths")))) (.cons (.b1 .list (.dget (.loc 0) (.cst (.str "spans")))) (.cons (.b1 .tuple (.dget (.loc 0) (.cst (.str "ranges")))) .nil))))))
  .skip)
/-- _law_told(_law_source_here): 0 _law_source_here, 1 _law_heard, 2 _law_turn -/
def b_told : S := (.seq (.own 1 (.dic ["null", "truths"] (.cons (.cmp .Eq (.call 3 (.cons (.loc 0) (.cons (.cst (.int 2)) .nil)) .nil) (.cst (.int 0))) (.cons (.sl (.lst (.cons (.cst (.bl true)) (.cons (.cst (.bl false)) (.cons (.cst (.bl true)) .nil)))) .sno (.call 3 (.cons (.loc 0) (.cons (.cst (.int 4)) .nil)) .nil)) .nil))))
  (.seq (.seti (.pk 1) (.cst (.str "spans")) (.lc (.call 10 (.cons (.loc 0) .nil) .nil) (.nm 2) (.rng (.cst (.int 0)) (.call 3 (.cons (.loc 0) (.cons (.cst (.int 5)) .nil)) .nil) (.cst (.int 1))) (.tru (.cst (.bl true))) [2]))
  (.seq (.seti (.pk 1) (.cst (.str "ranges")) (.lc (.call 11 (.cons (.loc 0) .nil) .nil) (.nm 2) (.rng (.cst (.int 0)) (.call 3 (.cons (.loc 0) (.cons (.cst (.int 4)) .nil)) .nil) (.cst (.int 1))) (.tru (.cst (.bl true))) [2]))
  (.seq (.ret (.loc 1))
  .skip))))
/-- _law_take(_law_source_here, _law_bound): 0 _law_source_here, 1 _law_bound, 2 _law_drawn -/
def b_take : S := (.seq (.if_ (.cmp .Gt (.ix (.loc 0) (.cst (.int 0))) (.cst (.int 0)))
  (.seq (.asg (.nm 2) (.bin .Mod (.b1 .int (.ix (.loc 0) (.cst (.int 0)))) (.loc 1)))
  (.seq (.seti (.loc 0) (.cst (.int 0)) (.bin .FloorDiv (.ix (.loc 0) (.cst (.int 0))) (.loc 1)))
  (.seq (.ret (.loc 2))
  .skip)))
  .skip)
  (.seq (.seti (.loc 0) (.cst (.int 2)) (.bin .Add (.ix (.loc 0) (.cst (.int 2))) (.cst (.int 1))))
  (.seq (.ret (.bin .Mod (.b1 .int (.call 12 (.cons (.ix (.loc 0) (.cst (.int 1))) (.cons (.ix (.loc 0) (.cst (.int 2))) .nil)) .nil)) (.loc 1)))
  .skip)))
/-- _law_two_right(_law_one, _law_other): 0 _law_one, 1 _law_other, 2 _law_pairs, 3 _law_second, 4 _law_first, 5 _law_heard -/
def b_two_right : S := (.seq (.asg (.nm 2) (.lst (.cons (.tup (.cons (.bin .BitAnd (.loc 0) (.loc 1)) (.cons (.bin .BitAnd (.loc 1) (.loc 0)) .nil))) (.cons (.tup (.cons (.bin .BitOr (.loc 0) (.loc 1)) (.cons (.bin .BitOr (.loc 1) (.loc 0)) .nil))) (.cons (.tup (.cons (.bin .Sub (.loc 0) (.loc 1)) (.cons (.bin .BitAnd (.loc 0) (.un .Invert (.loc 1))) .nil))) .nil)))))
  (.seq (.asg (.nm 2) (.bin .Add (.loc 2) (.lst (.cons (.tup (.cons (.un .Invert (.bin .BitAnd (.loc 0) (.loc 1))) (.cons (.bin .BitOr (.un .Invert (.loc 0)) (.un .Invert (.loc 1))) .nil))) (.cons (.tup (.cons (.un .Invert (.bin .BitOr (.loc 0) (.loc 1))) (.cons (.bin .BitAnd (.un .Invert (.loc 0)) (.un .Invert (.loc 1))) .nil))) (.cons (.tup (.cons (.un .Invert (.un .Invert (.loc 0))) (.cons (.loc 0) .nil))) .nil))))))
  (.seq (.asg (.nm 2) (.bin .Add (.loc 2) (.lst (.cons (.tup (.cons (.bin .BitAnd (.loc 0) (.bin .BitOr (.loc 0) (.loc 1))) (.cons (.loc 0) .nil))) (.cons (.tup (.cons (.bin .BitOr (.loc 0) (.bin .BitAnd (.loc 0) (.loc 1))) (.cons (.loc 0) .nil))) (.cons (.tup (.cons (.bin .BitOr (.loc 0) (.loc 0)) (.cons (.loc 0) .nil))) (.cons (.tup (.cons (.bin .BitAnd (.loc 0) (.loc 0)) (.cons (.loc 0) .nil))) .nil)))))))
  (.seq (.asg (.nm 2) (.bin .Add (.loc 2) (.lst (.cons (.tup (.cons (.bin .BitXor (.loc 0) (.loc 1)) (.cons (.bin .Sub (.bin .BitOr (.loc 0) (.loc 1)) (.bin .BitAnd (.loc 0) (.loc 1))) .nil))) (.cons (.tup (.cons (.bin .BitXor (.loc 0) (.loc 1)) (.cons (.bin .BitXor (.loc 1) (.loc 0)) .nil))) (.cons (.tup (.cons (.bin .BitXor (.loc 0) (.loc 0)) (.cons (.make 1 .nil .nil) .nil))) .nil))))))
  (.seq (.asg (.nm 2) (.bin .Add (.loc 2) (.lst (.cons (.tup (.cons (.bin .BitXor (.bin .BitXor (.loc 0) (.loc 1)) (.loc 1)) (.cons (.loc 0) .nil))) (.cons (.tup (.cons (.bin .BitXor (.loc 0) (.call 13 .nil .nil)) (.cons (.un .Invert (.loc 0)) .nil))) (.cons (.tup (.cons (.bin .BitAnd (.loc 0) (.un .Invert (.loc 0))) (.cons (.make 1 .nil .nil) .nil))) .nil))))))
  (.seq (.asg (.nm 2) (.bin .Add (.loc 2) (.lst (.cons (.tup (.cons (.bin .BitOr (.loc 0) (.un .Invert (.loc 0))) (.cons (.call 13 .nil .nil) .nil))) (.cons (.tup (.cons (.bin .Sub (.loc 0) (.loc 0)) (.cons (.make 1 .nil .nil) .nil))) .nil)))))
  (.seq (.if_ (.cmp .NotEq (.lc (.cst (.int 1)) (.cons (.nm 4) (.cons (.nm 3) .nil)) (.wk (.loc 2)) (.not_ (.tru (.call 14 (.cons (.loc 4) (.cons (.loc 3) .nil)) .nil))) [4, 3]) (.lst .nil))
  (.seq (.ret (.cst (.bl false)))
  .skip)
  .skip)
  (.seq (.asg (.nm 5) (.lst (.cons (.cmp .LtE (.loc 0) (.loc 1)) (.cons (.cmp .Eq (.bin .BitAnd (.loc 0) (.loc 1)) (.loc 0)) (.cons (.cmp .Eq (.bin .BitOr (.loc 0) (.loc 1)) (.loc 1)) (.cons (.not_ (.bin .Sub (.loc 0) (.loc 1))) .nil))))))
  (.seq (.if_ (.or_ (.cmp .NotEq (.m1 .count (.loc 5) (.ix (.loc 5) (.cst (.int 0)))) (.cst (.int 4))) (.cmp .NotEq (.cmp .Lt (.loc 0) (.loc 1)) (.and_ (.ix (.loc 5) (.cst (.int 0))) (.cmp .NotEq (.loc 0) (.loc 1)))))
  (.seq (.ret (.cst (.bl false)))
  .skip)
  .skip)
  (.seq (.ret (.and_ (.cmp .Eq (.cmp .Eq (.loc 0) (.loc 1)) (.and_ (.cmp .LtE (.loc 0) (.loc 1)) (.cmp .LtE (.loc 1) (.loc 0)))) (.and_ (.cmp .LtE (.bin .BitAnd (.loc 0) (.loc 1)) (.loc 0)) (.cmp .LtE (.loc 0) (.bin .BitOr (.loc 0) (.loc 1))))))
  .skip))))))))))
/-- _law_three_right(_law_one, _law_other, _law_third): 0 _law_one, 1 _law_other, 2 _law_third, 3 _law_pairs, 4 _law_second, 5 _law_first -/
def b_three_right : S := (.seq (.own 3 (.cons (.tup (.cons (.bin .BitAnd (.bin .BitAnd (.loc 0) (.loc 1)) (.loc 2)) (.cons (.bin .BitAnd (.loc 0) (.bin .BitAnd (.loc 1) (.loc 2))) .nil))) (.cons (.tup (.cons (.bin .BitOr (.bin .BitOr (.loc 0) (.loc 1)) (.loc 2)) (.cons (.bin .BitOr (.loc 0) (.bin .BitOr (.loc 1) (.loc 2))) .nil))) .nil)))
  (.seq (.mut (.pk 3) .append (.cons (.tup (.cons (.bin .BitAnd (.loc 0) (.bin .BitOr (.loc 1) (.loc 2))) (.cons (.bin .BitOr (.bin .BitAnd (.loc 0) (.loc 1)) (.bin .BitAnd (.loc 0) (.loc 2))) .nil))) .nil))
  (.seq (.mut (.pk 3) .append (.cons (.tup (.cons (.bin .BitOr (.loc 0) (.bin .BitAnd (.loc 1) (.loc 2))) (.cons (.bin .BitAnd (.bin .BitOr (.loc 0) (.loc 1)) (.bin .BitOr (.loc 0) (.loc 2))) .nil))) .nil))
  (.seq (.mut (.pk 3) .append (.cons (.tup (.cons (.bin .Sub (.loc 0) (.bin .BitOr (.loc 1) (.loc 2))) (.cons (.bin .Sub (.bin .Sub (.loc 0) (.loc 1)) (.loc 2)) .nil))) .nil))
  (.seq (.mut (.pk 3) .append (.cons (.tup (.cons (.bin .Sub (.loc 0) (.bin .BitAnd (.loc 1) (.loc 2))) (.cons (.bin .BitOr (.bin .Sub (.loc 0) (.loc 1)) (.bin .Sub (.loc 0) (.loc 2))) .nil))) .nil))
  (.seq (.if_ (.cmp .NotEq (.lc (.cst (.int 1)) (.cons (.nm 5) (.cons (.nm 4) .nil)) (.wk (.loc 3)) (.not_ (.tru (.call 14 (.cons (.loc 5) (.cons (.loc 4) .nil)) .nil))) [5, 4]) (.lst .nil))
  (.seq (.ret (.cst (.bl false)))
  .skip)
  .skip)
  (.seq (.ret (.or_ (.not_ (.and_ (.cmp .LtE (.loc 0) (.loc 1)) (.cmp .LtE (.loc 1) (.loc 2)))) (.cmp .LtE (.loc 0) (.loc 2))))
  .skip)))))))
/-- ScalarSet.__init__(self, null, truths, spans, ranges): 0 self, 1 null, 2 truths, 3 spans, 4 ranges, 5 truth, 6 high, 7 low -/
def b_ScalarSet_init : S := (.seq (.if_ (.not_ (.tru (.isi (.loc 1) [.b "bool"])))
  (.seq (.raise 0 (.cons (.cst (.str "null")) .nil))
  .skip)
  .skip)
  (.seq (.if_ (.not_ (.tru (.call 15 (.cons (.loc 2) .nil) .nil)))
  (.seq (.raise 0 (.cons (.cst (.str "truths")) .nil))
  .skip)
  .skip)
  (.seq (.if_ (.not_ (.tru (.call 16 (.cons (.loc 3) .nil) .nil)))
  (.seq (.raise 0 (.cons (.cst (.str "spans")) .nil))
  .skip)
  .skip)
  (.seq (.if_ (.not_ (.tru (.call 17 (.cons (.loc 4) .nil) .nil)))
  (.seq (.raise 0 (.cons (.cst (.str "ranges")) .nil))
  .skip)
  .skip)
  (.seq (.fld 0 "has_null" (.loc 1))
  (.seq (.fld 0 "bools" (.b1 .tuple (.lc (.loc 5) (.nm 5) (.wk (.tup (.cons (.cst (.bl false)) (.cons (.cst (.bl true)) .nil)))) (.cmp .In (.loc 5) (.loc 2)) [5])))
  (.seq (.fld 0 "numbers" (.b1 .tuple (.call 18 (.cons (.lc (.call 19 (.cons (.loc 7) (.cons (.loc 6) .nil)) .nil) (.cons (.nm 7) (.cons (.nm 6) .nil)) (.wk (.loc 3)) (.tru (.cst (.bl true))) [7, 6]) (.cons (.glb 2) .nil)) .nil)))
  (.seq (.fld 0 "words" (.b1 .tuple (.call 18 (.cons (.lc (.call 20 (.cons (.loc 7) (.cons (.loc 6) .nil)) .nil) (.cons (.nm 7) (.cons (.nm 6) .nil)) (.wk (.loc 4)) (.tru (.cst (.bl true))) [7, 6]) (.cons (.glb 1) .nil)) .nil)))
  .skip))))))))
/-- ranges_of(pairs): 0 pairs, 1 high, 2 low -/
def b_ranges_of : S := (.seq (.ret (.lc (.tup (.cons (.ix (.loc 2) (.cst (.int 1))) (.cons (.ite (.cmp .NotEq (.loc 1) (.glb 0)) (.ix (.loc 1) (.cst (.int 1))) (.cst .non)) .nil))) (.cons (.nm 2) (.cons (.nm 1) .nil)) (.wk (.loc 0)) (.tru (.cst (.bl true))) [2, 1]))
  .skip)
/-- met_pairs(one, other): 0 one, 1 other, 2 found, 3 high, 4 low, 5 end, 6 begin, 7 start, 8 stop -/
def b_met_pairs : S := (.seq (.own 2 .nil)
  (.seq (.for_ (.cons (.nm 4) (.cons (.nm 3) .nil)) (.wk (.loc 0))
  (.seq (.for_ (.cons (.nm 6) (.cons (.nm 5) .nil)) (.wk (.loc 1))
  (.seq (.par 7 8 (.ite (.cmp .Gt (.loc 4) (.loc 6)) (.loc 4) (.loc 6)) (.ite (.cmp .Lt (.loc 3) (.loc 5)) (.loc 3) (.loc 5)))
  (.seq (.if_ (.cmp .Lt (.loc 7) (.loc 8))
  (.seq (.mut (.pk 2) .append (.cons (.tup (.cons (.loc 7) (.cons (.loc 8) .nil))) .nil))
  .skip)
  .skip)
  .skip)))
  .skip))
  (.seq (.ret (.loc 2))
  .skip)))
/-- spans_of(pairs): 0 pairs, 1 high, 2 low -/
def b_spans_of : S := (.seq (.ret (.lc (.tup (.cons (.ite (.cmp .NotEq (.loc 2) (.glb 2)) (.ix (.loc 2) (.cst (.int 1))) (.cst .non)) (.cons (.ite (.cmp .NotEq (.loc 1) (.glb 0)) (.bin .Sub (.ix (.loc 1) (.cst (.int 1))) (.cst (.int 1))) (.cst .non)) .nil))) (.cons (.nm 2) (.cons (.nm 1) .nil)) (.wk (.loc 0)) (.tru (.cst (.bl true))) [2, 1]))
  .skip)
/-- outside_pairs(pairs, first, last): 0 pairs, 1 first, 2 last, 3 pair, 4 cut, 5 cuts, 6 at -/
def b_outside_pairs : S := (.seq (.asg (.nm 5) (.bin .Add (.bin .Add (.lst (.cons (.loc 1) .nil)) (.lc2 (.loc 4) (.nm 3) (.wk (.loc 0)) (.nm 4) (.wk (.loc 3)) (.tru (.cst (.bl true))) [3, 4] [4])) (.lst (.cons (.loc 2) .nil))))
  (.seq (.ret (.lc (.tup (.cons (.ix (.loc 5) (.loc 6)) (.cons (.ix (.loc 5) (.bin .Add (.loc 6) (.cst (.int 1)))) .nil))) (.nm 6) (.rng (.cst (.int 0)) (.b1 .len (.loc 5)) (.cst (.int 2))) (.cmp .Lt (.ix (.loc 5) (.loc 6)) (.ix (.loc 5) (.bin .Add (.loc 6) (.cst (.int 1))))) [6]))
  .skip))
/-- _law_span(_law_source_here): 0 _law_source_here, 1 _law_low, 2 _law_high -/
def b_span : S := (.seq (.asg (.nm 1) (.call 21 (.cons (.loc 0) .nil) .nil))
  (.seq (.asg (.nm 2) (.bin .Add (.loc 1) (.call 22 (.cons (.loc 0) (.cons (.lst (.cons (.cst (.int 0)) (.cons (.cst (.int 1)) (.cons (.call 3 (.cons (.loc 0) (.cons (.cst (.int 9)) .nil)) .nil) (.cons (.call 3 (.cons (.loc 0) (.cons (.bin .Pow (.cst (.int 10)) (.cst (.int 20))) .nil)) .nil) .nil))))) .nil)) .nil)))
  (.seq (.ret (.tup (.cons (.ite (.cmp .Eq (.call 3 (.cons (.loc 0) (.cons (.cst (.int 8)) .nil)) .nil) (.cst (.int 0))) (.cst .non) (.loc 1)) (.cons (.ite (.cmp .Eq (.call 3 (.cons (.loc 0) (.cons (.cst (.int 8)) .nil)) .nil) (.cst (.int 0))) (.cst .non) (.loc 2)) .nil))))
  .skip)))
/-- _law_range(_law_source_here): 0 _law_source_here, 1 _law_low, 2 _law_other, 3 _law_some -/
def b_range : S := (.seq (.par 1 2 (.call 23 (.cons (.loc 0) .nil) .nil) (.call 23 (.cons (.loc 0) .nil) .nil))
  (.seq (.asg (.nm 3) (.lst (.cons (.bin .Add (.loc 1) (.cst (.str " "))) (.cons (.bin .Add (.loc 1) (.cst (.str "  "))) (.cons (.bin .Add (.loc 1) (.cst (.str "a"))) (.cons (.bin .Add (.loc 1) (.cst (.str "~"))) (.cons (.cst .non) (.cons (.ite (.cmp .Gt (.loc 2) (.loc 1)) (.loc 2) (.bin .Add (.bin .Add (.loc 1) (.cst (.str " "))) (.loc 2))) .nil))))))))
  (.seq (.ret (.tup (.cons (.loc 1) (.cons (.call 22 (.cons (.loc 0) (.cons (.loc 3) .nil)) .nil) .nil))))
  .skip)))
/-- _law_mixed(_law_cell, _law_draw): 0 _law_cell, 1 _law_draw, 2 _law_figure -/
def b_mixed : S := (.seq (.asg (.nm 2) (.bin .Mod (.b1 .int (.bin .Mult (.bin .Add (.bin .Mod (.b1 .int (.loc 0)) (.cst (.int 2147483646))) (.cst (.int 1))) (.bin .Add (.bin .Mult (.loc 1) (.cst (.int 7919))) (.cst (.int 104729))))) (.cst (.int 2147483647))))
  (.seq (.asg (.nm 2) (.bin .Mod (.b1 .int (.bin .Mult (.bin .Add (.loc 2) (.bin .Mult (.bin .Mod (.b1 .int (.bin .FloorDiv (.loc 0) (.cst (.int 2147483646)))) (.cst (.int 1000003))) (.bin .Add (.loc 1) (.cst (.int 31))))) (.cst (.int 48271)))) (.cst (.int 2147483629))))
  (.seq (.asg (.nm 2) (.bin .Mod (.b1 .int (.bin .Mult (.loc 2) (.bin .Add (.bin .Add (.bin .FloorDiv (.loc 2) (.cst (.int 1013))) (.cst (.int 69621))) (.loc 1)))) (.cst (.int 2147483587))))
  (.seq (.ret (.bin .Mod (.b1 .int (.bin .Mult (.loc 2) (.bin .Add (.bin .FloorDiv (.loc 2) (.cst (.int 2003))) (.cst (.int 40692))))) (.cst (.int 2147483563))))
  .skip))))
/-- everything(): 0 # -/
def b_everything : S := (.seq (.ret (.un .Invert (.make 1 .nil .nil)))
  .skip)
/-- _law_same(_law_one, _law_other): 0 _law_one, 1 _law_other -/
def b_same : S := (.seq (.ret (.and_ (.cmp .Eq (.loc 0) (.loc 1)) (.and_ (.cmp .Eq (.b1 .repr (.meth (.loc 0) "pieces" .nil)) (.b1 .repr (.meth (.loc 1) "pieces" .nil))) (.not_ (.cmp .NotEq (.loc 0) (.loc 1))))))
  .skip)
/-- are_bools(thing): 0 thing, 1 entry -/
def b_are_bools : S := (.seq (.ret (.and_ (.isi (.loc 0) [.b "list", .b "tuple"]) (.b1 .all (.lc (.isi (.loc 1) [.b "bool"]) (.nm 1) (.wk (.loc 0)) (.tru (.cst (.bl true))) [1]))))
  .skip)
/-- are_spans(thing): 0 thing, 1 entry -/
def b_are_spans : S := (.seq (.ret (.and_ (.isi (.loc 0) [.b "list", .b "tuple"]) (.b1 .all (.lc (.call 24 (.cons (.loc 1) .nil) .nil) (.nm 1) (.wk (.loc 0)) (.tru (.cst (.bl true))) [1]))))
  .skip)
/-- are_ranges(thing): 0 thing, 1 entry -/
def b_are_ranges : S := (.seq (.ret (.and_ (.isi (.loc 0) [.b "list", .b "tuple"]) (.b1 .all (.lc (.call 25 (.cons (.loc 1) .nil) .nil) (.nm 1) (.wk (.loc 0)) (.tru (.cst (.bl true))) [1]))))
  .skip)
/-- joined_all(rows, first): 0 rows, 1 first, 2 found, 3 row -/
def b_joined_all : S := (.seq (.asg (.nm 2) (.lst .nil))
  (.seq (.for_ (.nm 3) (.wk (.loc 0))
  (.seq (.asg (.nm 2) (.call 26 (.cons (.loc 2) (.cons (.lst (.cons (.loc 3) .nil)) (.cons (.loc 1) .nil))) .nil))
  .skip))
  (.seq (.ret (.loc 2))
  .skip)))
/-- cuts_of_span(low, high): 0 low, 1 high -/
def b_cuts_of_span : S := (.seq (.ret (.tup (.cons (.ite (.isN false (.loc 0)) (.glb 2) (.tup (.cons (.cst (.int 0)) (.cons (.loc 0) .nil)))) (.cons (.ite (.isN false (.loc 1)) (.glb 0) (.tup (.cons (.cst (.int 0)) (.cons (.bin .Add (.loc 1) (.cst (.int 1))) .nil)))) .nil))))
  .skip)
/-- cuts_of_range(low, high): 0 low, 1 high -/
def b_cuts_of_range : S := (.seq (.ret (.tup (.cons (.tup (.cons (.cst (.int 0)) (.cons (.loc 0) .nil))) (.cons (.ite (.isN false (.loc 1)) (.glb 0) (.tup (.cons (.cst (.int 0)) (.cons (.loc 1) .nil)))) .nil))))
  .skip)
/-- _law_number(_law_source_here): 0 _law_source_here, 1 _law_number_here -/
def b_number : S := (.seq (.asg (.nm 1) (.ix (.lst (.cons (.call 3 (.cons (.loc 0) (.cons (.cst (.int 12)) .nil)) .nil) (.cons (.call 3 (.cons (.loc 0) (.cons (.bin .Pow (.cst (.int 10)) (.cst (.int 30))) .nil)) .nil) .nil))) (.b1 .int (.cmp .Eq (.call 3 (.cons (.loc 0) (.cons (.cst (.int 4)) .nil)) .nil) (.cst (.int 0))))))
  (.seq (.ret (.ix (.lst (.cons (.loc 1) (.cons (.bin .Sub (.cst (.int 0)) (.loc 1)) .nil))) (.call 3 (.cons (.loc 0) (.cons (.cst (.int 2)) .nil)) .nil)))
  .skip))
/-- _law_pick(_law_source_here, _law_some): 0 _law_source_here, 1 _law_some -/
def b_pick : S := (.seq (.ret (.ix (.loc 1) (.call 3 (.cons (.loc 0) (.cons (.b1 .len (.loc 1)) .nil)) .nil)))
  .skip)
/-- _law_word(_law_source_here): 0 _law_source_here, 1 _law_signs_here, 2 _law_turn -/
def b_word : S := (.seq (.asg (.nm 1) (.call 22 (.cons (.loc 0) (.cons (.lst (.cons (.cst (.str " a~")) (.cons (.cst (.str "ab")) (.cons (.call 27 .nil .nil) (.cons (.call 27 .nil .nil) .nil))))) .nil)) .nil))
  (.seq (.ret (.m1 .join (.cst (.str "")) (.lc (.call 22 (.cons (.loc 0) (.cons (.loc 1) .nil)) .nil) (.nm 2) (.rng (.cst (.int 0)) (.call 3 (.cons (.loc 0) (.cons (.cst (.int 7)) .nil)) .nil) (.cst (.int 1))) (.tru (.cst (.bl true))) [2])))
  .skip))
/-- is_span(thing): 0 thing, 1 high, 2 low, 3 bound -/
def b_is_span : S := (.seq (.if_ (.or_ (.not_ (.tru (.isi (.loc 0) [.b "tuple"]))) (.cmp .NotEq (.b1 .len (.loc 0)) (.cst (.int 2))))
  (.seq (.ret (.cst (.bl false)))
  .skip)
  .skip)
  (.seq (.asg (.cons (.nm 2) (.cons (.nm 1) .nil)) (.loc 0))
  (.seq (.if_ (.not_ (.tru (.b1 .all (.lc (.or_ (.isN false (.loc 3)) (.call 28 (.cons (.loc 3) .nil) .nil)) (.nm 3) (.wk (.loc 0)) (.tru (.cst (.bl true))) [3]))))
  (.seq (.ret (.cst (.bl false)))
  .skip)
  .skip)
  (.seq (.ret (.or_ (.isN false (.loc 2)) (.or_ (.isN false (.loc 1)) (.cmp .LtE (.loc 2) (.loc 1)))))
  .skip))))
/-- is_range(thing): 0 thing -/
def b_is_range : S := (.seq (.if_ (.or_ (.not_ (.tru (.isi (.loc 0) [.b "tuple"]))) (.or_ (.cmp .NotEq (.b1 .len (.loc 0)) (.cst (.int 2))) (.not_ (.tru (.call 29 (.cons (.ix (.loc 0) (.cst (.int 0))) .nil) .nil)))))
  (.seq (.ret (.cst (.bl false)))
  .skip)
  .skip)
  (.seq (.ret (.or_ (.isN false (.ix (.loc 0) (.cst (.int 1)))) (.and_ (.call 29 (.cons (.ix (.loc 0) (.cst (.int 1))) .nil) .nil) (.cmp .Lt (.ix (.loc 0) (.cst (.int 0))) (.ix (.loc 0) (.cst (.int 1)))))))
  .skip))
/-- joined_pairs(one, other, first): 0 one, 1 other, 2 first, 3 rests -/
def b_joined_pairs : S := (.seq (.asg (.nm 3) (.call 7 (.cons (.call 9 (.cons (.loc 0) (.cons (.loc 2) (.cons (.glb 0) .nil))) .nil) (.cons (.call 9 (.cons (.loc 1) (.cons (.loc 2) (.cons (.glb 0) .nil))) .nil) .nil)) .nil))
  (.seq (.ret (.call 9 (.cons (.loc 3) (.cons (.loc 2) (.cons (.glb 0) .nil))) .nil))
  .skip))
/-- _law_signs(): 0 #, 1 _law_letters -/
def b_signs : S := (.seq (.asg (.nm 1) (.cst (.str "abcdefghijklmnopqrstuvwxyz")))
  (.seq (.ret (.bin .Add (.bin .Add (.bin .Add (.bin .Add (.cst (.str " !#$&()*+,-/0123456789:;<=>?@\x5b]^_{|}~")) (.loc 1)) (.m0 .upper (.loc 1))) (.cst (.str ".'"))) (.cst (.str "\""))))
  .skip))
/-- is_integer(thing): 0 thing -/
def b_is_integer : S := (.seq (.ret (.and_ (.isi (.loc 0) [.b "int"]) (.not_ (.isi (.loc 0) [.b "bool"]))))
  .skip)
/-- is_text(thing): 0 thing, 1 sign -/
def b_is_text : S := (.seq (.ret (.and_ (.isi (.loc 0) [.b "str"]) (.b1 .all (.lc (.chn .LtE .LtE (.cst (.str " ")) (.loc 1) (.cst (.str "~"))) (.nm 1) (.wk (.loc 0)) (.tru (.cst (.bl true))) [1]))))
  .skip)
def fns0 : List Fn := [⟨1, 5, b_law⟩, ⟨2, 3, b_ScalarSet_and⟩, ⟨2, 2, b_ScalarSet_or⟩, ⟨2, 2, b_ScalarSet_xor⟩, ⟨2, 2, b_ScalarSet_sub⟩, ⟨1, 2, b_ScalarSet_invert⟩, ⟨1, 1, b_ScalarSet_bool⟩, ⟨2, 2, b_ScalarSet_le⟩, ⟨2, 2, b_ScalarSet_lt⟩, ⟨2, 2, b_ScalarSet_eq⟩, ⟨1, 1, b_ScalarSet_pieces⟩, ⟨1, 1, b_source⟩, ⟨1, 1, b_made⟩, ⟨1, 3, b_told⟩, ⟨2, 3, b_take⟩, ⟨2, 6, b_two_right⟩, ⟨3, 6, b_three_right⟩, ⟨5, 8, b_ScalarSet_init⟩, ⟨1, 3, b_ranges_of⟩, ⟨2, 9, b_met_pairs⟩, ⟨1, 3, b_spans_of⟩, ⟨3, 7, b_outside_pairs⟩, ⟨1, 3, b_span⟩, ⟨1, 4, b_range⟩, ⟨2, 3, b_mixed⟩]
def fns1 : List Fn := [⟨0, 1, b_everything⟩, ⟨2, 2, b_same⟩, ⟨1, 2, b_are_bools⟩, ⟨1, 2, b_are_spans⟩, ⟨1, 2, b_are_ranges⟩, ⟨2, 4, b_joined_all⟩, ⟨2, 2, b_cuts_of_span⟩, ⟨2, 2, b_cuts_of_range⟩, ⟨1, 2, b_number⟩, ⟨2, 2, b_pick⟩, ⟨1, 3, b_word⟩, ⟨1, 4, b_is_span⟩, ⟨1, 1, b_is_range⟩, ⟨3, 4, b_joined_pairs⟩, ⟨0, 2, b_signs⟩, ⟨1, 1, b_is_integer⟩, ⟨1, 2, b_is_text⟩]
def fns : List Fn := fns0 ++ fns1
def gls : List D := [(.tup [(.int 1)]), (.tup [(.int 0), (.str "")]), (.tup [(.int (-1))])]
def clss : List Cl := [⟨"ScalarSet", 17, [("__and__", 1), ("__bool__", 6), ("__eq__", 9), ("__invert__", 5), ("__le__", 7), ("__lt__", 8), ("__or__", 2), ("__sub__", 4), ("__xor__", 3), ("pieces", 10)], [], ["has_null", "bools", "numbers", "words"]⟩]
def excs : List Exc := [⟨"InvalidSet", ["name"], [1]⟩, ⟨"MeetError", [], []⟩]
def foss0 : List Fo := [⟨11, 1, [], [.w 0]⟩, ⟨12, 1, [], [.w 0]⟩, ⟨13, 1, [], [.w 0]⟩, ⟨14, 2, [], [.w 0, .w 1]⟩, ⟨15, 2, [], [.w 0, .w 1]⟩, ⟨16, 3, [], [.w 0, .w 1, .w 2]⟩, ⟨18, 1, [], [.w 0]⟩, ⟨19, 2, [], [.w 0, .w 1]⟩, ⟨20, 1, [], [.w 0]⟩, ⟨21, 3, [], [.w 0, .w 1, .w 2]⟩, ⟨22, 1, [], [.w 0]⟩, ⟨23, 1, [], [.w 0]⟩, ⟨24, 2, [], [.w 0, .w 1]⟩, ⟨25, 0, [], []⟩, ⟨26, 2, [], [.w 0, .w 1]⟩, ⟨27, 1, [], [.w 0]⟩, ⟨28, 1, [], [.w 0]⟩, ⟨29, 1, [], [.w 0]⟩, ⟨30, 2, [], [.w 0, .w 1]⟩, ⟨31, 2, [], [.w 0, .w 1]⟩, ⟨32, 2, [], [.w 0, .w 1]⟩, ⟨33, 1, [], [.w 0]⟩, ⟨34, 2, [], [.w 0, .w 1]⟩, ⟨35, 1, [], [.w 0]⟩, ⟨36, 1, [], [.w 0]⟩]
def foss1 : List Fo := [⟨37, 1, [], [.w 0]⟩, ⟨38, 3, [], [.w 0, .w 1, .w 2]⟩, ⟨39, 0, [], []⟩, ⟨40, 1, [], [.w 0]⟩, ⟨41, 1, [], [.w 0]⟩, ⟨0, 1, [], [.w 0]⟩]
def foss : List Fo := foss0 ++ foss1
def mfoss : List Fo := [⟨0, 4, ["null", "truths", "spans", "ranges"], [.w 0, .w 1, .w 2, .w 3]⟩, ⟨0, 0, [], [.d (.bl false), .d (.tup []), .d (.tup []), .d (.tup [])]⟩]
def pg : Pg := ⟨fns, gls, clss, excs, foss, mfoss, 2000⟩
def gnm : List Str := ["BEHIND_ALL", "FIRST_TEXT", "BEFORE_ALL"]
def fnm0 : List Str := ["law", "", "", "", "", "", "", "", "", "", "", "_law_source", "_law_made", "_law_told", "_law_take", "_law_two_right", "_law_three_right", "", "ranges_of", "met_pairs", "spans_of", "outside_pairs", "_law_span", "_law_range", "_law_mixed"]
def fnm1 : List Str := ["everything", "_law_same", "are_bools", "are_spans", "are_ranges", "joined_all", "cuts_of_span", "cuts_of_range", "_law_number", "_law_pick", "_law_word", "is_span", "is_range", "joined_pairs", "_law_signs", "is_integer", "is_text"]
def fnm : List Str := fnm0 ++ fnm1
def cnm : List Str := ["ScalarSet"]
def xnm : List Str := ["InvalidSet", "MeetError"]
def tb : Tb := ⟨gnm, fnm, cnm, xnm⟩
def ft_law : FT := ⟨("law", none), ⟨["_law_script", "_law_cell", "_law_source_here", "_law_turn", "_law_some"], "law", "law", defArgs (top 50), defBody (top 50), defScope (top 50)⟩, ["_law_script"], [], []⟩
def ft_ScalarSet_and : FT := ⟨("ScalarSet", some "__and__"), ⟨["self", "other", "truth"], "__and__", "ScalarSet.__and__", defArgs (sub (top 29) 1), defBody (sub (top 29) 1), defScope (sub (top 29) 1)⟩, ["self", "other"], [], []⟩
def ft_ScalarSet_or : FT := ⟨("ScalarSet", some "__or__"), ⟨["self", "other"], "__or__", "ScalarSet.__or__", defArgs (sub (top 29) 3), defBody (sub (top 29) 3), defScope (sub (top 29) 3)⟩, ["self", "other"], [], []⟩
def ft_ScalarSet_xor : FT := ⟨("ScalarSet", some "__xor__"), ⟨["self", "other"], "__xor__", "ScalarSet.__xor__", defArgs (sub (top 29) 5), defBody (sub (top 29) 5), defScope (sub (top 29) 5)⟩, ["self", "other"], [], []⟩
def ft_ScalarSet_sub : FT := ⟨("ScalarSet", some "__sub__"), ⟨["self", "other"], "__sub__", "ScalarSet.__sub__", defArgs (sub (top 29) 4), defBody (sub (top 29) 4), defScope (sub (top 29) 4)⟩, ["self", "other"], [], []⟩
def ft_ScalarSet_invert : FT := ⟨("ScalarSet", some "__invert__"), ⟨["self", "truth"], "__invert__", "ScalarSet.__invert__", defArgs (sub (top 29) 2), defBody (sub (top 29) 2), defScope (sub (top 29) 2)⟩, ["self"], [], []⟩
def ft_ScalarSet_bool : FT := ⟨("ScalarSet", some "__bool__"), ⟨["self"], "__bool__", "ScalarSet.__bool__", defArgs (sub (top 29) 6), defBody (sub (top 29) 6), defScope (sub (top 29) 6)⟩, ["self"], [], []⟩
def ft_ScalarSet_le : FT := ⟨("ScalarSet", some "__le__"), ⟨["self", "other"], "__le__", "ScalarSet.__le__", defArgs (sub (top 29) 7), defBody (sub (top 29) 7), defScope (sub (top 29) 7)⟩, ["self", "other"], [], []⟩
def ft_ScalarSet_lt : FT := ⟨("ScalarSet", some "__lt__"), ⟨["self", "other"], "__lt__", "ScalarSet.__lt__", defArgs (sub (top 29) 8), defBody (sub (top 29) 8), defScope (sub (top 29) 8)⟩, ["self", "other"], [], []⟩
def ft_ScalarSet_eq : FT := ⟨("ScalarSet", some "__eq__"), ⟨["self", "other"], "__eq__", "ScalarSet.__eq__", defArgs (sub (top 29) 9), defBody (sub (top 29) 9), defScope (sub (top 29) 9)⟩, ["self", "other"], [], []⟩
def ft_ScalarSet_pieces : FT := ⟨("ScalarSet", some "pieces"), ⟨["self"], "pieces", "ScalarSet.pieces", defArgs (sub (top 29) 11), defBody (sub (top 29) 11), defScope (sub (top 29) 11)⟩, ["self"], [], []⟩
def ft_source : FT := ⟨("_law_source", none), ⟨["_law_cell"], "_law_source", "_law_source", defArgs (top 33), defBody (top 33), defScope (top 33)⟩, ["_law_cell"], [], []⟩
def ft_made : FT := ⟨("_law_made", none), ⟨["_law_heard"], "_law_made", "_law_made", defArgs (top 42), defBody (top 42), defScope (top 42)⟩, ["_law_heard"], [], []⟩
def ft_told : FT := ⟨("_law_told", none), ⟨["_law_source_here", "_law_heard", "_law_turn"], "_law_told", "_law_told", defArgs (top 41), defBody (top 41), defScope (top 41)⟩, ["_law_source_here"], [], []⟩
def ft_take : FT := ⟨("_law_take", none), ⟨["_law_source_here", "_law_bound", "_law_drawn"], "_law_take", "_law_take", defArgs (top 34), defBody (top 34), defScope (top 34)⟩, ["_law_source_here", "_law_bound"], [], []⟩
def ft_two_right : FT := ⟨("_law_two_right", none), ⟨["_law_one", "_law_other", "_law_pairs", "_law_second", "_law_first", "_law_heard"], "_law_two_right", "_law_two_right", defArgs (top 48), defBody (top 48), defScope (top 48)⟩, ["_law_one", "_law_other"], [], []⟩
def ft_three_right : FT := ⟨("_law_three_right", none), ⟨["_law_one", "_law_other", "_law_third", "_law_pairs", "_law_second", "_law_first"], "_law_three_right", "_law_three_right", defArgs (top 49), defBody (top 49), defScope (top 49)⟩, ["_law_one", "_law_other", "_law_third"], [], []⟩
def ft_ScalarSet_init : FT := ⟨("ScalarSet", some "__init__"), ⟨["self", "null", "truths", "spans", "ranges", "truth", "high", "low"], "__init__", "ScalarSet.__init__", defArgs (sub (top 29) 0), defBody (sub (top 29) 0), defScope (sub (top 29) 0)⟩, ["self", "null", "truths", "spans", "ranges"], [], [("null", (.bl false)), ("truths", .adr (kwdAt ("ScalarSet", some "__init__") "truths")), ("spans", .adr (kwdAt ("ScalarSet", some "__init__") "spans")), ("ranges", .adr (kwdAt ("ScalarSet", some "__init__") "ranges"))]⟩
def ft_ranges_of : FT := ⟨("ranges_of", none), ⟨["pairs", "high", "low"], "ranges_of", "ranges_of", defArgs (top 19), defBody (top 19), defScope (top 19)⟩, ["pairs"], [], []⟩
def ft_met_pairs : FT := ⟨("met_pairs", none), ⟨["one", "other", "found", "high", "low", "end", "begin", "start", "stop"], "met_pairs", "met_pairs", defArgs (top 12), defBody (top 12), defScope (top 12)⟩, ["one", "other"], [], []⟩
def ft_spans_of : FT := ⟨("spans_of", none), ⟨["pairs", "high", "low"], "spans_of", "spans_of", defArgs (top 18), defBody (top 18), defScope (top 18)⟩, ["pairs"], [], []⟩
def ft_outside_pairs : FT := ⟨("outside_pairs", none), ⟨["pairs", "first", "last", "pair", "cut", "cuts", "at"], "outside_pairs", "outside_pairs", defArgs (top 13), defBody (top 13), defScope (top 13)⟩, ["pairs", "first", "last"], [], []⟩
def ft_span : FT := ⟨("_law_span", none), ⟨["_law_source_here", "_law_low", "_law_high"], "_law_span", "_law_span", defArgs (top 39), defBody (top 39), defScope (top 39)⟩, ["_law_source_here"], [], []⟩
def ft_range : FT := ⟨("_law_range", none), ⟨["_law_source_here", "_law_low", "_law_other", "_law_some"], "_law_range", "_law_range", defArgs (top 40), defBody (top 40), defScope (top 40)⟩, ["_law_source_here"], [], []⟩
def ft_mixed : FT := ⟨("_law_mixed", none), ⟨["_law_cell", "_law_draw", "_law_figure"], "_law_mixed", "_law_mixed", defArgs (top 32), defBody (top 32), defScope (top 32)⟩, ["_law_cell", "_law_draw"], [], []⟩
def ft_everything : FT := ⟨("everything", none), ⟨["#"], "everything", "everything", defArgs (top 30), defBody (top 30), defScope (top 30)⟩, [], [], []⟩
def ft_same : FT := ⟨("_law_same", none), ⟨["_law_one", "_law_other"], "_law_same", "_law_same", defArgs (top 47), defBody (top 47), defScope (top 47)⟩, ["_law_one", "_law_other"], [], []⟩
def ft_are_bools : FT := ⟨("are_bools", none), ⟨["thing", "entry"], "are_bools", "are_bools", defArgs (top 22), defBody (top 22), defScope (top 22)⟩, ["thing"], [], []⟩
def ft_are_spans : FT := ⟨("are_spans", none), ⟨["thing", "entry"], "are_spans", "are_spans", defArgs (top 23), defBody (top 23), defScope (top 23)⟩, ["thing"], [], []⟩
def ft_are_ranges : FT := ⟨("are_ranges", none), ⟨["thing", "entry"], "are_ranges", "are_ranges", defArgs (top 24), defBody (top 24), defScope (top 24)⟩, ["thing"], [], []⟩
def ft_joined_all : FT := ⟨("joined_all", none), ⟨["rows", "first", "found", "row"], "joined_all", "joined_all", defArgs (top 15), defBody (top 15), defScope (top 15)⟩, ["rows", "first"], [], []⟩
def ft_cuts_of_span : FT := ⟨("cuts_of_span", none), ⟨["low", "high"], "cuts_of_span", "cuts_of_span", defArgs (top 16), defBody (top 16), defScope (top 16)⟩, ["low", "high"], [], []⟩
def ft_cuts_of_range : FT := ⟨("cuts_of_range", none), ⟨["low", "high"], "cuts_of_range", "cuts_of_range", defArgs (top 17), defBody (top 17), defScope (top 17)⟩, ["low", "high"], [], []⟩
def ft_number : FT := ⟨("_law_number", none), ⟨["_law_source_here", "_law_number_here"], "_law_number", "_law_number", defArgs (top 38), defBody (top 38), defScope (top 38)⟩, ["_law_source_here"], [], []⟩
def ft_pick : FT := ⟨("_law_pick", none), ⟨["_law_source_here", "_law_some"], "_law_pick", "_law_pick", defArgs (top 35), defBody (top 35), defScope (top 35)⟩, ["_law_source_here", "_law_some"], [], []⟩
def ft_word : FT := ⟨("_law_word", none), ⟨["_law_source_here", "_law_signs_here", "_law_turn"], "_law_word", "_law_word", defArgs (top 37), defBody (top 37), defScope (top 37)⟩, ["_law_source_here"], [], []⟩
def ft_is_span : FT := ⟨("is_span", none), ⟨["thing", "high", "low", "bound"], "is_span", "is_span", defArgs (top 20), defBody (top 20), defScope (top 20)⟩, ["thing"], [], []⟩
def ft_is_range : FT := ⟨("is_range", none), ⟨["thing"], "is_range", "is_range", defArgs (top 21), defBody (top 21), defScope (top 21)⟩, ["thing"], [], []⟩
def ft_joined_pairs : FT := ⟨("joined_pairs", none), ⟨["one", "other", "first", "rests"], "joined_pairs", "joined_pairs", defArgs (top 14), defBody (top 14), defScope (top 14)⟩, ["one", "other", "first"], [], []⟩
def ft_signs : FT := ⟨("_law_signs", none), ⟨["#", "_law_letters"], "_law_signs", "_law_signs", defArgs (top 36), defBody (top 36), defScope (top 36)⟩, [], [], []⟩
def ft_is_integer : FT := ⟨("is_integer", none), ⟨["thing"], "is_integer", "is_integer", defArgs (top 9), defBody (top 9), defScope (top 9)⟩, ["thing"], [], []⟩
def ft_is_text : FT := ⟨("is_text", none), ⟨["thing", "sign"], "is_text", "is_text", defArgs (top 10), defBody (top 10), defScope (top 10)⟩, ["thing"], [], []⟩
def fts0 : List FT := [ft_law, ft_ScalarSet_and, ft_ScalarSet_or, ft_ScalarSet_xor, ft_ScalarSet_sub, ft_ScalarSet_invert, ft_ScalarSet_bool, ft_ScalarSet_le, ft_ScalarSet_lt, ft_ScalarSet_eq, ft_ScalarSet_pieces, ft_source, ft_made, ft_told, ft_take, ft_two_right, ft_three_right, ft_ScalarSet_init, ft_ranges_of, ft_met_pairs, ft_spans_of, ft_outside_pairs, ft_span, ft_range, ft_mixed]
def fts1 : List FT := [ft_everything, ft_same, ft_are_bools, ft_are_spans, ft_are_ranges, ft_joined_all, ft_cuts_of_span, ft_cuts_of_range, ft_number, ft_pick, ft_word, ft_is_span, ft_is_range, ft_joined_pairs, ft_signs, ft_is_integer, ft_is_text]
def fts : List FT := fts0 ++ fts1
def xts : List (Option XT) := [some ⟨⟨("InvalidSet", some "__init__"), ⟨["self", "name"], "__init__", "InvalidSet.__init__", defArgs (sub (top 2) 0), defBody (sub (top 2) 0), defScope (sub (top 2) 0)⟩, ["self", "name"], [], []⟩, "MeetError"⟩, none]
def more (K : PySem.W.Frag) : Bool := emptyTupB K (kwdAt ("ScalarSet", some "__init__") "truths" K) && emptyTupB K (kwdAt ("ScalarSet", some "__init__") "spans" K) && emptyTupB K (kwdAt ("ScalarSet", some "__init__") "ranges" K)
def tab : Tab := ⟨pg, tb, fts, xts, more⟩
def loose0 : List PySem.Str := ["__name__", "MeetError", "InvalidSet", "InvalidNumber", "MAX_FIRST", "BEFORE_ALL", "BEHIND_ALL", "FIRST_TEXT", "is_integer", "is_text", "is_scalar", "met_pairs", "outside_pairs", "joined_pairs", "joined_all", "cuts_of_span", "cuts_of_range", "spans_of", "ranges_of", "is_span", "is_range", "are_bools", "are_spans", "are_ranges", "texts_in"]
def loose1 : List PySem.Str := ["many_texts", "rank_of", "ranks_in", "ScalarSet", "everything", "_law_mixed", "_law_source", "_law_take", "_law_pick", "_law_signs", "_law_word", "_law_number", "_law_span", "_law_range", "_law_told", "_law_made", "_law_has", "_law_marks", "_law_as_told", "_law_are_pieces", "_law_same", "_law_two_right", "_law_three_right"]
def loose : List PySem.Str := loose0 ++ loose1
def lawIx : Nat := 50

theorem txt : txtB tab = true := by decide +kernel
theorem foall : tab.pg.fos.all (foB tab) = true := by decide +kernel
abbrev R : PySem.W.OpenRow := PySem.W.OpenLaw.row PySem.Challenge.rw_latermeet_k04_whole_algebra_of_sets
theorem run (w : World) : HandSHeadRun.RunEq R (PySem.W.view R.prog [lawIx]) (hookC 6 tab) (fun s => obsCG 6 tab (HandSHeadRun.getT s)) 4000 loose w := by
  intro os
  kernel_rfl
end K04
end
section
set_option Elab.async false
set_option linter.all false
set_option maxRecDepth 100000
set_option maxHeartbeats 1000000
/-! law_k04_whole_algebra_of_sets: rows for simp (printed by gen_law.py) -/
namespace K04
open PySem G
abbrev i_law : Nat := 0
theorem fn_law : pg.fns[0]? = some ⟨1, 5, b_law⟩ := rfl
abbrev i_ScalarSet_and : Nat := 1
theorem fn_ScalarSet_and : pg.fns[1]? = some ⟨2, 3, b_ScalarSet_and⟩ := rfl
abbrev i_ScalarSet_or : Nat := 2
theorem fn_ScalarSet_or : pg.fns[2]? = some ⟨2, 2, b_ScalarSet_or⟩ := rfl
abbrev i_ScalarSet_xor : Nat := 3
theorem fn_ScalarSet_xor : pg.fns[3]? = some ⟨2, 2, b_ScalarSet_xor⟩ := rfl
abbrev i_ScalarSet_sub : Nat := 4
theorem fn_ScalarSet_sub : pg.fns[4]? = some ⟨2, 2, b_ScalarSet_sub⟩ := rfl
abbrev i_ScalarSet_invert : Nat := 5
theorem fn_ScalarSet_invert : pg.fns[5]? = some ⟨1, 2, b_ScalarSet_invert⟩ := rfl
abbrev i_ScalarSet_bool : Nat := 6
theorem fn_ScalarSet_bool : pg.fns[6]? = some ⟨1, 1, b_ScalarSet_bool⟩ := rfl
abbrev i_ScalarSet_le : Nat := 7
theorem fn_ScalarSet_le : pg.fns[7]? = some ⟨2, 2, b_ScalarSet_le⟩ := rfl
abbrev i_ScalarSet_lt : Nat := 8
theorem fn_ScalarSet_lt : pg.fns[8]? = some ⟨2, 2, b_ScalarSet_lt⟩ := rfl
abbrev i_ScalarSet_eq : Nat := 9
theorem fn_ScalarSet_eq : pg.fns[9]? = some ⟨2, 2, b_ScalarSet_eq⟩ := rfl
abbrev i_ScalarSet_pieces : Nat := 10
theorem fn_ScalarSet_pieces : pg.fns[10]? = some ⟨1, 1, b_ScalarSet_pieces⟩ := rfl
abbrev i_source : Nat := 11
theorem fn_source : pg.fns[11]? = some ⟨1, 1, b_source⟩ := rfl
abbrev i_made : Nat := 12
theorem fn_made : pg.fns[12]? = some ⟨1, 1, b_made⟩ := rfl
abbrev i_told : Nat := 13
theorem fn_told : pg.fns[13]? = some ⟨1, 3, b_told⟩ := rfl
abbrev i_take : Nat := 14
theorem fn_take : pg.fns[14]? = some ⟨2, 3, b_take⟩ := rfl
abbrev i_two_right : Nat := 15
theorem fn_two_right : pg.fns[15]? = some ⟨2, 6, b_two_right⟩ := rfl
abbrev i_three_right : Nat := 16
theorem fn_three_right : pg.fns[16]? = some ⟨3, 6, b_three_right⟩ := rfl
abbrev i_ScalarSet_init : Nat := 17
theorem fn_ScalarSet_init : pg.fns[17]? = some ⟨5, 8, b_ScalarSet_init⟩ := rfl
abbrev i_ranges_of : Nat := 18
theorem fn_ranges_of : pg.fns[18]? = some ⟨1, 3, b_ranges_of⟩ := rfl
abbrev i_met_pairs : Nat := 19
theorem fn_met_pairs : pg.fns[19]? = some ⟨2, 9, b_met_pairs⟩ := rfl
abbrev i_spans_of : Nat := 20
theorem fn_spans_of : pg.fns[20]? = some ⟨1, 3, b_spans_of⟩ := rfl
abbrev i_outside_pairs : Nat := 21
theorem fn_outside_pairs : pg.fns[21]? = some ⟨3, 7, b_outside_pairs⟩ := rfl
abbrev i_span : Nat := 22
theorem fn_span : pg.fns[22]? = some ⟨1, 3, b_span⟩ := rfl
abbrev i_range : Nat := 23
theorem fn_range : pg.fns[23]? = some ⟨1, 4, b_range⟩ := rfl
abbrev i_mixed : Nat := 24
theorem fn_mixed : pg.fns[24]? = some ⟨2, 3, b_mixed⟩ := rfl
abbrev i_everything : Nat := 25
theorem fn_everything : pg.fns[25]? = some ⟨0, 1, b_everything⟩ := rfl
abbrev i_same : Nat := 26
theorem fn_same : pg.fns[26]? = some ⟨2, 2, b_same⟩ := rfl
abbrev i_are_bools : Nat := 27
theorem fn_are_bools : pg.fns[27]? = some ⟨1, 2, b_are_bools⟩ := rfl
abbrev i_are_spans : Nat := 28
theorem fn_are_spans : pg.fns[28]? = some ⟨1, 2, b_are_spans⟩ := rfl
abbrev i_are_ranges : Nat := 29
theorem fn_are_ranges : pg.fns[29]? = some ⟨1, 2, b_are_ranges⟩ := rfl
abbrev i_joined_all : Nat := 30
theorem fn_joined_all : pg.fns[30]? = some ⟨2, 4, b_joined_all⟩ := rfl
abbrev i_cuts_of_span : Nat := 31
theorem fn_cuts_of_span : pg.fns[31]? = some ⟨2, 2, b_cuts_of_span⟩ := rfl
abbrev i_cuts_of_range : Nat := 32
theorem fn_cuts_of_range : pg.fns[32]? = some ⟨2, 2, b_cuts_of_range⟩ := rfl
abbrev i_number : Nat := 33
theorem fn_number : pg.fns[33]? = some ⟨1, 2, b_number⟩ := rfl
abbrev i_pick : Nat := 34
theorem fn_pick : pg.fns[34]? = some ⟨2, 2, b_pick⟩ := rfl
abbrev i_word : Nat := 35
theorem fn_word : pg.fns[35]? = some ⟨1, 3, b_word⟩ := rfl
abbrev i_is_span : Nat := 36
theorem fn_is_span : pg.fns[36]? = some ⟨1, 4, b_is_span⟩ := rfl
abbrev i_is_range : Nat := 37
theorem fn_is_range : pg.fns[37]? = some ⟨1, 1, b_is_range⟩ := rfl
abbrev i_joined_pairs : Nat := 38
theorem fn_joined_pairs : pg.fns[38]? = some ⟨3, 4, b_joined_pairs⟩ := rfl
abbrev i_signs : Nat := 39
theorem fn_signs : pg.fns[39]? = some ⟨0, 2, b_signs⟩ := rfl
abbrev i_is_integer : Nat := 40
theorem fn_is_integer : pg.fns[40]? = some ⟨1, 1, b_is_integer⟩ := rfl
abbrev i_is_text : Nat := 41
theorem fn_is_text : pg.fns[41]? = some ⟨1, 2, b_is_text⟩ := rfl
@[simp] theorem fo_0 : pg.fos[0]? = some ⟨11, 1, [], [.w 0]⟩ := rfl
@[simp] theorem fo_1 : pg.fos[1]? = some ⟨12, 1, [], [.w 0]⟩ := rfl
@[simp] theorem fo_2 : pg.fos[2]? = some ⟨13, 1, [], [.w 0]⟩ := rfl
@[simp] theorem fo_3 : pg.fos[3]? = some ⟨14, 2, [], [.w 0, .w 1]⟩ := rfl
@[simp] theorem fo_4 : pg.fos[4]? = some ⟨15, 2, [], [.w 0, .w 1]⟩ := rfl
@[simp] theorem fo_5 : pg.fos[5]? = some ⟨16, 3, [], [.w 0, .w 1, .w 2]⟩ := rfl
@[simp] theorem fo_6 : pg.fos[6]? = some ⟨18, 1, [], [.w 0]⟩ := rfl
@[simp] theorem fo_7 : pg.fos[7]? = some ⟨19, 2, [], [.w 0, .w 1]⟩ := rfl
@[simp] theorem fo_8 : pg.fos[8]? = some ⟨20, 1, [], [.w 0]⟩ := rfl
@[simp] theorem fo_9 : pg.fos[9]? = some ⟨21, 3, [], [.w 0, .w 1, .w 2]⟩ := rfl
@[simp] theorem fo_10 : pg.fos[10]? = some ⟨22, 1, [], [.w 0]⟩ := rfl
@[simp] theorem fo_11 : pg.fos[11]? = some ⟨23, 1, [], [.w 0]⟩ := rfl
@[simp] theorem fo_12 : pg.fos[12]? = some ⟨24, 2, [], [.w 0, .w 1]⟩ := rfl
@[simp] theorem fo_13 : pg.fos[13]? = some ⟨25, 0, [], []⟩ := rfl
@[simp] theorem fo_14 : pg.fos[14]? = some ⟨26, 2, [], [.w 0, .w 1]⟩ := rfl
@[simp] theorem fo_15 : pg.fos[15]? = some ⟨27, 1, [], [.w 0]⟩ := rfl
@[simp] theorem fo_16 : pg.fos[16]? = some ⟨28, 1, [], [.w 0]⟩ := rfl
@[simp] theorem fo_17 : pg.fos[17]? = some ⟨29, 1, [], [.w 0]⟩ := rfl
@[simp] theorem fo_18 : pg.fos[18]? = some ⟨30, 2, [], [.w 0, .w 1]⟩ := rfl
@[simp] theorem fo_19 : pg.fos[19]? = some ⟨31, 2, [], [.w 0, .w 1]⟩ := rfl
@[simp] theorem fo_20 : pg.fos[20]? = some ⟨32, 2, [], [.w 0, .w 1]⟩ := rfl
@[simp] theorem fo_21 : pg.fos[21]? = some ⟨33, 1, [], [.w 0]⟩ := rfl
@[simp] theorem fo_22 : pg.fos[22]? = some ⟨34, 2, [], [.w 0, .w 1]⟩ := rfl
@[simp] theorem fo_23 : pg.fos[23]? = some ⟨35, 1, [], [.w 0]⟩ := rfl
@[simp] theorem fo_24 : pg.fos[24]? = some ⟨36, 1, [], [.w 0]⟩ := rfl
@[simp] theorem fo_25 : pg.fos[25]? = some ⟨37, 1, [], [.w 0]⟩ := rfl
@[simp] theorem fo_26 : pg.fos[26]? = some ⟨38, 3, [], [.w 0, .w 1, .w 2]⟩ := rfl
@[simp] theorem fo_27 : pg.fos[27]? = some ⟨39, 0, [], []⟩ := rfl
@[simp] theorem fo_28 : pg.fos[28]? = some ⟨40, 1, [], [.w 0]⟩ := rfl
@[simp] theorem fo_29 : pg.fos[29]? = some ⟨41, 1, [], [.w 0]⟩ := rfl
@[simp] theorem fo_30 : pg.fos[30]? = some ⟨0, 1, [], [.w 0]⟩ := rfl
@[simp] theorem mfo_0 : pg.mfos[0]? = some ⟨0, 4, ["null", "truths", "spans", "ranges"], [.w 0, .w 1, .w 2, .w 3]⟩ := rfl
@[simp] theorem mfo_1 : pg.mfos[1]? = some ⟨0, 0, [], [.d (.bl false), .d (.tup []), .d (.tup []), .d (.tup [])]⟩ := rfl
@[simp] theorem gl_0 : pg.gl[0]? = some (.tup [(.int 1)]) := rfl
@[simp] theorem gl_1 : pg.gl[1]? = some (.tup [(.int 0), (.str "")]) := rfl
@[simp] theorem gl_2 : pg.gl[2]? = some (.tup [(.int (-1))]) := rfl
@[simp] theorem me_0_and {call make} : (pg.par call make).meth 0 "__and__" = some 1 := rfl
@[simp] theorem me_0_bool {call make} : (pg.par call make).meth 0 "__bool__" = some 6 := rfl
@[simp] theorem me_0_eq {call make} : (pg.par call make).meth 0 "__eq__" = some 9 := rfl
@[simp] theorem me_0_invert {call make} : (pg.par call make).meth 0 "__invert__" = some 5 := rfl
@[simp] theorem me_0_le {call make} : (pg.par call make).meth 0 "__le__" = some 7 := rfl
@[simp] theorem me_0_lt {call make} : (pg.par call make).meth 0 "__lt__" = some 8 := rfl
@[simp] theorem me_0_or {call make} : (pg.par call make).meth 0 "__or__" = some 2 := rfl
@[simp] theorem me_0_sub {call make} : (pg.par call make).meth 0 "__sub__" = some 4 := rfl
@[simp] theorem me_0_xor {call make} : (pg.par call make).meth 0 "__xor__" = some 3 := rfl
@[simp] theorem me_0_pieces {call make} : (pg.par call make).meth 0 "pieces" = some 10 := rfl
@[simp] theorem fl_0_has_null {call make} : (pg.par call make).fld 0 "has_null" = true := by rfl
@[simp] theorem pr_0_has_null {call make} : (pg.par call make).prop 0 "has_null" = none := by rfl
@[simp] theorem fl_0_bools {call make} : (pg.par call make).fld 0 "bools" = true := by rfl
@[simp] theorem pr_0_bools {call make} : (pg.par call make).prop 0 "bools" = none := by rfl
@[simp] theorem fl_0_numbers {call make} : (pg.par call make).fld 0 "numbers" = true := by rfl
@[simp] theorem pr_0_numbers {call make} : (pg.par call make).prop 0 "numbers" = none := by rfl
@[simp] theorem fl_0_words {call make} : (pg.par call make).fld 0 "words" = true := by rfl
@[simp] theorem pr_0_words {call make} : (pg.par call make).prop 0 "words" = none := by rfl
@[simp] theorem io_0 {call make fs} : (pg.par call make).insOk (.ins 0 fs) = true := by rfl
@[simp] theorem ex_0 : pg.exc[0]? = some ⟨"InvalidSet", ["name"], [1]⟩ := rfl
@[simp] theorem ex_1 : pg.exc[1]? = some ⟨"MeetError", [], []⟩ := rfl
end K04
end
section
set_option Elab.async false
set_option linter.all false
set_option maxRecDepth 100000
set_option maxHeartbeats 1000000
namespace K04
open PySem G
open OS (Pr mem mx mn met met1 one out Can CanS)
/-! ### a source of draws -/
def mixF (c d : Int) : Int :=
  let f1 := ((c % 2147483646 + 1) * (d * 7919 + 104729)) % 2147483647
  let f2 := ((f1 + c / 2147483646 % 1000003 * (d + 31)) * 48271) % 2147483629
  let f3 := (f2 * (f2 / 1013 + 69621 + d)) % 2147483587
  (f3 * (f3 / 2003 + 40692)) % 2147483563
theorem small_mod {x k : Int} (h : 0 < k) (hk : k < 2 ^ 60) : small (x % k) = true := by
  unfold small
  have h1 := Int.emod_nonneg x (Int.ne_of_gt h)
  have h2 := Int.emod_lt_of_pos x h
  simp only [Bool.and_eq_true, decide_eq_true_eq]
  omega
theorem small_mod1 {x k : Int} (h : 0 < k) (hk : k < 2 ^ 60) : small (x % k + 1) = true := by
  unfold small
  have h1 := Int.emod_nonneg x (Int.ne_of_gt h)
  have h2 := Int.emod_lt_of_pos x h
  simp only [Bool.and_eq_true, decide_eq_true_eq]
  omega
theorem mixed_ok (n : Nat) (c d : Int) (m : Mu) : G.run pg (n + 1) i_mixed [.int c, .int d] m = .ok (.int (mixF c d)) m := by
  rw [run_eq fn_mixed rfl]
  have h1 : small (c % 2147483646 + 1) = true := small_mod1 (by decide) (by decide)
  have h2 : ∀ x, small (x % 1000003) = true := fun x => small_mod (by decide) (by decide)
  have h3 : ∀ x, small (x % 2147483629) = true := fun x => small_mod (by decide) (by decide)
  have h4 : ∀ x, small (x % 2147483587) = true := fun x => small_mod (by decide) (by decide)
  have h5 : small 7919 = true := by decide
  have h6 : small 48271 = true := by decide
  have w1 : (2147483646 : Int) < wideI := by decide
  have w2 : (1013 : Int) < wideI := by decide
  have w3 : (2003 : Int) < wideI := by decide
  simp [b_mixed, ini, h1, h2, h3, h4, h5, h6, w1, w2, w3, mixF]
theorem get_len {α : Type} {l : List α} {k : Nat} {x : α} (h : l[k]? = some x) : k < l.length := (List.getElem?_eq_some_iff.mp h).1
/-- a source lies at k -/
def Src (m : Mu) (k : Nat) : Prop := ∃ a c d : Int, m[k]? = some (.lst [.int a, .int c, .int d])
theorem src_set {m : Mu} {k : Nat} {a c d : Int} (h : k < m.length) : Src (m.set k (.lst [.int a, .int c, .int d])) k := ⟨a, c, d, by simp [h]⟩
theorem take_ok (n : Nat) {k : Nat} {m : Mu} {b : Int} (h : Src m k) (hb : 0 < b) (hw : b < wideI) : ∃ v m', G.run pg (n + 2) i_take [.cel k, .int b] m = .ok (.int v) m' ∧ 0 ≤ v ∧ v < b ∧ Src m' k := by
  obtain ⟨a, c, d, h⟩ := h
  have hl := get_len h
  have hwr : ∀ i x e, wrO (.loc i) (.cel k) x e m = some (e, m.set k x) := fun i x e => wr_cel hl
  have hrd : ∀ x, (m.set k x)[k]? = some x := fun x => by simp [hl]
  rw [run_eq fn_take rfl]
  by_cases ha : 0 < a
  · refine ⟨a % b, m.set k (.lst [.int (a / b), .int c, .int d]), ?_, Int.emod_nonneg _ (Int.ne_of_gt hb), Int.emod_lt_of_pos _ hb, src_set hl⟩
    simp [b_take, ini, h, hb, hw, ha, hwr, hrd, atD, L2.atI, L2.ixN]
  · refine ⟨mixF c (d + 1) % b, m.set k (.lst [.int a, .int c, .int (d + 1)]), ?_, Int.emod_nonneg _ (Int.ne_of_gt hb), Int.emod_lt_of_pos _ hb, src_set hl⟩
    simp [b_take, ini, h, hb, hw, ha, hwr, hrd, atD, L2.atI, L2.ixN, arrK, arrN, arr, mixed_ok]
/-! picks -/
theorem atI_mem {α : Type} {l : List α} {i : Int} (h0 : 0 ≤ i) (h1 : i < l.length) : ∃ x, L2.atI l i = some x ∧ x ∈ l := by
  have h : i.toNat < l.length := by omega
  refine ⟨l[i.toNat], ?_, List.getElem_mem h⟩
  unfold L2.atI L2.ixN
  rw [if_pos h0, if_pos h1]
  simp [h]
theorem pick_ok (n : Nat) {k : Nat} {m : Mu} {ds : List D} (h : Src m k) (h0 : 0 < ds.length) (h1 : ds.length < 1000) : ∃ d m', G.run pg (n + 3) i_pick [.cel k, .lst ds] m = .ok d m' ∧ d ∈ ds ∧ Src m' k := by
  obtain ⟨v, m1, e1, v0, v1, hs⟩ := take_ok n (b := ds.length) h (by omega) (by unfold wideI; omega)
  obtain ⟨d, e2, hd⟩ := atI_mem v0 v1
  refine ⟨d, m1, ?_, hd, hs⟩
  rw [run_eq fn_pick rfl]
  simp [b_pick, ini, e1, atD, e2, arrK, arrN, arr]
theorem picks_ok (n : Nat) {k : Nat} {m : Mu} {z : Str} (h : Src m k) (h0 : 0 < z.cps.toList.length) (h1 : z.cps.toList.length < 1000) : ∃ c m', G.run pg (n + 3) i_pick [.cel k, .str z] m = .ok (.str ⟨#[c]⟩) m' ∧ c ∈ z.cps.toList ∧ Src m' k := by
  have hz : z.length = z.cps.toList.length := by simp [Str.length]
  obtain ⟨v, m1, e1, v0, v1, hs⟩ := take_ok n (b := z.length) h (by omega) (by unfold wideI; omega)
  rw [hz] at v1
  obtain ⟨d, e2, hd⟩ := atI_mem v0 v1
  refine ⟨d, m1, ?_, hd, hs⟩
  have hz2 : z.length ≤ sizeL := by unfold sizeL; omega
  rw [run_eq fn_pick rfl]
  simp [b_pick, ini, e1, ixD, e2, arrK, arrN, arr, hz2]
/-! words -/
def signsS : Str := " !#$&()*+,-/0123456789:;<=>?@\x5b]^_{|}~abcdefghijklmnopqrstuvwxyzABCDEFGHIJKLMNOPQRSTUVWXYZ.'\""
theorem signs_ok (n : Nat) (m : Mu) : G.run pg (n + 1) i_signs [] m = .ok (.str signsS) m := by
  rw [run_eq fn_signs rfl]
  kernel_rfl
def sgB (c : Nat) : Bool := decide (32 ≤ c) && decide (c ≤ 126)
/-- a text of signs -/
def Sg (z : Str) : Prop := z.cps.toList.all sgB = true
instance (z : Str) : Decidable (Sg z) := by unfold Sg; infer_instance

theorem join_cons (a : Str) (r : List Str) : (Str.join "" (a :: r)).cps.toList = a.cps.toList ++ (Str.join "" r).cps.toList := by
  cases r with
  | nil => simp [Str.join, Str.empty]
  | cons b r =>
    show ((a.cps ++ (Str.ofString "").cps) ++ (Str.join "" (b :: r)).cps).toList = _
    have h : (Str.ofString "").cps = #[] := by decide +kernel
    simp [h]
theorem join_one (cs : List Nat) : Txt.join "" (cs.map fun c => ⟨#[c]⟩) = ⟨cs.toArray⟩ := by
  unfold Txt.join
  rw [StrLaws.glued_eq_join]
  have h : (Str.join "" (cs.map fun c => (⟨#[c]⟩ : Str))).cps.toList = cs := by
    induction cs with
    | nil => rfl
    | cons c cs ih => rw [List.map_cons, join_cons, ih]; rfl
  generalize Str.join "" (cs.map fun c => (⟨#[c]⟩ : Str)) = q at h
  cases q
  simp only [Str.mk.injEq]
  rw [← h]
theorem toStrs_one : ∀ cs : List Nat, toStrs (cs.map fun c => D.str ⟨#[c]⟩) = some (cs.map fun c => ⟨#[c]⟩)
  | [] => rfl
  | c :: cs => by simp [toStrs, toStrs_one cs]
theorem len_one (cs : List Nat) : ((cs.map fun c => (⟨#[c]⟩ : Str)).map (·.length)).sum = cs.length := by
  induction cs with
  | nil => rfl
  | cons c cs ih => simp [Str.length] at ih ⊢; omega
theorem word_ok (n : Nat) {k : Nat} {m : Mu} (h : Src m k) : ∃ w m', G.run pg (n + 4) i_word [.cel k] m = .ok (.str w) m' ∧ Sg w ∧ w.length ≤ 10 ∧ Src m' k := by
  obtain ⟨d, m1, e1, hd, h1⟩ := pick_ok n (ds := [.str " a~", .str "ab", .str signsS, .str signsS]) h (by simp) (by simp)
  obtain ⟨z, rfl, z1, z2, z3⟩ : ∃ z, d = .str z ∧ Sg z ∧ 0 < z.cps.toList.length ∧ z.cps.toList.length < 1000 := by
    simp only [List.mem_cons, List.not_mem_nil, or_false] at hd
    rcases hd with rfl | rfl | rfl | rfl <;> exact ⟨_, rfl, by decide +kernel, by decide +kernel, by decide +kernel⟩
  obtain ⟨v, m2, e2, v0, v1, h2⟩ := take_ok (n + 1) (b := 7) h1 (by decide) (by decide)
  rw [run_eq fn_word rfl]
  have hv1 : -(2 ^ 61) < v := by omega
  have hv2 : v < 2 ^ 61 := by omega
  obtain ⟨acc, e', m', q, he, hs, hl, cs, hc, hsg⟩ := foldR_inv (N := v.toNat) (f := lcTurn (pg.par (G.run pg (n + 3)) (mk pg (n + 3))) (.call 22 (.cons (.loc 0) (.cons (.loc 1) .nil)) .nil) (.nm 2) (.tru (.cst (.bl true))) [2]) (fun i acc e m => e = [.val (.cel k), .val (.str z), .no] ∧ Src m k ∧ acc.length = i ∧ ∃ cs : List Nat, acc = cs.map (fun c => D.str ⟨#[c]⟩) ∧ cs.all sgB = true) (rInts 0 v.toNat 1) 0 (by simp [rInts])
    (fun i d acc e m hd hi ⟨he, hs, hl, cs, hc, hsg⟩ => by
      obtain ⟨c, m', q, hc', hs'⟩ := picks_ok n hs z2 z3
      refine ⟨acc ++ [.str ⟨#[c]⟩], [.val (.cel k), .val (.str z), .no], m', ?_, rfl, hs', by simp [hl], cs ++ [c], by simp [hc], by simp [hsg]; exact List.all_eq_true.mp z1 c hc'⟩
      subst he
      have hq : acc.length < sizeL := by unfold sizeL; omega
      simp [lcTurn, q, pushR, hq, wipeE, arrK, arrN, arr])
    [] [.val (.cel k), .val (.str z), .no] m2 ⟨rfl, h2, rfl, [], rfl, rfl⟩
  refine ⟨⟨cs.toArray⟩, m', ?_, by simpa [Sg] using hsg, ?_, hs⟩
  · have hcl : cs.length = v.toNat := by rw [← hl, hc, List.length_map]
    have h16 : cs.length ≤ 16777216 := by omega
    subst hc he
    have hr : rangeD 0 v 1 = some (rInts 0 v.toNat 1) := by rw [range1 (by decide) (by decide) hv1 hv2]; simp
    have hs4 : 4 ≤ sizeL := by decide
    have he0 : (Str.ofString "").length = 0 := by decide +kernel
    have hln := len_one cs
    simp only [List.map_map, Function.comp_def] at hln
    simp [b_word, ini, e1, e2, arrK, arrN, arr, signs_ok, hr, q, hs4, toStrs_one, join_one, Function.comp_def, hln, h16, he0]
  · have hcl : cs.length = v.toNat := by rw [← hl, hc, List.length_map]
    show cs.toArray.size ≤ 10
    simp
    omega
/-! scalars -/
theorem pow30 : binD .Pow (.int 10) (.int 30) = some (.int 1000000000000000000000000000000) := by kernel_rfl
theorem number_ok (n : Nat) {k : Nat} {m : Mu} (h : Src m k) : ∃ v m', G.run pg (n + 3) i_number [.cel k] m = .ok (.int v) m' ∧ -1000000000000000000000000000000 < v ∧ v < 1000000000000000000000000000000 ∧ Src m' k := by
  obtain ⟨v1, m1, e1, a1, b1, h1⟩ := take_ok n (b := 12) h (by decide) (by decide)
  obtain ⟨v2, m2, e2, a2, b2, h2⟩ := take_ok n (b := 1000000000000000000000000000000) h1 (by decide) (by decide)
  obtain ⟨v3, m3, e3, a3, b3, h3⟩ := take_ok n (b := 4) h2 (by decide) (by decide)
  obtain ⟨v4, m4, e4, a4, b4, h4⟩ := take_ok n (b := 2) h3 (by decide) (by decide)
  have hs2 : 2 ≤ sizeL := by decide
  have hv4 : v4 = 0 ∨ v4 = 1 := by omega
  refine ⟨if v4 = 0 then (if v3 == 0 then v2 else v1) else 0 - (if v3 == 0 then v2 else v1), m4, ?_, ?_, ?_, h4⟩
  · rw [run_eq fn_number rfl]
    rcases hv4 with rfl | rfl <;> cases hb : (v3 == 0) <;> simp [b_number, ini, arrK, arrN, arr, e1, e2, e3, e4, pow30, hs2, hb, atD, L2.atI, L2.ixN]
  · rcases hv4 with rfl | rfl <;> cases hb : (v3 == 0) <;> simp <;> omega
  · rcases hv4 with rfl | rfl <;> cases hb : (v3 == 0) <;> simp <;> omega
/-! sets of cuts -/
section
variable {α : Type} {K : Cod α}
theorem met_ok (n : Nat) {d0 d1 : D} {p q : Pr (Cut α)} {m : Mu} (hp : itemsOf d0 = some (encL K p)) (hq : itemsOf d1 = some (encL K q)) (hl : (p.length + 1) * (q.length + 1) < 90000) : G.run pg (n + 1) i_met_pairs [d0, d1] m = .ok (.lst (encL K (met K.O p q))) m := by
  rw [run_eq fn_met_pairs rfl]
  exact met_body hp hq hl
theorem out_ok (n : Nat) {d0 : D} {p : Pr (Cut α)} {first last : Cut α} {m : Mu} (hp : itemsOf d0 = some (encL K p)) (hl : p.length < 10000) : G.run pg (n + 1) i_outside_pairs [d0, enc K first, enc K last] m = .ok (.lst (encL K (out K.O last first p))) m := by
  rw [run_eq fn_outside_pairs rfl]
  exact out_body hp hl
theorem joined_ok (n : Nat) {d0 d1 : D} {p q : Pr (Cut α)} {first : Cut α} {m : Mu} (hp : itemsOf d0 = some (encL K p)) (hq : itemsOf d1 = some (encL K q)) (lp : p.length < 60) (lq : q.length < 60) : G.run pg (n + 2) i_joined_pairs [d0, d1, enc K first] m = .ok (.lst (encL K (joinP K first p q))) m := by
  have o1 := out_ok n (K := K) (first := first) (last := .top) (m := m) hp (by omega)
  have o2 := out_ok n (K := K) (first := first) (last := .top) (m := m) hq (by omega)
  have l1 := out_len (K := K) (last := .top) (p := p) (cur := first)
  have l2 := out_len (K := K) (last := .top) (p := q) (cur := first)
  have l3 := met_len (K := K) (p := out K.O .top first p) (q := out K.O .top first q)
  have l4 : (out K.O .top first p).length * (out K.O .top first q).length ≤ 60 * 60 := Nat.mul_le_mul (by omega) (by omega)
  have l5 : ((out K.O .top first p).length + 1) * ((out K.O .top first q).length + 1) ≤ 61 * 61 := Nat.mul_le_mul (by omega) (by omega)
  have o3 := met_ok n (K := K) (p := out K.O .top first p) (q := out K.O .top first q) (m := m) (items_lst) (items_lst) (by omega)
  have o4 := out_ok n (K := K) (p := met K.O (out K.O .top first p) (out K.O .top first q)) (first := first) (last := .top) (m := m) (items_lst) (by omega)
  change G.run pg (n + 1) i_outside_pairs [d0, enc K first, .tup [.int 1]] m = _ at o1
  change G.run pg (n + 1) i_outside_pairs [d1, enc K first, .tup [.int 1]] m = _ at o2
  change G.run pg (n + 1) i_outside_pairs [_, enc K first, .tup [.int 1]] m = _ at o4
  rw [run_eq fn_joined_pairs rfl]
  simp [b_joined_pairs, ini, arrK, arrN, arr, o1, o2, o3, o4, joinP]
theorem all_loop [DecidableEq α] (n : Nat) {d0 : D} {first : Cut α} {S : List (Cut α)} {m : Mu} (hS : S.length < 100) (s1 : first ∈ S) (s2 : .top ∈ S) : ∀ (rows acc : Pr (Cut α)) (x3 : EV), Can K.O first .top acc → (∀ r ∈ rows, RowOk K first r) → (∀ a ∈ OS.cuts acc, a ∈ S) → (∀ a ∈ OS.cuts rows, a ∈ S) →
    ∃ y3, forL (G.forTurn (pg.par (G.run pg (n + 2)) (G.mk pg (n + 2))) (.nm 3) (.seq (.asg (.nm 2) (.call 26 (.cons (.loc 2) (.cons (.lst (.cons (.loc 3) .nil)) (.cons (.loc 1) .nil))) .nil)) .skip)) (encL K rows) [.val d0, .val (enc K first), .val (.lst (encL K acc)), x3] m =
      .nx [.val d0, .val (enc K first), .val (.lst (encL K (joinAll K first acc rows))), y3] m
  | [], acc, x3, _, _, _, _ => ⟨x3, rfl⟩
  | r :: rows, acc, x3, hc, hr, ha, hw => by
    have l1 := OS.can_len hc ha
    have hrow := can_row (hr r (List.mem_cons_self ..))
    have j := joined_ok n (K := K) (d0 := .lst (encL K acc)) (d1 := .lst [encP K r]) (p := acc) (q := [r]) (first := first) (m := m) items_lst items_lst (by omega) (by simp)
    have hc2 := can_join hc hrow
    have hrw : ∀ a ∈ OS.cuts [r], a ∈ S := fun a h => hw a (by
      have z : a ∈ [r.1, r.2] := by simpa [OS.cuts] using h
      show a ∈ r.1 :: r.2 :: OS.cuts rows
      rcases List.mem_cons.mp z with y | y
      · rw [y]; exact List.mem_cons_self ..
      · rw [List.mem_singleton.mp y]; exact List.mem_cons_of_mem _ (List.mem_cons_self ..))
    have hj : ∀ a ∈ OS.cuts (joinP K first acc [r]), a ∈ S := fun a h => by
      rcases cuts_join h with z | z | z | z
      · rw [z]; exact s1
      · rw [z]; exact s2
      · exact ha a z
      · exact hrw a z
    obtain ⟨y3, e⟩ := all_loop n (d0 := d0) (m := m) hS s1 s2 rows (joinP K first acc [r]) (.val (encP K r)) hc2 (fun r h => hr r (List.mem_cons_of_mem _ h)) hj (fun a h => hw a (List.mem_cons_of_mem _ (List.mem_cons_of_mem _ h)))
    refine ⟨y3, ?_⟩
    show forL _ (encP K r :: encL K rows) _ _ = _
    have hs1 : 1 ≤ sizeL := by decide
    have turn : G.forTurn (pg.par (G.run pg (n + 2)) (G.mk pg (n + 2))) (.nm 3) (.seq (.asg (.nm 2) (.call 26 (.cons (.loc 2) (.cons (.lst (.cons (.loc 3) .nil)) (.cons (.loc 1) .nil))) .nil)) .skip) (encP K r) [.val d0, .val (enc K first), .val (.lst (encL K acc)), x3] m = .nx [.val d0, .val (enc K first), .val (.lst (encL K (joinP K first acc [r]))), .val (encP K r)] m := by
      simp [G.forTurn, arrK, arrN, arr, j, hs1]
    rw [forL_cons, turn]
    exact e
theorem joined_all_ok [DecidableEq α] (n : Nat) {d0 : D} {rows : Pr (Cut α)} {first : Cut α} {S : List (Cut α)} {m : Mu} (hp : itemsOf d0 = some (encL K rows)) (hS : S.length < 100) (s1 : first ∈ S) (s2 : .top ∈ S) (hr : ∀ r ∈ rows, RowOk K first r) (hw : ∀ a ∈ OS.cuts rows, a ∈ S) :
    G.run pg (n + 3) i_joined_all [d0, enc K first] m = .ok (.lst (encL K (joinAll K first [] rows))) m := by
  obtain ⟨y3, e⟩ := all_loop n (K := K) (d0 := d0) (m := m) hS s1 s2 rows [] .no trivial hr (fun a h => (nomatch h)) hw
  have hs0 : 0 ≤ sizeL := Nat.zero_le _
  have e0 : encL K ([] : Pr (Cut α)) = [] := rfl
  rw [e0] at e
  rw [run_eq fn_joined_all rfl]
  simp [b_joined_all, ini, hp, hs0, e]
end
theorem cuts_of_span_ok (n : Nat) (low high : Option Int) (m : Mu) : G.run pg (n + 1) i_cuts_of_span [oI low, oI high] m = .ok (encP codI (spanC low high)) m := by
  have hs2 : 2 ≤ sizeL := by decide
  rw [run_eq fn_cuts_of_span rfl]
  cases low <;> cases high <;> simp [b_cuts_of_span, ini, oI, hs2, encP, spanC, enc, codI]
theorem spans_of_ok (n : Nat) {d0 : D} {p : Pr (Cut Int)} {m : Mu} (hp : itemsOf d0 = some (encL codI p)) (hl : p.length < 1000) (h1 : ∀ r ∈ p, r.1 ≠ .top ∧ r.2 ≠ .bot) : G.run pg (n + 1) i_spans_of [d0] m = .ok (.lst (p.map spanD)) m := by
  have hs2 : 2 ≤ sizeL := by decide
  have f1 := foldR_mapA (f := lcTurn (pg.par (G.run pg n) (G.mk pg n)) (.tup (.cons (.ite (.cmp .NotEq (.loc 2) (.glb 2)) (.ix (.loc 2) (.cst (.int 1))) (.cst .non)) (.cons (.ite (.cmp .NotEq (.loc 1) (.glb 0)) (.bin .Sub (.ix (.loc 1) (.cst (.int 1))) (.cst (.int 1))) (.cst .non)) .nil))) (.cons (.nm 2) (.cons (.nm 1) .nil)) (.tru (.cst (.bl true))) [2, 1]) (u := encP codI) (g := spanD) (e := [.val d0, .no, .no]) (m := m) p [] (by simp [sizeL]; omega) (fun r acc hr ha => by
    obtain ⟨q1, q2⟩ := h1 r hr
    obtain ⟨a, b⟩ := r
    cases a <;> cases b <;> first | exact absurd rfl q1 | exact absurd rfl q2 | skip
    all_goals simp [lcTurn, encP, enc, codI, G.plain, plainL, eqD, eqL, hs2, pushR, ha, spanD, lowI, highI, atD, L2.atI, L2.ixN])
  rw [run_eq fn_spans_of rfl]
  rw [List.nil_append] at f1
  show (evS _ _ [.val d0, .no, .no] m).fin = _
  unfold b_spans_of encL at *
  simp [hp, f1]
theorem cuts_of_range_ok (n : Nat) (low : Txs) (high : Option Txs) (m : Mu) : G.run pg (n + 1) i_cuts_of_range [.str low.1, oT high] m = .ok (encP codS (rangeC low high)) m := by
  have hs2 : 2 ≤ sizeL := by decide
  rw [run_eq fn_cuts_of_range rfl]
  cases high <;> simp [b_cuts_of_range, ini, oT, hs2, encP, rangeC, enc, codS]
theorem ranges_of_ok (n : Nat) {d0 : D} {p : Pr (Cut Txs)} {m : Mu} (hp : itemsOf d0 = some (encL codS p)) (hl : p.length < 1000) (h1 : ∀ r ∈ p, (∃ z, r.1 = .at_ z) ∧ r.2 ≠ .bot) : G.run pg (n + 1) i_ranges_of [d0] m = .ok (.lst (p.map rangeDt)) m := by
  have hs2 : 2 ≤ sizeL := by decide
  have f1 := foldR_mapA (f := lcTurn (pg.par (G.run pg n) (G.mk pg n)) (.tup (.cons (.ix (.loc 2) (.cst (.int 1))) (.cons (.ite (.cmp .NotEq (.loc 1) (.glb 0)) (.ix (.loc 1) (.cst (.int 1))) (.cst .non)) .nil))) (.cons (.nm 2) (.cons (.nm 1) .nil)) (.tru (.cst (.bl true))) [2, 1]) (u := encP codS) (g := rangeDt) (e := [.val d0, .no, .no]) (m := m) p [] (by simp [sizeL]; omega) (fun r acc hr ha => by
    obtain ⟨⟨z, q1⟩, q2⟩ := h1 r hr
    obtain ⟨a, b⟩ := r
    have q1 : a = .at_ z := q1
    subst q1
    cases b with
    | bot => exact absurd rfl q2
    | at_ y =>
      have hy := y.2
      simp [lcTurn, encP, enc, codS, G.plain, plainL, eqD, eqL, hs2, pushR, ha, rangeDt, lowS, atD, L2.atI, L2.ixN, hy]
    | top => simp [lcTurn, encP, enc, codS, G.plain, plainL, eqD, eqL, hs2, pushR, ha, rangeDt, lowS, atD, L2.atI, L2.ixN])
  rw [run_eq fn_ranges_of rfl]
  rw [List.nil_append] at f1
  show (evS _ _ [.val d0, .no, .no] m).fin = _
  unfold b_ranges_of encL at *
  simp [hp, f1]
theorem is_int_ok (n : Nat) (i : Int) (m : Mu) : G.run pg (n + 1) i_is_integer [.int i] m = .ok (.bl true) m := by
  rw [run_eq fn_is_integer rfl]
  simp [b_is_integer, ini]
def SpanOk (low high : Option Int) : Prop := match low, high with
  | some l, some h => l ≤ h
  | _, _ => True
theorem is_span_ok (n : Nat) (low high : Option Int) (m : Mu) (h : SpanOk low high) : G.run pg (n + 2) i_is_span [.tup [oI low, oI high]] m = .ok (.bl true) m := by
  have h0 : 0 < sizeL := by decide
  have h1 : 1 < sizeL := by decide
  have q := fun i => is_int_ok n i m
  rw [run_eq fn_is_span rfl]
  have p0 : ∀ x, G.plain (.int x) 60 = true := fun x => rfl
  have e0 : ∀ x y : Int, eqD (.int x) (.int y) = some (x == y) := fun _ _ => rfl
  cases low <;> cases high
  case some.some l k =>
    have h : l ≤ k := h
    simp [b_is_span, ini, oI, foldR_nil, foldR_cons, lcTurn, pushR, h0, h1, q, arrK, arrN, arr, p0, e0, toBls, h]
  all_goals simp [b_is_span, ini, oI, foldR_nil, foldR_cons, lcTurn, pushR, h0, h1, q, arrK, arrN, arr, p0, e0, toBls]
theorem toBls_map {β : Type} (cs : List β) (g : β → Bool) : toBls (cs.map fun c => .bl (g c)) = some (cs.map g) := by
  induction cs with
  | nil => rfl
  | cons c cs ih => simp [toBls, ih]
theorem all_true {β : Type} (cs : List β) : (cs.map fun _ => true).all (fun b => b) = true := by
  induction cs with
  | nil => rfl
  | cons c cs ih => simpa using ih
def spD (r : Option Int × Option Int) : D := .tup [oI r.1, oI r.2]
theorem are_spans_ok (n : Nat) {d0 : D} {rows : List (Option Int × Option Int)} (m : Mu) (hd : d0 = .lst (rows.map spD) ∨ d0 = .tup (rows.map spD)) (hl : rows.length < 1000) (h : ∀ r ∈ rows, SpanOk r.1 r.2) : G.run pg (n + 3) i_are_spans [d0] m = .ok (.bl true) m := by
  have f1 := foldR_mapA (f := lcTurn (pg.par (G.run pg (n + 2)) (G.mk pg (n + 2))) (.call 24 (.cons (.loc 1) .nil) .nil) (.nm 1) (.tru (.cst (.bl true))) [1]) (u := spD) (g := fun _ => .bl true) (e := [.val d0, .no]) (m := m) rows [] (by simp [sizeL]; omega) (fun r acc hr ha => by
    have q := is_span_ok n r.1 r.2 m (h r hr)
    simp [lcTurn, spD, arrK, arrN, arr, q, pushR, ha])
  have hb := toBls_map rows fun _ => true
  have hall := all_true rows
  rw [run_eq fn_are_spans rfl]
  rw [List.nil_append] at f1
  show (evS _ _ [.val d0, .no] m).fin = _
  unfold b_are_spans
  rcases hd with rfl | rfl <;> simp [f1, hb, hall]
theorem are_bools_ok (n : Nat) {d0 : D} {bs : List Bool} (m : Mu) (hd : d0 = .lst (bs.map .bl) ∨ d0 = .tup (bs.map .bl)) (hl : bs.length < 1000) : G.run pg (n + 1) i_are_bools [d0] m = .ok (.bl true) m := by
  have f1 := foldR_mapA (f := lcTurn (pg.par (G.run pg n) (G.mk pg n)) (.isi (.loc 1) [.b "bool"]) (.nm 1) (.tru (.cst (.bl true))) [1]) (u := D.bl) (g := fun _ => .bl true) (e := [.val d0, .no]) (m := m) bs [] (by simp [sizeL]; omega) (fun r acc hr ha => by
    simp [lcTurn, pushR, ha])
  have hb := toBls_map bs fun _ => true
  have hall := all_true bs
  rw [run_eq fn_are_bools rfl]
  rw [List.nil_append] at f1
  show (evS _ _ [.val d0, .no] m).fin = _
  unfold b_are_bools
  rcases hd with rfl | rfl <;> simp [f1, hb, hall]
theorem dle1 (a b : Nat) : decide ([a] ≤ [b]) = decide (a ≤ b) := by
  have h : [a] ≤ [b] ↔ a ≤ b := by
    rw [List.cons_le_cons_iff]
    simp
    omega
  simp [h]
def isTxt : D → Bool
  | .str z => z.cps.toList.all sgB
  | _ => false
theorem is_text_str (n : Nat) (z : Str) (m : Mu) (hl : z.length ≤ 1000) : G.run pg (n + 1) i_is_text [.str z] m = .ok (.bl (z.cps.toList.all sgB)) m := by
  rw [run_eq fn_is_text rfl]
  have hsp : (Str.ofString " ").cps.toList = [32] := by decide +kernel
  have htl : (Str.ofString "~").cps.toList = [126] := by decide +kernel
  have hl' : z.cps.toList.length ≤ 1000 := by simpa [Str.length] using hl
  have q := foldR_map (f := lcTurn (pg.par (G.run pg n) (mk pg n)) (.chn .LtE .LtE (.cst (.str " ")) (.loc 1) (.cst (.str "~"))) (.nm 1) (.tru (.cst (.bl true))) [1]) (g := fun d => .bl (isTxt d)) (e := [.val (.str z), .no]) (m := m) (z.cps.toList.map fun c => .str ⟨#[c]⟩) [] (by simp [sizeL] at hl' ⊢; omega) (by
    intro d acc hd ha
    simp only [List.mem_map] at hd
    obtain ⟨c, _, rfl⟩ := hd
    by_cases h1 : 32 ≤ c <;> by_cases h2 : c ≤ 126 <;> simp [lcTurn, hsp, htl, dle1, h1, h2, pushR, ha, isTxt, sgB])
  have hq : (z.cps.toList.map (fun c => D.str ⟨#[c]⟩)).map (fun d => D.bl (isTxt d)) = z.cps.toList.map fun c => D.bl (sgB c) := by simp [isTxt]
  rw [hq, List.nil_append] at q
  simp [b_is_text, ini, q, toBls_map, List.all_map]
def oZ : Option Str → D
  | none => .non
  | some z => .str z
def RangeOk (low : Str) (high : Option Str) : Prop := Sg low ∧ low.length ≤ 1000 ∧ match high with
  | none => True
  | some h => Sg h ∧ h.length ≤ 1000 ∧ low.cps.toList < h.cps.toList
theorem is_range_ok (n : Nat) (low : Str) (high : Option Str) (m : Mu) (h : RangeOk low high) : G.run pg (n + 2) i_is_range [.tup [.str low, oZ high]] m = .ok (.bl true) m := by
  obtain ⟨g1, g2, g3⟩ := h
  have q1 := is_text_str n low m g2
  have g1 : low.cps.toList.all sgB = true := g1
  rw [g1] at q1
  rw [run_eq fn_is_range rfl]
  have p0 : ∀ x, G.plain (.int x) 60 = true := fun x => rfl
  have e0 : ∀ x y : Int, eqD (.int x) (.int y) = some (x == y) := fun _ _ => rfl
  cases high with
  | none => simp [b_is_range, ini, oZ, arrK, arrN, arr, p0, e0, q1, atD, L2.atI, L2.ixN]
  | some z =>
    obtain ⟨k1, k2, k3⟩ := g3
    have q2 := is_text_str n z m k2
    have k1 : z.cps.toList.all sgB = true := k1
    rw [k1] at q2
    simp [b_is_range, ini, oZ, arrK, arrN, arr, p0, e0, q1, q2, k3, atD, L2.atI, L2.ixN]
def rgD (r : Str × Option Str) : D := .tup [.str r.1, oZ r.2]
theorem are_ranges_ok (n : Nat) {d0 : D} {rows : List (Str × Option Str)} (m : Mu) (hd : d0 = .lst (rows.map rgD) ∨ d0 = .tup (rows.map rgD)) (hl : rows.length < 1000) (h : ∀ r ∈ rows, RangeOk r.1 r.2) : G.run pg (n + 3) i_are_ranges [d0] m = .ok (.bl true) m := by
  have f1 := foldR_mapA (f := lcTurn (pg.par (G.run pg (n + 2)) (G.mk pg (n + 2))) (.call 25 (.cons (.loc 1) .nil) .nil) (.nm 1) (.tru (.cst (.bl true))) [1]) (u := rgD) (g := fun _ => .bl true) (e := [.val d0, .no]) (m := m) rows [] (by simp [sizeL]; omega) (fun r acc hr ha => by
    have q := is_range_ok n r.1 r.2 m (h r hr)
    simp [lcTurn, rgD, arrK, arrN, arr, q, pushR, ha])
  have hb := toBls_map rows fun _ => true
  have hall := all_true rows
  rw [run_eq fn_are_ranges rfl]
  rw [List.nil_append] at f1
  show (evS _ _ [.val d0, .no] m).fin = _
  unfold b_are_ranges
  rcases hd with rfl | rfl <;> simp [f1, hb, hall]
/-! a set is made -/
theorem inL_bl (x : Bool) : ∀ bs : List Bool, inL (.bl x) (bs.map .bl) = some (bs.contains x)
  | [] => rfl
  | b :: bs => by
    show (if flat (.bl x) && flat (.bl b) then match eqD (.bl b) (.bl x) with
      | some true => some true
      | some false => inL (.bl x) (bs.map .bl)
      | none => none
      else none) = _
    show (match some (b == x) with
      | some true => some true
      | some false => inL (.bl x) (bs.map .bl)
      | none => none) = _
    rw [List.contains_cons]
    cases b <;> cases x <;> first | rfl | exact inL_bl _ bs
theorem flat_bls (bs : List Bool) : (bs.map D.bl).all flat = true := by
  induction bs with
  | nil => rfl
  | cons b bs ih => simpa using ih
def boolsOf (bs : List Bool) : List Bool := [false, true].filter fun b => bs.contains b
theorem bools_fold (P : Par) {dT dS dR x0 : D} {e1 e2 : EV} {s0 : EV} {bs : List Bool} {m : Mu} (hd : dT = .lst (bs.map .bl) ∨ dT = .tup (bs.map .bl)) :
    foldR (lcTurn P (.loc 5) (.nm 5) (.cmp .In (.loc 5) (.loc 2)) [5]) [.bl false, .bl true] [] [s0, .val x0, .val dT, .val dS, .val dR, .no, e1, e2] m = .ok ((boolsOf bs).map .bl) [s0, .val x0, .val dT, .val dS, .val dR, .no, e1, e2] m := by
  have h0 : 0 < sizeL := by decide
  have h1 : 1 < sizeL := by decide
  have f := flat_bls bs
  rcases hd with rfl | rfl <;> by_cases c1 : false ∈ bs <;> by_cases c2 : true ∈ bs <;>
    simp [foldR_nil, foldR_cons, lcTurn, pushR, h0, h1, f, inL_bl, c1, c2, boolsOf, List.filter]
theorem spans_fold (n : Nat) {s0 s1 s2 s3 s4 s5 : EV} {rows : List (Option Int × Option Int)} {m : Mu} (hl : rows.length < 1000) :
    foldR (lcTurn (pg.par (G.run pg (n + 1)) (G.mk pg (n + 1))) (.call 19 (.cons (.loc 7) (.cons (.loc 6) .nil)) .nil) (.cons (.nm 7) (.cons (.nm 6) .nil)) (.tru (.cst (.bl true))) [7, 6]) (rows.map spD) [] [s0, s1, s2, s3, s4, s5, .no, .no] m = .ok (encL codI (rows.map fun r => spanC r.1 r.2)) [s0, s1, s2, s3, s4, s5, .no, .no] m := by
  have f1 := foldR_mapA (f := lcTurn (pg.par (G.run pg (n + 1)) (G.mk pg (n + 1))) (.call 19 (.cons (.loc 7) (.cons (.loc 6) .nil)) .nil) (.cons (.nm 7) (.cons (.nm 6) .nil)) (.tru (.cst (.bl true))) [7, 6]) (u := spD) (g := fun r => encP codI (spanC r.1 r.2)) (e := [s0, s1, s2, s3, s4, s5, .no, .no]) (m := m) rows [] (by simp [sizeL]; omega) (fun r acc hr ha => by
    have q := cuts_of_span_ok n r.1 r.2 m
    simp [lcTurn, spD, arrK, arrN, arr, q, pushR, ha])
  rw [f1]
  simp [encL]
def tzD (r : Txs × Option Txs) : D := .tup [.str r.1.1, oT r.2]
theorem ranges_fold (n : Nat) {s0 s1 s2 s3 s4 s5 : EV} {rows : List (Txs × Option Txs)} {m : Mu} (hl : rows.length < 1000) :
    foldR (lcTurn (pg.par (G.run pg (n + 1)) (G.mk pg (n + 1))) (.call 20 (.cons (.loc 7) (.cons (.loc 6) .nil)) .nil) (.cons (.nm 7) (.cons (.nm 6) .nil)) (.tru (.cst (.bl true))) [7, 6]) (rows.map tzD) [] [s0, s1, s2, s3, s4, s5, .no, .no] m = .ok (encL codS (rows.map fun r => rangeC r.1 r.2)) [s0, s1, s2, s3, s4, s5, .no, .no] m := by
  have f1 := foldR_mapA (f := lcTurn (pg.par (G.run pg (n + 1)) (G.mk pg (n + 1))) (.call 20 (.cons (.loc 7) (.cons (.loc 6) .nil)) .nil) (.cons (.nm 7) (.cons (.nm 6) .nil)) (.tru (.cst (.bl true))) [7, 6]) (u := tzD) (g := fun r => encP codS (rangeC r.1 r.2)) (e := [s0, s1, s2, s3, s4, s5, .no, .no]) (m := m) rows [] (by simp [sizeL]; omega) (fun r acc hr ha => by
    have q := cuts_of_range_ok n r.1 r.2 m
    simp [lcTurn, tzD, arrK, arrN, arr, q, pushR, ha])
  rw [f1]
  simp [encL]
def setD (nu : Bool) (bs : List Bool) (ns : Pr (Cut Int)) (ws : Pr (Cut Txs)) : D := .ins 0 [("has_null", .bl nu), ("bools", .tup (bs.map .bl)), ("numbers", .tup (encL codI ns)), ("words", .tup (encL codS ws))]
def tz (r : Txs × Option Txs) : Str × Option Str := (r.1.1, r.2.map (·.1))
theorem tz_D (rows : List (Txs × Option Txs)) : rows.map tzD = (rows.map tz).map rgD := by
  rw [List.map_map]
  congr 1
  funext r
  obtain ⟨a, b⟩ := r
  cases b <;> rfl
theorem make_ok (n : Nat) {nu : Bool} {bs : List Bool} {sp : List (Option Int × Option Int)} {rg : List (Txs × Option Txs)} {SI : List (Cut Int)} {SS : List (Cut Txs)} {z0 : Txs} {dT dS dR : D} {m : Mu} (hz : z0.1 = "")
    (hT : dT = .lst (bs.map .bl) ∨ dT = .tup (bs.map .bl)) (hS : dS = .lst (sp.map spD) ∨ dS = .tup (sp.map spD)) (hR : dR = .lst (rg.map tzD) ∨ dR = .tup (rg.map tzD)) (lb : bs.length < 1000) (ls : sp.length < 1000) (lr : rg.length < 1000)
    (os : ∀ r ∈ sp, SpanOk r.1 r.2) (or_ : ∀ r ∈ rg.map tz, RangeOk r.1 r.2) (l1 : SI.length < 100) (l2 : SS.length < 100) (a1 : Cut.bot ∈ SI) (a2 : Cut.top ∈ SI) (b1 : Cut.at_ z0 ∈ SS) (b2 : Cut.top ∈ SS)
    (r1 : ∀ r ∈ sp.map (fun r => spanC r.1 r.2), RowOk codI .bot r) (r2 : ∀ r ∈ rg.map (fun r => rangeC r.1 r.2), RowOk codS (.at_ z0) r) (w1 : ∀ a ∈ OS.cuts (sp.map fun r => spanC r.1 r.2), a ∈ SI) (w2 : ∀ a ∈ OS.cuts (rg.map fun r => rangeC r.1 r.2), a ∈ SS) :
    G.mk pg (n + 4) 0 [.bl nu, dT, dS, dR] m = .ok (setD nu (boolsOf bs) (joinAll codI .bot [] (sp.map fun r => spanC r.1 r.2)) (joinAll codS (.at_ z0) [] (rg.map fun r => rangeC r.1 r.2))) m := by
  have q1 := are_bools_ok (n + 2) m hT lb
  have q2 := are_spans_ok n m hS ls os
  have q3 := are_ranges_ok n (d0 := dR) (rows := rg.map tz) m (by rw [← tz_D]; exact hR) (by rw [List.length_map]; exact lr) or_
  have j1 := joined_all_ok n (K := codI) (d0 := .lst (encL codI (sp.map fun r => spanC r.1 r.2))) (rows := sp.map fun r => spanC r.1 r.2) (first := .bot) (m := m) items_lst l1 a1 a2 r1 w1
  have j2 := joined_all_ok n (K := codS) (d0 := .lst (encL codS (rg.map fun r => rangeC r.1 r.2))) (rows := rg.map fun r => rangeC r.1 r.2) (first := .at_ z0) (m := m) items_lst l2 b1 b2 r2 w2
  have e0 : enc codS (.at_ z0) = .tup [.int 0, .str ""] := by show D.tup [.int 0, .str z0.1] = _; rw [hz]
  rw [e0] at j2
  change G.run pg (n + 3) i_joined_all [_, .tup [.int (-1)]] m = _ at j1
  have iS : itemsOf dS = some (sp.map spD) := by rcases hS with h | h <;> rw [h] <;> rfl
  have iR : itemsOf dR = some (rg.map tzD) := by rcases hR with h | h <;> rw [h] <;> rfl
  have fb := fun (P : Par) (s0 : EV) => bools_fold P (dT := dT) (dS := dS) (dR := dR) (x0 := .bl nu) (e1 := .no) (e2 := .no) (s0 := s0) (m := m) hT
  have fs := fun (s0 s1 s2 s3 s4 s5 : EV) => spans_fold (n + 2) (s0 := s0) (s1 := s1) (s2 := s2) (s3 := s3) (s4 := s4) (s5 := s5) (rows := sp) (m := m) ls
  have fr := fun (s0 s1 s2 s3 s4 s5 : EV) => ranges_fold (n + 2) (s0 := s0) (s1 := s1) (s2 := s2) (s3 := s3) (s4 := s4) (s5 := s5) (rows := rg) (m := m) lr
  have v0 : ¬ (Str.ofString "has_null" = Str.ofString "bools") := by decide +kernel
  have v1 : ¬ (Str.ofString "has_null" = Str.ofString "numbers") := by decide +kernel
  have v2 : ¬ (Str.ofString "bools" = Str.ofString "numbers") := by decide +kernel
  have v3 : ¬ (Str.ofString "has_null" = Str.ofString "words") := by decide +kernel
  have v4 : ¬ (Str.ofString "bools" = Str.ofString "words") := by decide +kernel
  have v5 : ¬ (Str.ofString "numbers" = Str.ofString "words") := by decide +kernel
  have hs2 : 2 ≤ sizeL := by decide
  rw [mk_eq (k := ⟨"ScalarSet", i_ScalarSet_init, _, _, _⟩) rfl fn_ScalarSet_init rfl]
  simp [b_ScalarSet_init, ini, arrK, arrN, arr, hs2, v0, v1, v2, v3, v4, v5, q1, q2, q3, j1, j2, iS, iR, fb, fs, fr, putF, RS.fin0, setD]
/-- made anew of what is written, a span is the same cuts -/
theorem span_back {r : Cut Int × Cut Int} (h1 : r.1 ≠ .top) (h2 : r.2 ≠ .bot) : ∃ low high, spanD r = spD (low, high) ∧ spanC low high = r := by
  obtain ⟨a, b⟩ := r
  cases a with
  | top => exact absurd rfl h1
  | bot =>
    cases b with
    | bot => exact absurd rfl h2
    | top => exact ⟨none, none, rfl, rfl⟩
    | at_ y => exact ⟨none, some (y - 1), rfl, by simp [spanC]⟩
  | at_ x =>
    cases b with
    | bot => exact absurd rfl h2
    | top => exact ⟨some x, none, rfl, rfl⟩
    | at_ y => exact ⟨some x, some (y - 1), rfl, by simp [spanC]⟩
theorem range_back {r : Cut Txs × Cut Txs} (h1 : ∃ z, r.1 = .at_ z) (h2 : r.2 ≠ .bot) : ∃ low high, rangeDt r = tzD (low, high) ∧ rangeC low high = r := by
  obtain ⟨a, b⟩ := r
  obtain ⟨z, h1⟩ := h1
  have h1 : a = .at_ z := h1
  subst h1
  cases b with
  | bot => exact absurd rfl h2
  | top => exact ⟨z, none, rfl, rfl⟩
  | at_ y => exact ⟨z, some y, rfl, rfl⟩
theorem pieces_ok (n : Nat) {nu : Bool} {bs : List Bool} {ns : Pr (Cut Int)} {ws : Pr (Cut Txs)} {m : Mu} (h1 : ∀ r ∈ ns, r.1 ≠ .top ∧ r.2 ≠ .bot) (h2 : ∀ r ∈ ws, (∃ z, r.1 = .at_ z) ∧ r.2 ≠ .bot) (l1 : ns.length < 1000) (l2 : ws.length < 1000) :
    G.run pg (n + 2) i_ScalarSet_pieces [setD nu bs ns ws] m = .ok (.tup [.bl nu, .lst (bs.map .bl), .lst (ns.map spanD), .lst (ws.map rangeDt)]) m := by
  have q1 := spans_of_ok n (d0 := .tup (encL codI ns)) (m := m) items_tup l1 h1
  have q2 := ranges_of_ok n (d0 := .tup (encL codS ws)) (m := m) items_tup l2 h2
  have hs4 : 4 ≤ sizeL := by decide
  have v0 : ¬ ("has_null" : Str) = "bools" := by decide +kernel
  have a1 : List.lookup (Str.ofString "has_null") [(Str.ofString "has_null", D.bl nu), (Str.ofString "bools", D.tup (bs.map .bl)), (Str.ofString "numbers", D.tup (encL codI ns)), (Str.ofString "words", D.tup (encL codS ws))] = some (.bl nu) := rfl
  have a2 : List.lookup (Str.ofString "bools") [(Str.ofString "has_null", D.bl nu), (Str.ofString "bools", D.tup (bs.map .bl)), (Str.ofString "numbers", D.tup (encL codI ns)), (Str.ofString "words", D.tup (encL codS ws))] = some (.tup (bs.map .bl)) := by kernel_rfl
  have a3 : List.lookup (Str.ofString "numbers") [(Str.ofString "has_null", D.bl nu), (Str.ofString "bools", D.tup (bs.map .bl)), (Str.ofString "numbers", D.tup (encL codI ns)), (Str.ofString "words", D.tup (encL codS ws))] = some (.tup (encL codI ns)) := by kernel_rfl
  have a4 : List.lookup (Str.ofString "words") [(Str.ofString "has_null", D.bl nu), (Str.ofString "bools", D.tup (bs.map .bl)), (Str.ofString "numbers", D.tup (encL codI ns)), (Str.ofString "words", D.tup (encL codS ws))] = some (.tup (encL codS ws)) := by kernel_rfl
  rw [run_eq fn_ScalarSet_pieces rfl]
  simp [-List.lookup_cons, b_ScalarSet_pieces, ini, setD, arrK, arrN, arr, hs4, q1, q2, a1, a2, a3, a4]
end K04
end
section
set_option Elab.async false
set_option linter.all false
set_option maxRecDepth 100000
set_option maxHeartbeats 1000000
namespace K04
open PySem G
open OS (Pr mem mx mn met met1 one out Can CanS)
/-! ### sets as data -/
def z0 : Txs := ⟨"", by decide +kernel⟩
def bigI : Int := 100000000000000000000000000000000000000000
structure Dom where
  SI : List (Cut Int)
  SS : List (Cut Txs)
  l1 : SI.length < 100
  l2 : SS.length < 100
  a1 : Cut.bot ∈ SI
  a2 : Cut.top ∈ SI
  b1 : Cut.at_ z0 ∈ SS
  b2 : Cut.top ∈ SS
  r1 : ∀ i, Cut.at_ i ∈ SI → -bigI ≤ i ∧ i ≤ bigI
  r2 : ∀ z : Txs, Cut.at_ z ∈ SS → Sg z.1 ∧ z.1.length ≤ 100
structure ST where
  nu : Bool
  fa : Bool
  tr : Bool
  ns : Pr (Cut Int)
  ws : Pr (Cut Txs)
  deriving DecidableEq
def bls (f t : Bool) : List Bool := (if f then [false] else []) ++ (if t then [true] else [])
structure Wf (X : Dom) (a : ST) : Prop where
  cn : Can codI.O .bot .top a.ns
  cw : Can codS.O (.at_ z0) .top a.ws
  un : ∀ c ∈ OS.cuts a.ns, c ∈ X.SI
  uw : ∀ c ∈ OS.cuts a.ws, c ∈ X.SS
abbrev WS (X : Dom) := { a : ST // Wf X a }
variable {X : Dom}
def sd (a : WS X) : D := setD a.1.nu (bls a.1.fa a.1.tr) a.1.ns a.1.ws
def inter (a b : WS X) : WS X := ⟨⟨a.1.nu && b.1.nu, a.1.fa && b.1.fa, a.1.tr && b.1.tr, met codI.O a.1.ns b.1.ns, met codS.O a.1.ws b.1.ws⟩,
  OS.can_met a.2.cn b.2.cn, OS.can_met a.2.cw b.2.cw, fun c h => (OS.cuts_met h).elim (a.2.un c) (b.2.un c), fun c h => (OS.cuts_met h).elim (a.2.uw c) (b.2.uw c)⟩
def compl (a : WS X) : WS X := ⟨⟨!a.1.nu, !a.1.fa, !a.1.tr, out codI.O .top .bot a.1.ns, out codS.O .top (.at_ z0) a.1.ws⟩,
  OS.can_out a.2.cn, OS.can_out a.2.cw, fun c h => by
    rcases OS.cuts_out h with rfl | rfl | h
    · exact X.a1
    · exact X.a2
    · exact a.2.un c h, fun c h => by
    rcases OS.cuts_out h with rfl | rfl | h
    · exact X.b1
    · exact X.b2
    · exact a.2.uw c h⟩
def union (a b : WS X) : WS X := compl (inter (compl a) (compl b))
def diff (a b : WS X) : WS X := inter a (compl b)
def xor (a b : WS X) : WS X := union (diff a b) (diff b a)
def empt : WS X := ⟨⟨false, false, false, [], []⟩, trivial, trivial, (fun _ h => nomatch h), (fun _ h => nomatch h)⟩
/-- a point: null, a bool, just behind a cut -/
inductive Pt where
  | n
  | f
  | t
  | i (x : Cut Int) (h : codI.O.le .bot x) (g : codI.O.lt x .top = true)
  | s (x : Cut Txs) (h : codS.O.le (.at_ z0) x) (g : codS.O.lt x .top = true)
def sem (a : WS X) : Pt → Bool
  | .n => a.1.nu
  | .f => a.1.fa
  | .t => a.1.tr
  | .i x _ _ => mem codI.O a.1.ns x
  | .s x _ _ => mem codS.O a.1.ws x
theorem ws_ext {a b : WS X} (h : ∀ p, sem a p = sem b p) : a = b := by
  obtain ⟨⟨n1, f1, t1, p1, q1⟩, w1⟩ := a
  obtain ⟨⟨n2, f2, t2, p2, q2⟩, w2⟩ := b
  have e1 : n1 = n2 := h .n
  have e2 : f1 = f2 := h .f
  have e3 : t1 = t2 := h .t
  have e4 : p1 = p2 := OS.uniq w1.cn w2.cn fun x h0 h1 => h (.i x h0 h1)
  have e5 : q1 = q2 := OS.uniq w1.cw w2.cw fun x h0 h1 => h (.s x h0 h1)
  subst e1 e2 e3 e4 e5
  rfl
theorem sem_inter (a b : WS X) (p : Pt) : sem (inter a b) p = (sem a p && sem b p) := by
  cases p <;> first | rfl | exact OS.mem_met
theorem sem_compl (a : WS X) (p : Pt) : sem (compl a) p = !sem a p := by
  cases p with
  | i x h g => exact OS.mem_out a.2.cn h g
  | s x h g => exact OS.mem_out a.2.cw h g
  | _ => rfl
theorem sem_union (a b : WS X) (p : Pt) : sem (union a b) p = (sem a p || sem b p) := by
  simp [union, sem_inter, sem_compl]
theorem sem_diff (a b : WS X) (p : Pt) : sem (diff a b) p = (sem a p && !sem b p) := by
  simp [diff, sem_inter, sem_compl]
theorem sem_xor (a b : WS X) (p : Pt) : sem (xor a b) p = (sem a p ^^ sem b p) := by
  simp [xor, sem_union, sem_diff]
  cases sem a p <;> cases sem b p <;> rfl
theorem sem_empt (p : Pt) : sem (empt : WS X) p = false := by cases p <;> rfl
/-! ### a canonical list made anew is itself -/
theorem canS_rows {α : Type} {K : Cod α} {first : Cut α} : ∀ {p : Pr (Cut α)} {b : Cut α}, CanS K.O .top b p → K.O.le first b → ∀ r ∈ p, RowOk K first r
  | (l, h) :: p, b, ⟨g1, g2, g3, g4⟩, hb, r, hr => by
    rcases List.mem_cons.mp hr with rfl | hr
    · exact ⟨OS.asy (OS.le_lt hb g1), g2⟩
    · exact canS_rows g4 (OS.asy (OS.lt_le (OS.lt_le (OS.le_lt hb g1) (OS.asy g2)) OS.le_refl)) r hr
theorem can_rows {α : Type} {K : Cod α} {first : Cut α} {p : Pr (Cut α)} (h : Can K.O first .top p) : ∀ r ∈ p, RowOk K first r := by
  cases p with
  | nil => exact fun r hr => nomatch hr
  | cons r p =>
    obtain ⟨l, q⟩ := r
    obtain ⟨g1, g2, g3, g4⟩ := h
    intro r hr
    rcases List.mem_cons.mp hr with rfl | hr
    · exact ⟨g1, g2⟩
    · exact canS_rows g4 (OS.asy (OS.le_lt g1 g2)) r hr
theorem joinAll_self {α : Type} {K : Cod α} {first : Cut α} {p : Pr (Cut α)} (h : Can K.O first .top p) : joinAll K first [] p = p := by
  have hr := can_rows h
  refine OS.uniq (can_all (acc := []) trivial hr) h fun x h0 h1 => ?_
  rw [mem_all h0 h1 (acc := []) trivial hr, OS.mem_nil, Bool.false_or]
theorem row_ne {α : Type} {K : Cod α} {first : Cut α} {r : Cut α × Cut α} (h : RowOk K first r) : r.1 ≠ .top ∧ r.2 ≠ .bot := by
  obtain ⟨l, q⟩ := r
  have g : cutLt K l q = true := h.2
  constructor
  · rintro rfl
    cases q <;> cases g
  · rintro rfl
    cases l <;> cases g
def lowO : Cut Int → Option Int
  | .at_ n => some n
  | _ => none
def highO : Cut Int → Option Int
  | .at_ n => some (n - 1)
  | _ => none
def spB (r : Cut Int × Cut Int) : Option Int × Option Int := (lowO r.1, highO r.2)
def lowT : Cut Txs → Txs
  | .at_ n => n
  | _ => z0
def highT : Cut Txs → Option Txs
  | .at_ n => some n
  | _ => none
def rgB (r : Cut Txs × Cut Txs) : Txs × Option Txs := (lowT r.1, highT r.2)
theorem spB_D (r : Cut Int × Cut Int) : spD (spB r) = spanD r := by
  obtain ⟨a, b⟩ := r
  cases a <;> cases b <;> rfl
theorem spB_C {r : Cut Int × Cut Int} (h : r.1 ≠ .top ∧ r.2 ≠ .bot) : spanC (spB r).1 (spB r).2 = r := by
  obtain ⟨a, b⟩ := r
  obtain ⟨h1, h2⟩ := h
  cases a <;> cases b <;> first | exact absurd rfl h1 | exact absurd rfl h2 | rfl | simp [spB, lowO, highO, spanC]
theorem rgB_D {r : Cut Txs × Cut Txs} (h : ∃ z, r.1 = .at_ z) : tzD (rgB r) = rangeDt r := by
  obtain ⟨a, b⟩ := r
  obtain ⟨z, h⟩ := h
  have h : a = .at_ z := h
  subst h
  cases b <;> rfl
theorem rgB_C {r : Cut Txs × Cut Txs} (h : ∃ z, r.1 = .at_ z) (h2 : r.2 ≠ .bot) : rangeC (rgB r).1 (rgB r).2 = r := by
  obtain ⟨a, b⟩ := r
  obtain ⟨z, h⟩ := h
  have h : a = .at_ z := h
  subst h
  cases b <;> first | exact absurd rfl h2 | rfl
theorem row_at {r : Cut Txs × Cut Txs} (h : RowOk codS (.at_ z0) r) : ∃ z, r.1 = .at_ z := by
  obtain ⟨l, q⟩ := r
  obtain ⟨g1, g2⟩ := h
  cases l with
  | at_ z => exact ⟨z, rfl⟩
  | bot => have g1 : cutLt codS .bot (.at_ z0) = false := g1; cases g1
  | top => exact absurd rfl (row_ne (K := codS) (first := .at_ z0) ⟨g1, g2⟩).1
theorem spB_ok {r : Cut Int × Cut Int} (h : codI.O.lt r.1 r.2 = true) : SpanOk (spB r).1 (spB r).2 := by
  obtain ⟨a, b⟩ := r
  cases a <;> cases b <;> first | exact True.intro | skip
  case at_.at_ x y =>
    have h : decide (x < y) = true := h
    show x ≤ y - 1
    simp at h
    omega
theorem mem_cuts1 {C : Type} {p : Pr C} {r : C × C} (h : r ∈ p) : r.1 ∈ OS.cuts p := List.mem_flatMap.mpr ⟨r, h, List.mem_cons_self ..⟩
theorem mem_cuts2 {C : Type} {p : Pr C} {r : C × C} (h : r ∈ p) : r.2 ∈ OS.cuts p := List.mem_flatMap.mpr ⟨r, h, List.mem_cons_of_mem _ (List.mem_cons_self ..)⟩
theorem ws_len1 (a : WS X) : a.1.ns.length < 50 := by
  have := OS.can_len a.2.cn a.2.un
  have := X.l1
  omega
theorem ws_len2 (a : WS X) : a.1.ws.length < 50 := by
  have := OS.can_len a.2.cw a.2.uw
  have := X.l2
  omega
theorem ws_rg (a : WS X) {r : Cut Txs × Cut Txs} (h : r ∈ a.1.ws) : RangeOk (tz (rgB r)).1 (tz (rgB r)).2 := by
  have hr := can_rows a.2.cw r h
  obtain ⟨z, hz⟩ := row_at hr
  have h2 := (row_ne hr).2
  obtain ⟨u, v⟩ := r
  have hz : u = .at_ z := hz
  subst hz
  have c1 := X.r2 z (a.2.uw _ (mem_cuts1 h))
  cases v with
  | bot => exact absurd rfl h2
  | top => exact ⟨c1.1, by show z.1.length ≤ 1000; omega, trivial⟩
  | at_ y =>
    have c2 := X.r2 y (a.2.uw _ (mem_cuts2 h))
    refine ⟨c1.1, by show z.1.length ≤ 1000; omega, c2.1, by show y.1.length ≤ 1000; omega, ?_⟩
    have := hr.2
    exact of_decide_eq_true this
theorem map_C {p : Pr (Cut Int)} (h : Can codI.O .bot .top p) : (p.map spB).map (fun r => spanC r.1 r.2) = p := by
  rw [List.map_map]
  conv => rhs; rw [← List.map_id p]
  exact List.map_congr_left fun r hr => spB_C (row_ne (can_rows h r hr))
theorem map_Ct {p : Pr (Cut Txs)} (h : Can codS.O (.at_ z0) .top p) : (p.map rgB).map (fun r => rangeC r.1 r.2) = p := by
  rw [List.map_map]
  conv => rhs; rw [← List.map_id p]
  exact List.map_congr_left fun r hr => rgB_C (row_at (can_rows h r hr)) (row_ne (can_rows h r hr)).2
theorem map_D (p : Pr (Cut Int)) : (p.map spB).map spD = p.map spanD := by
  rw [List.map_map]
  exact List.map_congr_left fun r _ => spB_D r
theorem map_Dt {p : Pr (Cut Txs)} (h : Can codS.O (.at_ z0) .top p) : (p.map rgB).map tzD = p.map rangeDt := by
  rw [List.map_map]
  exact List.map_congr_left fun r hr => rgB_D (row_at (can_rows h r hr))
theorem boolsOf_bls (f t : Bool) : boolsOf (bls f t) = bls f t := by cases f <;> cases t <;> rfl
/-- a set is made of what it is -/
theorem remake (n : Nat) (a : WS X) (m : Mu) : G.mk pg (n + 4) 0 [.bl a.1.nu, .lst ((bls a.1.fa a.1.tr).map .bl), .lst (a.1.ns.map spanD), .lst (a.1.ws.map rangeDt)] m = .ok (sd a) m := by
  have h1 := map_C a.2.cn
  have h2 := map_Ct a.2.cw
  have k1 := ws_len1 a
  have k2 := ws_len2 a
  have := make_ok n (nu := a.1.nu) (bs := bls a.1.fa a.1.tr) (sp := a.1.ns.map spB) (rg := a.1.ws.map rgB) (SI := X.SI) (SS := X.SS) (z0 := z0) (dT := .lst ((bls a.1.fa a.1.tr).map .bl)) (dS := .lst (a.1.ns.map spanD)) (dR := .lst (a.1.ws.map rangeDt)) (m := m) rfl
    (.inl rfl) (.inl (by rw [map_D])) (.inl (by rw [map_Dt a.2.cw])) (by cases a.1.fa <;> cases a.1.tr <;> simp [bls]) (by rw [List.length_map]; omega) (by rw [List.length_map]; omega)
    (fun r hr => by
      obtain ⟨q, hq, rfl⟩ := List.mem_map.mp hr
      exact spB_ok (can_rows a.2.cn q hq).2)
    (fun r hr => by
      obtain ⟨q, hq, rfl⟩ := List.mem_map.mp hr
      obtain ⟨q2, hq2, rfl⟩ := List.mem_map.mp hq
      exact ws_rg a hq2) X.l1 X.l2 X.a1 X.a2 X.b1 X.b2 (by rw [h1]; exact can_rows a.2.cn) (by rw [h2]; exact can_rows a.2.cw) (by rw [h1]; exact a.2.un) (by rw [h2]; exact a.2.uw)
  rw [this, h1, h2, joinAll_self a.2.cn, joinAll_self a.2.cw, boolsOf_bls]
  rfl
end K04
end
section
set_option Elab.async false
set_option linter.all false
set_option maxRecDepth 100000
set_option maxHeartbeats 1000000
namespace K04
open PySem G
open OS (Pr mem mx mn met met1 one out Can CanS)
variable {X : Dom}
/-! ### the set as an object -/
section
variable {call : Nat → List D → Mu → R0} {make : Nat → List D → Mu → R0} {e : En} {m : Mu} {x : EV} (a b : WS X)
@[simp] theorem deref_sd : deref m (sd a) = sd a := rfl
@[simp] theorem insOk_sd : (pg.par call make).insOk (sd a) = true := by rfl
@[simp] theorem isTy_sd : isTy (sd a) (.c 0) = some true := by rfl
@[simp] theorem isTys_sd : isTys (sd a) [.c 0] = some true := by rfl
@[simp] theorem att_nu : (pg.par call make).att false "has_null" (sd a) (some (sd a)) e m = .ok (.bl a.1.nu) e m := by kernel_rfl
@[simp] theorem att_bs : (pg.par call make).att false "bools" (sd a) (some (sd a)) e m = .ok (.tup ((bls a.1.fa a.1.tr).map .bl)) e m := by kernel_rfl
@[simp] theorem att_ns : (pg.par call make).att false "numbers" (sd a) (some (sd a)) e m = .ok (.tup (encL codI a.1.ns)) e m := by kernel_rfl
@[simp] theorem att_ws : (pg.par call make).att false "words" (sd a) (some (sd a)) e m = .ok (.tup (encL codS a.1.ws)) e m := by kernel_rfl
@[simp] theorem mth_pcs : (pg.par call make).mth false "pieces" (some (sd a)) = some i_ScalarSet_pieces := by kernel_rfl
end
theorem in_f (f t : Bool) : inL (.bl false) ((bls f t).map .bl) = some f := by rw [inL_bl]; cases f <;> cases t <;> rfl
theorem in_t (f t : Bool) : inL (.bl true) ((bls f t).map .bl) = some t := by rw [inL_bl]; cases f <;> cases t <;> rfl
theorem bls_00 : (bls false false).map D.bl = [] := rfl
theorem bls_01 : (bls false true).map D.bl = [.bl true] := rfl
theorem bls_10 : (bls true false).map D.bl = [.bl false] := rfl
theorem bls_11 : (bls true true).map D.bl = [.bl false, .bl true] := rfl
theorem inter_fold (P : Par) (hP : ∃ call make, P = pg.par call make) (a b : WS X) (m : Mu) : foldR (lcTurn P (.loc 2) (.nm 2) (.cmp .In (.loc 2) (.att (.loc 1) "bools")) [2]) ((bls a.1.fa a.1.tr).map .bl) [] [.val (sd a), .val (sd b), .no] m = .ok ((bls (a.1.fa && b.1.fa) (a.1.tr && b.1.tr)).map .bl) [.val (sd a), .val (sd b), .no] m := by
  obtain ⟨call, make, rfl⟩ := hP
  have h0 : 0 < sizeL := by decide
  have h1 : 1 < sizeL := by decide
  have hf := flat_bls (bls b.1.fa b.1.tr)
  cases h2 : a.1.fa <;> cases h3 : a.1.tr <;>
    simp [-List.map_eq_nil_iff, bls_00, bls_01, bls_10, bls_11, foldR_nil, foldR_cons, lcTurn, pushR, h0, h1, in_f, in_t, hf] <;> cases h4 : b.1.fa <;> (try simp [h0, h1, in_f, in_t, hf]) <;> cases h5 : b.1.tr <;> simp [bls, h0, h1]
theorem compl_fold (P : Par) (hP : ∃ call make, P = pg.par call make) (a : WS X) (m : Mu) : foldR (lcTurn P (.loc 1) (.nm 1) (.cmp .NotIn (.loc 1) (.att (.loc 0) "bools")) [1]) [.bl false, .bl true] [] [.val (sd a), .no] m = .ok ((bls (!a.1.fa) (!a.1.tr)).map .bl) [.val (sd a), .no] m := by
  obtain ⟨call, make, rfl⟩ := hP
  have h0 : 0 < sizeL := by decide
  have h1 : 1 < sizeL := by decide
  have hf := flat_bls (bls a.1.fa a.1.tr)
  simp [foldR_nil, foldR_cons, lcTurn, pushR, h0, h1, in_f, in_t, hf]
  cases h4 : a.1.fa <;> (try simp [h0, h1, in_f, in_t, hf]) <;> cases h5 : a.1.tr <;> simp [bls, h0, h1]
theorem ws_prod1 (a b : WS X) : (a.1.ns.length + 1) * (b.1.ns.length + 1) < 90000 := by
  have h1 := ws_len1 a
  have h2 := ws_len1 b
  have : (a.1.ns.length + 1) * (b.1.ns.length + 1) ≤ 50 * 50 := Nat.mul_le_mul (by omega) (by omega)
  omega
theorem ws_prod2 (a b : WS X) : (a.1.ws.length + 1) * (b.1.ws.length + 1) < 90000 := by
  have h1 := ws_len2 a
  have h2 := ws_len2 b
  have : (a.1.ws.length + 1) * (b.1.ws.length + 1) ≤ 50 * 50 := Nat.mul_le_mul (by omega) (by omega)
  omega
theorem ns_ok (a : WS X) (n : Nat) (m : Mu) : G.run pg (n + 1) i_spans_of [.lst (encL codI a.1.ns)] m = .ok (.lst (a.1.ns.map spanD)) m :=
  spans_of_ok n items_lst (by have := ws_len1 a; omega) fun r hr => row_ne (can_rows a.2.cn r hr)
theorem wds_ok (a : WS X) (n : Nat) (m : Mu) : G.run pg (n + 1) i_ranges_of [.lst (encL codS a.1.ws)] m = .ok (.lst (a.1.ws.map rangeDt)) m :=
  ranges_of_ok n items_lst (by have := ws_len2 a; omega) fun r hr => ⟨row_at (can_rows a.2.cw r hr), (row_ne (can_rows a.2.cw r hr)).2⟩
theorem and_ok (n : Nat) (a b : WS X) (m : Mu) : G.run pg (n + 5) i_ScalarSet_and [sd a, sd b] m = .ok (sd (inter a b)) m := by
  have q1 := met_ok (n + 3) (K := codI) (d0 := .tup (encL codI a.1.ns)) (d1 := .tup (encL codI b.1.ns)) (m := m) items_tup items_tup (ws_prod1 a b)
  have q2 := met_ok (n + 3) (K := codS) (d0 := .tup (encL codS a.1.ws)) (d1 := .tup (encL codS b.1.ws)) (m := m) items_tup items_tup (ws_prod2 a b)
  have q3 := ns_ok (inter a b) (n + 3) m
  have q4 := wds_ok (inter a b) (n + 3) m
  have q5 := inter_fold (pg.par (G.run pg (n + 4)) (G.mk pg (n + 4))) ⟨_, _, rfl⟩ a b m
  have q6 := remake n (inter a b) m
  change G.run pg (n + 4) i_spans_of [.lst (encL codI (met codI.O a.1.ns b.1.ns))] m = .ok (.lst ((met codI.O a.1.ns b.1.ns).map spanD)) m at q3
  change G.run pg (n + 4) i_ranges_of [.lst (encL codS (met codS.O a.1.ws b.1.ws))] m = .ok (.lst ((met codS.O a.1.ws b.1.ws).map rangeDt)) m at q4
  change G.mk pg (n + 4) 0 [.bl (a.1.nu && b.1.nu), .lst ((bls (a.1.fa && b.1.fa) (a.1.tr && b.1.tr)).map .bl), .lst ((met codI.O a.1.ns b.1.ns).map spanD), .lst ((met codS.O a.1.ws b.1.ws).map rangeDt)] m = _ at q6
  rw [run_eq fn_ScalarSet_and rfl]
  cases h : a.1.nu <;> rw [h] at q6 <;> simp only [Bool.false_and, Bool.true_and] at q6 <;> simp [b_ScalarSet_and, ini, arrK, arrN, arr, h, q1, q2, q3, q4, q5, q6]
theorem inv_ok (n : Nat) (a : WS X) (m : Mu) : G.run pg (n + 5) i_ScalarSet_invert [sd a] m = .ok (sd (compl a)) m := by
  have q1 := out_ok (n + 3) (K := codI) (d0 := .tup (encL codI a.1.ns)) (first := .bot) (last := .top) (m := m) items_tup (by have := ws_len1 a; omega)
  have q2 := out_ok (n + 3) (K := codS) (d0 := .tup (encL codS a.1.ws)) (first := .at_ z0) (last := .top) (m := m) items_tup (by have := ws_len2 a; omega)
  have q3 := ns_ok (compl a) (n + 3) m
  have q4 := wds_ok (compl a) (n + 3) m
  have q5 := compl_fold (pg.par (G.run pg (n + 4)) (G.mk pg (n + 4))) ⟨_, _, rfl⟩ a m
  have q6 := remake n (compl a) m
  change G.run pg (n + 4) i_outside_pairs [_, .tup [.int (-1)], .tup [.int 1]] m = _ at q1
  change G.run pg (n + 4) i_outside_pairs [_, .tup [.int 0, .str ""], .tup [.int 1]] m = _ at q2
  change G.run pg (n + 4) i_spans_of [.lst (encL codI (out codI.O .top .bot a.1.ns))] m = .ok (.lst ((out codI.O .top .bot a.1.ns).map spanD)) m at q3
  change G.run pg (n + 4) i_ranges_of [.lst (encL codS (out codS.O .top (.at_ z0) a.1.ws))] m = .ok (.lst ((out codS.O .top (.at_ z0) a.1.ws).map rangeDt)) m at q4
  change G.mk pg (n + 4) 0 [.bl (!a.1.nu), .lst ((bls (!a.1.fa) (!a.1.tr)).map .bl), .lst ((out codI.O .top .bot a.1.ns).map spanD), .lst ((out codS.O .top (.at_ z0) a.1.ws).map rangeDt)] m = _ at q6
  rw [run_eq fn_ScalarSet_invert rfl]
  have hs2 : 2 ≤ sizeL := by decide
  simp [b_ScalarSet_invert, ini, arrK, arrN, arr, hs2, q1, q2, q3, q4, q5, q6]
/-! operators as simp sees them -/
section
variable {e : En} {m : Mu} {k : Nat → List D → Mu → R0} (n : Nat) (a b : WS X)
@[simp] theorem bin_and : (pg.par (G.run pg (n + 5)) k).bin .BitAnd (sd a) (sd b) (some (sd a)) (some (sd b)) e m = .ok (sd (inter a b)) e m := by
  show (G.run pg (n + 5) i_ScalarSet_and [sd a, sd b] m).lift e = _
  rw [and_ok]; rfl
@[simp] theorem un_inv : (pg.par (G.run pg (n + 5)) k).un .Invert (sd a) (some (sd a)) e m = .ok (sd (compl a)) e m := by
  show (G.run pg (n + 5) i_ScalarSet_invert [sd a] m).lift e = _
  rw [inv_ok]; rfl
theorem or_ok : G.run pg (n + 6) i_ScalarSet_or [sd a, sd b] m = .ok (sd (union a b)) m := by
  rw [run_eq fn_ScalarSet_or rfl]
  simp [b_ScalarSet_or, ini]
  rfl
theorem sub_ok : G.run pg (n + 6) i_ScalarSet_sub [sd a, sd b] m = .ok (sd (diff a b)) m := by
  rw [run_eq fn_ScalarSet_sub rfl]
  simp [b_ScalarSet_sub, ini]
  rfl
@[simp] theorem bin_or : (pg.par (G.run pg (n + 6)) k).bin .BitOr (sd a) (sd b) (some (sd a)) (some (sd b)) e m = .ok (sd (union a b)) e m := by
  show (G.run pg (n + 6) i_ScalarSet_or [sd a, sd b] m).lift e = _
  rw [or_ok]; rfl
@[simp] theorem bin_sub : (pg.par (G.run pg (n + 6)) k).bin .Sub (sd a) (sd b) (some (sd a)) (some (sd b)) e m = .ok (sd (diff a b)) e m := by
  show (G.run pg (n + 6) i_ScalarSet_sub [sd a, sd b] m).lift e = _
  rw [sub_ok]; rfl
theorem xor_ok : G.run pg (n + 7) i_ScalarSet_xor [sd a, sd b] m = .ok (sd (xor a b)) m := by
  rw [run_eq fn_ScalarSet_xor rfl]
  simp [b_ScalarSet_xor, ini]
  rfl
@[simp] theorem bin_xor : (pg.par (G.run pg (n + 7)) k).bin .BitXor (sd a) (sd b) (some (sd a)) (some (sd b)) e m = .ok (sd (xor a b)) e m := by
  show (G.run pg (n + 7) i_ScalarSet_xor [sd a, sd b] m).lift e = _
  rw [xor_ok]; rfl
/-! truth and comparisons -/
def nonE (a : WS X) : Bool := a.1.nu || ((a.1.fa || a.1.tr) || (!a.1.ns.isEmpty || !a.1.ws.isEmpty))
theorem bls_ne (f t : Bool) : (!((bls f t).map D.bl).isEmpty) = (f || t) := by cases f <;> cases t <;> rfl
theorem encL_ne {α : Type} (K : Cod α) (p : Pr (Cut α)) : (!(encL K p).isEmpty) = !p.isEmpty := by cases p <;> rfl
theorem bool_ok : G.run pg (n + 1) i_ScalarSet_bool [sd a] m = .ok (.bl (nonE a)) m := by
  rw [run_eq fn_ScalarSet_bool rfl]
  cases h1 : a.1.nu <;> cases h2 : (a.1.fa || a.1.tr) <;> cases h3 : (!a.1.ns.isEmpty) <;> simp [-List.isEmpty_map, -Bool.not_eq_true', -Bool.not_eq_true, -Bool.not_eq_false', b_ScalarSet_bool, ini, b1D, bls_ne, encL_ne, h1, h2, h3, nonE]
@[simp] theorem tru_sd : (pg.par (G.run pg (n + 1)) k).tru false (sd a) (some (sd a)) e m = .ok (nonE a) e m := by
  show ((G.run pg (n + 1) i_ScalarSet_bool [sd a] m).lift e).bind _ = _
  rw [bool_ok]; rfl
def leB (a b : WS X) : Bool := !nonE (diff a b)
theorem le_ok : G.run pg (n + 7) i_ScalarSet_le [sd a, sd b] m = .ok (.bl (leB a b)) m := by
  rw [run_eq fn_ScalarSet_le rfl]
  simp [b_ScalarSet_le, ini, leB]
@[simp] theorem cmp_le : (pg.par (G.run pg (n + 7)) k).cmp .LtE (sd a) (sd b) (some (sd a)) (some (sd b)) e m = .ok (.bl (leB a b)) e m := by
  show ((G.run pg (n + 7) i_ScalarSet_le [sd a, sd b] m).lift e).bind _ = _
  rw [le_ok]; cases leB a b <;> rfl
theorem lt_ok : G.run pg (n + 8) i_ScalarSet_lt [sd a, sd b] m = .ok (.bl (leB a b && !leB b a)) m := by
  rw [run_eq fn_ScalarSet_lt rfl]
  cases h : leB a b <;> simp [b_ScalarSet_lt, ini, h]
@[simp] theorem cmp_lt : (pg.par (G.run pg (n + 8)) k).cmp .Lt (sd a) (sd b) (some (sd a)) (some (sd b)) e m = .ok (.bl (leB a b && !leB b a)) e m := by
  show ((G.run pg (n + 8) i_ScalarSet_lt [sd a, sd b] m).lift e).bind _ = _
  rw [lt_ok]; cases leB a b <;> cases leB b a <;> rfl
/-! pieces -/
def pcs (a : WS X) : D := .tup [.bl a.1.nu, .lst ((bls a.1.fa a.1.tr).map .bl), .lst (a.1.ns.map spanD), .lst (a.1.ws.map rangeDt)]
theorem pcs_ok : G.run pg (n + 2) i_ScalarSet_pieces [sd a] m = .ok (pcs a) m :=
  pieces_ok n (fun r hr => row_ne (can_rows a.2.cn r hr)) (fun r hr => ⟨row_at (can_rows a.2.cw r hr), (row_ne (can_rows a.2.cw r hr)).2⟩) (by have := ws_len1 a; omega) (by have := ws_len2 a; omega)
end
end K04
end
section
set_option Elab.async false
set_option linter.all false
set_option maxRecDepth 100000
set_option maxHeartbeats 1000000
namespace K04
open PySem G
open OS (Pr mem mx mn met met1 one out Can CanS)
/-! ### draws -/
theorem sg_strOk {z : Str} (h : Sg z) : PyData.strOk z = true := by
  unfold PyData.strOk
  rw [← Array.all_toList]
  refine List.all_eq_true.mpr fun c hc => ?_
  have q := List.all_eq_true.mp h c hc
  simp [sgB] at q ⊢
  omega
def NumOk (i : Int) : Prop := -10000000000000000000000000000000 < i ∧ i < 10000000000000000000000000000000
def SpOk (r : Option Int × Option Int) : Prop := SpanOk r.1 r.2 ∧ (∀ l, r.1 = some l → NumOk l) ∧ ∀ h, r.2 = some h → NumOk h
def RgOk (r : Txs × Option Txs) : Prop := Sg r.1.1 ∧ r.1.1.length ≤ 100 ∧ ∀ h, r.2 = some h → Sg h.1 ∧ h.1.length ≤ 100 ∧ r.1.1.cps.toList < h.1.cps.toList
theorem pow20 : binD .Pow (.int 10) (.int 20) = some (.int 100000000000000000000) := by kernel_rfl
theorem span_ok (n : Nat) {k : Nat} {m : Mu} (h : Src m k) : ∃ r m', G.run pg (n + 4) i_span [.cel k] m = .ok (spD r) m' ∧ SpOk r ∧ Src m' k := by
  obtain ⟨v, m1, e1, a1, b1, h1⟩ := number_ok n h
  obtain ⟨v2, m2, e2, a2, b2, h2⟩ := take_ok (n + 1) (b := 9) h1 (by decide) (by decide)
  obtain ⟨v3, m3, e3, a3, b3, h3⟩ := take_ok (n + 1) (b := 100000000000000000000) h2 (by decide) (by decide)
  obtain ⟨d, m4, e4, hd, h4⟩ := pick_ok n (ds := [.int 0, .int 1, .int v2, .int v3]) h3 (by simp) (by simp)
  obtain ⟨v5, m5, e5, a5, b5, h5⟩ := take_ok (n + 1) (b := 8) h4 (by decide) (by decide)
  obtain ⟨v6, m6, e6, a6, b6, h6⟩ := take_ok (n + 1) (b := 8) h5 (by decide) (by decide)
  obtain ⟨u, rfl, u0, u1⟩ : ∃ u, d = .int u ∧ 0 ≤ u ∧ u < 100000000000000000000 := by
    simp only [List.mem_cons, List.not_mem_nil, or_false] at hd
    rcases hd with rfl | rfl | rfl | rfl <;> exact ⟨_, rfl, by omega, by omega⟩
  have hs2 : 2 ≤ sizeL := by decide
  have hs4 : 4 ≤ sizeL := by decide
  refine ⟨(if v5 = 0 then none else some v, if v6 = 0 then none else some (v + u)), m6, ?_, ⟨?_, ?_, ?_⟩, h6⟩
  · rw [run_eq fn_span rfl]
    by_cases c1 : v5 = 0 <;> by_cases c2 : v6 = 0 <;> simp [b_span, ini, arrK, arrN, arr, e1, e2, e3, e4, e5, e6, pow20, hs2, hs4, c1, c2, spD, oI]
  · by_cases c1 : v5 = 0 <;> by_cases c2 : v6 = 0 <;> simp [c1, c2, SpanOk] <;> omega
  · intro l hl
    by_cases c1 : v5 = 0 <;> simp [c1] at hl
    subst hl
    constructor <;> omega
  · intro l hl
    by_cases c1 : v6 = 0 <;> simp [c1] at hl
    subst hl
    constructor <;> omega
theorem app_cps (a b : Str) : (a ++ b).cps.toList = a.cps.toList ++ b.cps.toList := by
  show (a.cps ++ b.cps).toList = _
  simp
theorem sg_app {a b : Str} (ha : Sg a) (hb : Sg b) : Sg (a ++ b) := by
  unfold Sg at *
  rw [app_cps, List.all_append, ha, hb]
  rfl
theorem lt_app : ∀ (l : List Nat) {r : List Nat}, r ≠ [] → l < l ++ r
  | [], r, h => by
    cases r with
    | nil => exact absurd rfl h
    | cons x r => exact List.nil_lt_cons ..
  | x :: l, r, h => by
    rw [List.cons_append, List.cons_lt_cons_iff]
    exact .inr ⟨rfl, lt_app l h⟩
theorem lt_appS {a b : Str} (h : b.cps.toList ≠ []) : a.cps.toList < (a ++ b).cps.toList := by
  rw [app_cps]
  exact lt_app _ h
theorem range_ok (n : Nat) {k : Nat} {m : Mu} (h : Src m k) : ∃ r m', G.run pg (n + 5) i_range [.cel k] m = .ok (tzD r) m' ∧ RgOk r ∧ Src m' k := by
  obtain ⟨w, m1, e1, s1, l1, h1⟩ := word_ok n h
  obtain ⟨o, m2, e2, s2, l2, h2⟩ := word_ok n h1
  have x1 : (Str.ofString " ").length = 1 := by decide +kernel
  have x2 : (Str.ofString "  ").length = 2 := by decide +kernel
  have x3 : (Str.ofString "a").length = 1 := by decide +kernel
  have x4 : (Str.ofString "~").length = 1 := by decide +kernel
  have y1 : Sg (Str.ofString " ") := by decide +kernel
  have y2 : Sg (Str.ofString "  ") := by decide +kernel
  have y3 : Sg (Str.ofString "a") := by decide +kernel
  have y4 : Sg (Str.ofString "~") := by decide +kernel
  have n1 : (Str.ofString " ").cps.toList ≠ [] := by decide +kernel
  have n2 : (Str.ofString "  ").cps.toList ≠ [] := by decide +kernel
  have n3 : (Str.ofString "a").cps.toList ≠ [] := by decide +kernel
  have n4 : (Str.ofString "~").cps.toList ≠ [] := by decide +kernel
  have hsz : sizeL = 16777216 := rfl
  have f1 : w.length + 1 ≤ sizeL := by omega
  have f2 : w.length + 2 ≤ sizeL := by omega
  have f3 : w.length + 1 + o.length ≤ sizeL := by omega
  obtain ⟨d, m3, e3, hd, h3⟩ := pick_ok (n + 1) (ds := [.str (w ++ " "), .str (w ++ "  "), .str (w ++ "a"), .str (w ++ "~"), .non, .str (if w.cps.toList < o.cps.toList then o else w ++ " " ++ o)]) h2 (by simp) (by simp)
  have key : ∃ hi : Option Txs, d = oT hi ∧ ∀ z, hi = some z → Sg z.1 ∧ z.1.length ≤ 100 ∧ w.cps.toList < z.1.cps.toList := by
    have one : ∀ z : Str, Sg z → z.length ≤ 100 → w.cps.toList < z.cps.toList → ∃ hi : Option Txs, D.str z = oT hi ∧ ∀ z, hi = some z → Sg z.1 ∧ z.1.length ≤ 100 ∧ w.cps.toList < z.1.cps.toList := fun z g1 g2 g3 =>
      ⟨some ⟨z, sg_strOk g1⟩, rfl, fun y hy => by cases hy; exact ⟨g1, g2, g3⟩⟩
    simp only [List.mem_cons, List.not_mem_nil, or_false] at hd
    rcases hd with rfl | rfl | rfl | rfl | rfl | rfl
    · exact one _ (sg_app s1 y1) (by rw [strLen_append]; omega) (lt_appS n1)
    · exact one _ (sg_app s1 y2) (by rw [strLen_append]; omega) (lt_appS n2)
    · exact one _ (sg_app s1 y3) (by rw [strLen_append]; omega) (lt_appS n3)
    · exact one _ (sg_app s1 y4) (by rw [strLen_append]; omega) (lt_appS n4)
    · exact ⟨none, rfl, fun y hy => nomatch hy⟩
    · by_cases c : w.cps.toList < o.cps.toList
      · rw [if_pos c]
        exact one _ s2 (by omega) c
      · rw [if_neg c]
        refine one _ (sg_app (sg_app s1 y1) s2) (by rw [strLen_append, strLen_append]; omega) ?_
        rw [app_cps, app_cps, List.append_assoc]
        refine lt_app _ fun hh => n1 (List.append_eq_nil_iff.mp hh).1
  obtain ⟨hi, rfl, hh⟩ := key
  refine ⟨(⟨w, sg_strOk s1⟩, hi), m3, ?_, ⟨s1, by show w.length ≤ 100; omega, hh⟩, h3⟩
  rw [run_eq fn_range rfl]
  have hs2 : 2 ≤ sizeL := by decide
  have hs6 : 6 ≤ sizeL := by decide
  by_cases c : w.cps.toList < o.cps.toList
  · rw [if_pos c] at e3
    simp [b_range, ini, arrK, arrN, arr, e1, e2, e3, x1, x2, x3, x4, f1, f2, f3, strLen_append, hs2, hs6, c, tzD]
  · rw [if_neg c] at e3
    simp [b_range, ini, arrK, arrN, arr, e1, e2, e3, x1, x2, x3, x4, f1, f2, f3, strLen_append, hs2, hs6, c, tzD]
/-! what a set is made of -/
structure Told where
  nu : Bool
  bs : List Bool
  sp : List (Option Int × Option Int)
  rg : List (Txs × Option Txs)
def toldD (T : Told) : D := .dic [(.inr "null", .bl T.nu), (.inr "truths", .lst (T.bs.map .bl)), (.inr "spans", .lst (T.sp.map spD)), (.inr "ranges", .lst (T.rg.map tzD))]
structure TOk (T : Told) : Prop where
  l1 : T.bs.length ≤ 3
  l2 : T.sp.length ≤ 4
  l3 : T.rg.length ≤ 3
  o1 : ∀ r ∈ T.sp, SpOk r
  o2 : ∀ r ∈ T.rg, RgOk r
theorem cut3 {v : Int} (h0 : 0 ≤ v) (h1 : v < 4) : ∃ bs : List Bool, slD (.lst [.bl true, .bl false, .bl true]) none (some v) = some (.lst (bs.map .bl)) ∧ bs.length ≤ 3 := by
  have : v = 0 ∨ v = 1 ∨ v = 2 ∨ v = 3 := by omega
  rcases this with rfl | rfl | rfl | rfl
  · exact ⟨[], by kernel_rfl, by decide⟩
  · exact ⟨[true], by kernel_rfl, by decide⟩
  · exact ⟨[true, false], by kernel_rfl, by decide⟩
  · exact ⟨[true, false, true], by kernel_rfl, by decide⟩
theorem set3 (a b v : D) : setiD (.dic [(.inr "null", a), (.inr "truths", b)]) (.str "spans") v = some (.dic [(.inr "null", a), (.inr "truths", b), (.inr "spans", v)]) := by kernel_rfl
theorem set4 (a b c v : D) : setiD (.dic [(.inr "null", a), (.inr "truths", b), (.inr "spans", c)]) (.str "ranges") v = some (.dic [(.inr "null", a), (.inr "truths", b), (.inr "spans", c), (.inr "ranges", v)]) := by kernel_rfl
theorem told_ok (n : Nat) {k : Nat} {m : Mu} (h : Src m k) : ∃ T m', G.run pg (n + 6) i_told [.cel k] m = .ok (toldD T) m' ∧ TOk T ∧ Src m' k := by
  obtain ⟨v1, m1, e1, a1, b1, h1⟩ := take_ok (n + 3) (b := 2) h (by decide) (by decide)
  obtain ⟨v2, m2, e2, a2, b2, h2⟩ := take_ok (n + 3) (b := 4) h1 (by decide) (by decide)
  obtain ⟨bs, ebs, lbs⟩ := cut3 a2 b2
  obtain ⟨v3, m3, e3, a3, b3, h3⟩ := take_ok (n + 3) (b := 5) h2 (by decide) (by decide)
  have sL : sizeL = 16777216 := rfl
  have spans := fun (x1 : EV) => foldR_draw (f := lcTurn (pg.par (G.run pg (n + 5)) (G.mk pg (n + 5))) (.call 10 (.cons (.loc 0) .nil) .nil) (.nm 2) (.tru (.cst (.bl true))) [2]) (g := spD) (Q := SpOk) (I := fun m => Src m k) (e := [.val (.cel k), x1, .no]) (fun d acc m hm ha => by
    obtain ⟨r, m', q1, q2, q3⟩ := span_ok (n + 1) hm
    exact ⟨r, m', by simp [lcTurn, arrK, arrN, arr, q1, pushR, ha], q2, q3⟩) (rInts 0 v3.toNat 1) [] m3 h3 (by simp [rInts]; omega)
  obtain ⟨sp, m4, e4, l4, q4, h4⟩ := spans (.own (.dic [(.inr "null", .bl (v1 == 0)), (.inr "truths", .lst (bs.map .bl))]))
  obtain ⟨v5, m5, e5, a5, b5, h5⟩ := take_ok (n + 3) (b := 4) h4 (by decide) (by decide)
  have ranges := fun (x1 : EV) => foldR_draw (f := lcTurn (pg.par (G.run pg (n + 5)) (G.mk pg (n + 5))) (.call 11 (.cons (.loc 0) .nil) .nil) (.nm 2) (.tru (.cst (.bl true))) [2]) (g := tzD) (Q := RgOk) (I := fun m => Src m k) (e := [.val (.cel k), x1, .no]) (fun d acc m hm ha => by
    obtain ⟨r, m', q1, q2, q3⟩ := range_ok n hm
    exact ⟨r, m', by simp [lcTurn, arrK, arrN, arr, q1, pushR, ha], q2, q3⟩) (rInts 0 v5.toNat 1) [] m5 h5 (by simp [rInts]; omega)
  obtain ⟨rg, m6, e6, l6, q6, h6⟩ := ranges (.own (.dic [(.inr "null", .bl (v1 == 0)), (.inr "truths", .lst (bs.map .bl)), (.inr "spans", .lst (sp.map spD))]))
  refine ⟨⟨v1 == 0, bs, sp, rg⟩, m6, ?_, ⟨lbs, ?_, ?_, q4, q6⟩, h6⟩
  · have hr3 : rangeD 0 v3 1 = some (rInts 0 v3.toNat 1) := by rw [range1 (by decide) (by decide) (by omega) (by omega)]; simp
    have hr5 : rangeD 0 v5 1 = some (rInts 0 v5.toNat 1) := by rw [range1 (by decide) (by decide) (by omega) (by omega)]; simp
    have hs3 : 3 ≤ sizeL := by decide
    rw [List.nil_append] at e4 e6
    have hp : partD (.call 3 (.cons (.loc 0) (.cons (.cst (.int 4)) .nil)) .nil) (.int v2) = some (some v2) := rfl
    rw [run_eq fn_told rfl]
    simp [b_told, ini, arrK, arrN, arr, e1, e2, e3, e4, e5, e6, ebs, hr3, hr5, hs3, hp, set3, set4, toldD]
  · rw [l4]; simp [rInts]; omega
  · rw [l6]; simp [rInts]; omega
end K04
end
section
set_option Elab.async false
set_option linter.all false
set_option maxRecDepth 100000
set_option maxHeartbeats 1000000
namespace K04
open PySem G
open OS (Pr mem mx mn met met1 one out Can CanS)
variable {X : Dom}
/-! ### equality -/
theorem eq2 {x y a b : D} {p q : Bool} (h1 : eqD x a = some p) (h2 : eqD y b = some q) : eqD (.tup [x, y]) (.tup [a, b]) = some (p && q) := by
  show (match eqD x a with
    | some true => match eqD y b with
      | some true => eqL [] []
      | some false => some false
      | none => none
    | some false => some false
    | none => none) = _
  rw [h1, h2]
  cases p <;> cases q <;> rfl
theorem oI_eq (x y : Option Int) : eqD (oI x) (oI y) = some (decide (x = y)) := by
  cases x <;> cases y
  case some.some a b =>
    show some (a == b) = _
    by_cases e : a = b
    · subst e; simp
    · simp [e]
  all_goals rfl
theorem txs_eq (a b : Txs) : (a.1 == b.1) = decide (a = b) := by
  by_cases e : a = b
  · subst e; simp
  · have : ¬ a.1 = b.1 := fun h => e (Subtype.ext h)
    simp [e, this]
theorem oT_eq (x y : Option Txs) : eqD (oT x) (oT y) = some (decide (x = y)) := by
  cases x <;> cases y
  case some.some a b =>
    show some (a.1 == b.1) = _
    rw [txs_eq]
    simp
  all_goals rfl
theorem spanD_eq {r s : Cut Int × Cut Int} (hr : r.1 ≠ .top ∧ r.2 ≠ .bot) (hs : s.1 ≠ .top ∧ s.2 ≠ .bot) : eqD (spanD r) (spanD s) = some (decide (r = s)) := by
  rw [← spB_D, ← spB_D]
  refine (eq2 (oI_eq ..) (oI_eq ..)).trans ?_
  congr 1
  by_cases e : r = s
  · subst e; simp
  · have : ¬ ((spB r).1 = (spB s).1 ∧ (spB r).2 = (spB s).2) := fun h => e (by rw [← spB_C hr, ← spB_C hs, h.1, h.2])
    rw [decide_eq_false e, ← Bool.decide_and, decide_eq_false this]
theorem rangeD_eq {r s : Cut Txs × Cut Txs} (hr : (∃ z, r.1 = .at_ z) ∧ r.2 ≠ .bot) (hs : (∃ z, s.1 = .at_ z) ∧ s.2 ≠ .bot) : eqD (rangeDt r) (rangeDt s) = some (decide (r = s)) := by
  rw [← rgB_D hr.1, ← rgB_D hs.1]
  refine (eq2 (oT_eq (some (rgB r).1) (some (rgB s).1)) (oT_eq ..)).trans ?_
  congr 1
  by_cases e : r = s
  · subst e; simp
  · have : ¬ (some (rgB r).1 = some (rgB s).1 ∧ (rgB r).2 = (rgB s).2) := fun h => e (by
      have h1 : (rgB r).1 = (rgB s).1 := by simpa using h.1
      rw [← rgB_C hr.1 hr.2, ← rgB_C hs.1 hs.2, h1, h.2])
    rw [decide_eq_false e, ← Bool.decide_and, decide_eq_false this]
theorem bls_inj {f t f2 t2 : Bool} (h : bls f t = bls f2 t2) : f = f2 ∧ t = t2 := by
  cases f <;> cases t <;> cases f2 <;> cases t2 <;> first | exact ⟨rfl, rfl⟩ | cases h
theorem ws_eq {a b : WS X} : a = b ↔ a.1.nu = b.1.nu ∧ bls a.1.fa a.1.tr = bls b.1.fa b.1.tr ∧ a.1.ns = b.1.ns ∧ a.1.ws = b.1.ws := by
  constructor
  · rintro rfl
    exact ⟨rfl, rfl, rfl, rfl⟩
  · rintro ⟨h1, h2, h3, h4⟩
    obtain ⟨h5, h6⟩ := bls_inj h2
    obtain ⟨⟨n1, f1, t1, p1, q1⟩, w1⟩ := a
    obtain ⟨⟨n2, f2, t2, p2, q2⟩, w2⟩ := b
    have h1 : n1 = n2 := h1
    have h5 : f1 = f2 := h5
    have h6 : t1 = t2 := h6
    have h3 : p1 = p2 := h3
    have h4 : q1 = q2 := h4
    subst h1 h5 h6 h3 h4
    rfl
theorem bl_eq (x y : Bool) : eqD (.bl x) (.bl y) = some (decide (x = y)) := by cases x <;> cases y <;> rfl
theorem pcs_eq (a b : WS X) : eqD (pcs a) (pcs b) = some (decide (a = b)) := by
  have e1 := bl_eq a.1.nu b.1.nu
  have e2 := eq_lsts (f := D.bl) (xs := bls a.1.fa a.1.tr) (ys := bls b.1.fa b.1.tr) fun x _ y _ => bl_eq x y
  have e3 := eq_lsts (f := spanD) (xs := a.1.ns) (ys := b.1.ns) fun x hx y hy => spanD_eq (row_ne (can_rows a.2.cn x hx)) (row_ne (can_rows b.2.cn y hy))
  have e4 := eq_lsts (f := rangeDt) (xs := a.1.ws) (ys := b.1.ws) fun x hx y hy => rangeD_eq ⟨row_at (can_rows a.2.cw x hx), (row_ne (can_rows a.2.cw x hx)).2⟩ ⟨row_at (can_rows b.2.cw y hy), (row_ne (can_rows b.2.cw y hy)).2⟩
  show (match eqD (.bl a.1.nu) (.bl b.1.nu) with
    | some true => match eqD (.lst ((bls a.1.fa a.1.tr).map .bl)) (.lst ((bls b.1.fa b.1.tr).map .bl)) with
      | some true => match eqD (.lst (a.1.ns.map spanD)) (.lst (b.1.ns.map spanD)) with
        | some true => match eqD (.lst (a.1.ws.map rangeDt)) (.lst (b.1.ws.map rangeDt)) with
          | some true => eqL [] []
          | some false => some false
          | none => none
        | some false => some false
        | none => none
      | some false => some false
      | none => none
    | some false => some false
    | none => none) = _
  rw [e1, e2, e3, e4]
  have hd := ws_eq (a := a) (b := b)
  by_cases c1 : a.1.nu = b.1.nu <;> by_cases c2 : bls a.1.fa a.1.tr = bls b.1.fa b.1.tr <;> by_cases c3 : a.1.ns = b.1.ns <;> by_cases c4 : a.1.ws = b.1.ws <;> simp [hd, c1, c2, c3, c4, eqL]
theorem spanD_plain (r : Cut Int × Cut Int) : G.plain (spanD r) 58 = true := by
  obtain ⟨a, b⟩ := r
  cases a <;> cases b <;> rfl
theorem rangeDt_plain (r : Cut Txs × Cut Txs) : G.plain (rangeDt r) 58 = true := by
  obtain ⟨a, b⟩ := r
  have key : ∀ c, G.plain (lowS c) 57 = true := fun c => by
    cases c with
    | at_ z => exact z.2
    | _ => rfl
  show (G.plain (lowS a) 57 && (G.plain (lowS b) 57 && true)) = true
  rw [key, key]
  rfl
theorem pcs_plain (a : WS X) : G.plain (pcs a) 60 = true := by
  have e2 := plainL_map (f := D.bl) (n := 58) (xs := bls a.1.fa a.1.tr) fun x _ => rfl
  have e3 := plainL_map (f := spanD) (n := 58) (xs := a.1.ns) fun x _ => spanD_plain x
  have e4 := plainL_map (f := rangeDt) (n := 58) (xs := a.1.ws) fun x _ => rangeDt_plain x
  show (G.plain (.bl a.1.nu) 59 && (plainL ((bls a.1.fa a.1.tr).map .bl) 58 && (plainL (a.1.ns.map spanD) 58 && (plainL (a.1.ws.map rangeDt) 58 && true)))) = true
  rw [e2, e3, e4]
  rfl
theorem log_ok {i : Int} (h1 : -bigI - 1 ≤ i) (h2 : i ≤ bigI) : i.natAbs.log2 < 1920 := by
  by_cases h0 : i.natAbs = 0
  · rw [h0]; decide
  · rw [Nat.log2_lt h0]
    have h3 : i.natAbs ≤ 100000000000000000000000000000000000000001 := by unfold bigI at h1 h2; omega
    exact Nat.lt_of_le_of_lt h3 (Nat.lt_of_lt_of_le (by decide : _ < 2 ^ 200) (Nat.pow_le_pow_right (by decide) (by decide)))
theorem spanD_ints (a : WS X) {r : Cut Int × Cut Int} (h : r ∈ a.1.ns) : intsOk (spanD r) = true := by
  have key : ∀ i, Cut.at_ i ∈ X.SI → i.natAbs.log2 < 1920 ∧ (i - 1).natAbs.log2 < 1920 := fun i hi => by
    have := X.r1 i hi
    have hb : (0 : Int) < bigI := by decide
    exact ⟨log_ok (by omega) (by omega), log_ok (by omega) (by omega)⟩
  obtain ⟨x, y⟩ := r
  have c1 := a.2.un _ (mem_cuts1 h)
  have c2 := a.2.un _ (mem_cuts2 h)
  show (intsOk (lowI x) && (intsOk (highI y) && true)) = true
  have k1 : intsOk (lowI x) = true := by
    cases x with
    | at_ i => exact decide_eq_true (key i c1).1
    | _ => rfl
  have k2 : intsOk (highI y) = true := by
    cases y with
    | at_ i => exact decide_eq_true (key i c2).2
    | _ => rfl
  rw [k1, k2]
  rfl
theorem rangeDt_ints (r : Cut Txs × Cut Txs) : intsOk (rangeDt r) = true := by
  obtain ⟨a, b⟩ := r
  cases a <;> cases b <;> rfl
theorem spanD_width (r : Cut Int × Cut Int) : width (spanD r) ≤ 4000 := by
  obtain ⟨a, b⟩ := r
  have key : ∀ x : Option Int, width (oI x) ≤ 1921 := fun x => by cases x <;> simp [oI, width]
  have e : spanD (a, b) = .tup [oI (spB (a, b)).1, oI (spB (a, b)).2] := (spB_D (a, b)).symm
  rw [e]
  have k1 := key (spB (a, b)).1
  have k2 := key (spB (a, b)).2
  show (width (oI (spB (a, b)).1) + 2 + (width (oI (spB (a, b)).2) + 2 + 0)) + 3 ≤ 4000
  omega
theorem rangeDt_width (a : WS X) {r : Cut Txs × Cut Txs} (h : r ∈ a.1.ws) : width (rangeDt r) ≤ 4000 := by
  obtain ⟨x, y⟩ := r
  have c1 := a.2.uw _ (mem_cuts1 h)
  have c2 := a.2.uw _ (mem_cuts2 h)
  have key : ∀ c, c ∈ X.SS → width (lowS c) ≤ 1002 := fun c hc => by
    cases c with
    | at_ z =>
      have := (X.r2 z hc).2
      show 10 * z.1.length + 2 ≤ 1002
      omega
    | _ => decide
  have k1 := key x c1
  have k2 := key y c2
  show (width (lowS x) + 2 + (width (lowS y) + 2 + 0)) + 3 ≤ 4000
  omega
theorem pcs_repr (a : WS X) : reprD (pcs a) = some (toPy (pcs a)).shown := by
  refine repr_ok (pcs_plain a) ?_ ?_
  · have e2 := intsOkL_map (f := D.bl) (xs := bls a.1.fa a.1.tr) fun x _ => rfl
    have e3 := intsOkL_map (f := spanD) (xs := a.1.ns) fun x h => spanD_ints a h
    have e4 := intsOkL_map (f := rangeDt) (xs := a.1.ws) fun x _ => rangeDt_ints x
    show (intsOk (.bl a.1.nu) && (intsOkL ((bls a.1.fa a.1.tr).map .bl) && (intsOkL (a.1.ns.map spanD) && (intsOkL (a.1.ws.map rangeDt) && true)))) = true
    rw [e2, e3, e4]
    rfl
  · have e2 := widthL_map (f := D.bl) (k := 5) (xs := bls a.1.fa a.1.tr) fun x _ => Nat.le_refl _
    have e3 := widthL_map (f := spanD) (k := 4000) (xs := a.1.ns) fun x h => spanD_width x
    have e4 := widthL_map (f := rangeDt) (k := 4000) (xs := a.1.ws) fun x h => rangeDt_width a h
    have l1 := ws_len1 a
    have l2 := ws_len2 a
    have l3 : (bls a.1.fa a.1.tr).length ≤ 2 := by cases a.1.fa <;> cases a.1.tr <;> decide
    have hw : width (.bl a.1.nu) = 5 := rfl
    have hsz : sizeL = 16777216 := rfl
    show (width (.bl a.1.nu) + 2 + (widthL ((bls a.1.fa a.1.tr).map .bl) + 2 + 2 + (widthL (a.1.ns.map spanD) + 2 + 2 + (widthL (a.1.ws.map rangeDt) + 2 + 2 + 0)))) + 3 ≤ sizeL
    have m3 : a.1.ns.length * (4000 + 2) ≤ 50 * 4002 := Nat.mul_le_mul (by omega) (Nat.le_refl _)
    have m4 : a.1.ws.length * (4000 + 2) ≤ 50 * 4002 := Nat.mul_le_mul (by omega) (Nat.le_refl _)
    omega
/-! ### == , != , sameness -/
section
variable {e : En} {m : Mu} {k : Nat → List D → Mu → R0} (n : Nat) (a b : WS X)
theorem deref_pcs : deref m (pcs a) = pcs a := rfl
theorem eq_ok : G.run pg (n + 3) i_ScalarSet_eq [sd a, sd b] m = .ok (.bl (decide (a = b))) m := by
  have q1 := fun m => pcs_ok n (m := m) a
  have q2 := fun m => pcs_ok n (m := m) b
  have c : ∀ e m, (pg.par (G.run pg (n + 2)) (G.mk pg (n + 2))).cmp .Eq (pcs a) (pcs b) (some (pcs a)) (some (pcs b)) e m = .ok (.bl (decide (a = b))) e m := fun e m => by
    show R.opt ((eqT (pcs a) (pcs b)).map D.bl) e m = _
    have : eqT (pcs a) (pcs b) = some (decide (a = b)) := by
      rw [← pcs_eq]
      show (if isS (pcs a) && isS (pcs b) || G.plain (pcs a) 60 && G.plain (pcs b) 60 then eqD (pcs a) (pcs b) else none) = _
      rw [pcs_plain, pcs_plain]
      rfl
    rw [this]
    rfl
  rw [run_eq fn_ScalarSet_eq rfl]
  simp [b_ScalarSet_eq, ini, q1, q2, deref_pcs, c]
@[simp] theorem cmp_eqS : (pg.par (G.run pg (n + 3)) k).cmp .Eq (sd a) (sd b) (some (sd a)) (some (sd b)) e m = .ok (.bl (decide (a = b))) e m := by
  show ((G.run pg (n + 3) i_ScalarSet_eq [sd a, sd b] m).lift e).bind _ = _
  rw [eq_ok]; cases decide (a = b) <;> rfl
@[simp] theorem cmp_neS : (pg.par (G.run pg (n + 3)) k).cmp .NotEq (sd a) (sd b) (some (sd a)) (some (sd b)) e m = .ok (.bl (!decide (a = b))) e m := by
  show ((G.run pg (n + 3) i_ScalarSet_eq [sd a, sd b] m).lift e).bind _ = _
  rw [eq_ok]; cases decide (a = b) <;> rfl
theorem same_ok : G.run pg (n + 4) i_same [sd a, sd a] m = .ok (.bl true) m := by
  have q1 := fun m => pcs_ok (n + 1) (m := m) a
  have r1 := pcs_repr a
  rw [run_eq fn_same rfl]
  simp [b_same, ini, q1, deref_pcs, r1]
theorem all_same {P : Par} (hP : P = pg.par (G.run pg (n + 4)) k) {L : List (WS X × WS X)} (h : ∀ p ∈ L, p.1 = p.2) {e0 : En} (c : C) (t : Tg) (i : Nat) (own : List Nat) (hc : ∀ a : WS X, ∀ acc, ∀ m, lcTurn P (.cst (.int 1)) t (.not_ (.tru c)) own (.tup [sd a, sd a]) acc e0 m = .ok acc e0 m) (m : Mu) :
    foldR (lcTurn P (.cst (.int 1)) t (.not_ (.tru c)) own) (L.map fun p => .tup [sd p.1, sd p.2]) [] e0 m = .ok [] e0 m := by
  induction L generalizing m with
  | nil => rfl
  | cons p L ih =>
    obtain ⟨x, y⟩ := p
    have hxy : x = y := h _ (List.mem_cons_self ..)
    subst hxy
    show (lcTurn P (.cst (.int 1)) t (.not_ (.tru c)) own (.tup [sd x, sd x]) [] e0 m).bind _ = _
    rw [hc]
    exact ih (fun p hp => h p (List.mem_cons_of_mem _ hp)) m
end
/-! ### the order -/
theorem nonE_iff (a : WS X) : nonE a = true ↔ ∃ p, sem a p = true := by
  constructor
  · intro h
    unfold nonE at h
    simp only [Bool.or_eq_true] at h
    rcases h with h | (h | h) | h | h
    · exact ⟨.n, h⟩
    · exact ⟨.f, h⟩
    · exact ⟨.t, h⟩
    · cases hn : a.1.ns with
      | nil => rw [hn] at h; cases h
      | cons r p =>
        have hr := can_rows a.2.cn r (by rw [hn]; exact List.mem_cons_self ..)
        have ht := (row_ne hr).1
        refine ⟨.i r.1 hr.1 (by cases hc : r.1 with
          | top => exact absurd hc ht
          | _ => rfl), ?_⟩
        show mem codI.O a.1.ns r.1 = true
        rw [hn, OS.mem_cons]
        have : OS.has1 codI.O r.1 r = true := by
          show (!codI.O.lt r.1 r.1 && codI.O.lt r.1 r.2) = true
          rw [OS.Ord.irr, hr.2]; rfl
        rw [this]; rfl
    · cases hn : a.1.ws with
      | nil => rw [hn] at h; cases h
      | cons r p =>
        have hr := can_rows a.2.cw r (by rw [hn]; exact List.mem_cons_self ..)
        have ht := (row_ne hr).1
        refine ⟨.s r.1 hr.1 (by cases hc : r.1 with
          | top => exact absurd hc ht
          | _ => rfl), ?_⟩
        show mem codS.O a.1.ws r.1 = true
        rw [hn, OS.mem_cons]
        have : OS.has1 codS.O r.1 r = true := by
          show (!codS.O.lt r.1 r.1 && codS.O.lt r.1 r.2) = true
          rw [OS.Ord.irr, hr.2]; rfl
        rw [this]; rfl
  · rintro ⟨p, hp⟩
    unfold nonE
    cases p with
    | n => have hp : a.1.nu = true := hp; rw [hp]; rfl
    | f => have hp : a.1.fa = true := hp; rw [hp]; simp
    | t => have hp : a.1.tr = true := hp; rw [hp]; simp
    | i x h g =>
      have hp : mem codI.O a.1.ns x = true := hp
      cases hn : a.1.ns with
      | nil => rw [hn] at hp; cases hp
      | cons r p => simp
    | s x h g =>
      have hp : mem codS.O a.1.ws x = true := hp
      cases hn : a.1.ws with
      | nil => rw [hn] at hp; cases hp
      | cons r p => simp
theorem leB_iff (a b : WS X) : leB a b = true ↔ ∀ p, sem a p = true → sem b p = true := by
  unfold leB
  rw [Bool.not_eq_true', ← Bool.not_eq_true, nonE_iff]
  constructor
  · intro h p hp
    cases hb : sem b p with
    | true => rfl
    | false => exact absurd ⟨p, by rw [sem_diff, hp, hb]; rfl⟩ h
  · rintro h ⟨p, hp⟩
    rw [sem_diff] at hp
    cases ha : sem a p with
    | false => rw [ha] at hp; cases hp
    | true => rw [h p ha, Bool.not_true, Bool.and_false] at hp; cases hp
theorem le_inter (a b : WS X) : decide (inter a b = a) = leB a b := by
  rw [Bool.eq_iff_iff, leB_iff, decide_eq_true_eq]
  constructor
  · intro h p hp
    have := sem_inter a b p
    rw [h, hp] at this
    simpa using this.symm
  · intro h
    refine ws_ext fun p => ?_
    rw [sem_inter]
    cases ha : sem a p with
    | false => rfl
    | true => rw [h p ha]; rfl
theorem le_union (a b : WS X) : decide (union a b = b) = leB a b := by
  rw [Bool.eq_iff_iff, leB_iff, decide_eq_true_eq]
  constructor
  · intro h p hp
    have := sem_union a b p
    rw [h, hp] at this
    simpa using this
  · intro h
    refine ws_ext fun p => ?_
    rw [sem_union]
    cases ha : sem a p with
    | false => rfl
    | true => rw [h p ha]; rfl
theorem eq_le (a b : WS X) : decide (a = b) = (leB a b && leB b a) := by
  rw [Bool.eq_iff_iff, Bool.and_eq_true, leB_iff, leB_iff, decide_eq_true_eq]
  constructor
  · rintro rfl
    exact ⟨fun _ h => h, fun _ h => h⟩
  · rintro ⟨h1, h2⟩
    refine ws_ext fun p => ?_
    cases ha : sem a p with
    | true => rw [h1 p ha]
    | false =>
      cases hb : sem b p with
      | false => rfl
      | true => rw [h2 p hb] at ha; cases ha
theorem le_1 (a b : WS X) : leB (inter a b) a = true := by
  rw [leB_iff]
  intro p hp
  rw [sem_inter] at hp
  simp at hp
  exact hp.1
theorem le_2 (a b : WS X) : leB a (union a b) = true := by
  rw [leB_iff]
  intro p hp
  rw [sem_union, hp]; rfl
theorem le_trans {a b c : WS X} (h1 : leB a b = true) (h2 : leB b c = true) : leB a c = true := by
  rw [leB_iff] at *
  exact fun p hp => h2 p (h1 p hp)
end K04
end
section
set_option Elab.async false
set_option linter.all false
set_option maxRecDepth 100000
set_option maxHeartbeats 4000000
namespace K04
open PySem G
open OS (Pr mem mx mn met met1 one out Can CanS)
variable {X : Dom}
/-! ### the laws -/
theorem empt_make (n : Nat) (m : Mu) : G.mk pg (n + 4) 0 [.bl false, .tup [], .tup [], .tup []] m = .ok (sd (empt : WS X)) m :=
  make_ok n (nu := false) (bs := []) (sp := []) (rg := []) (SI := X.SI) (SS := X.SS) (z0 := z0) (dT := .tup []) (dS := .tup []) (dR := .tup []) (m := m) rfl (.inr rfl) (.inr rfl) (.inr rfl) (by decide) (by decide) (by decide)
    (fun r hr => nomatch hr) (fun r hr => nomatch hr) X.l1 X.l2 X.a1 X.a2 X.b1 X.b2 (fun r hr => nomatch hr) (fun r hr => nomatch hr) (fun r hr => nomatch hr) (fun r hr => nomatch hr)
theorem every_ok (n : Nat) (m : Mu) : G.run pg (n + 6) i_everything [] m = .ok (sd (compl (empt : WS X))) m := by
  have q := empt_make (X := X) (n + 1) m
  rw [run_eq fn_everything rfl]
  simp [b_everything, ini, arrK, arrN, arr, q]
def pairs2 (a b : WS X) : List (WS X × WS X) := [(inter a b, inter b a), (union a b, union b a), (diff a b, inter a (compl b)),
  (compl (inter a b), union (compl a) (compl b)), (compl (union a b), inter (compl a) (compl b)), (compl (compl a), a),
  (inter a (union a b), a), (union a (inter a b), a), (union a a, a), (inter a a, a),
  (xor a b, diff (union a b) (inter a b)), (xor a b, xor b a), (xor a a, empt),
  (xor (xor a b) b, a), (xor a (compl empt), compl a), (inter a (compl a), empt),
  (union a (compl a), compl empt), (diff a a, empt)]
theorem pairs2_ok (a b : WS X) : ∀ p ∈ pairs2 a b, p.1 = p.2 := by
  unfold pairs2
  simp only [List.mem_cons, List.not_mem_nil, or_false]
  rintro p (rfl | rfl | rfl | rfl | rfl | rfl | rfl | rfl | rfl | rfl | rfl | rfl | rfl | rfl | rfl | rfl | rfl | rfl) <;>
    exact ws_ext fun p => by simp only [sem_inter, sem_union, sem_diff, sem_xor, sem_compl, sem_empt]; try (cases sem a p <;> cases sem b p <;> rfl)
theorem count4 (t : Bool) : m1D .count (.lst [.bl t, .bl t, .bl t, .bl t]) (.bl t) = some (.int 4) := by cases t <;> rfl
theorem nonE_diff (a b : WS X) : nonE (diff a b) = !leB a b := by simp [leB]
theorem two_ok (n : Nat) (a b : WS X) (m : Mu) : G.run pg (n + 9) i_two_right [sd a, sd b] m = .ok (.bl true) m := by
  have em := empt_make (X := X) (n + 4) m
  have ev := every_ok (X := X) (n + 2) m
  have f := fun x => all_same (n + 4) (k := G.mk pg (n + 8)) (P := pg.par (G.run pg (n + 8)) (G.mk pg (n + 8))) rfl (pairs2_ok a b) (e0 := [.val (sd a), .val (sd b), x, .no, .no, .no])
    (.call 14 (.cons (.loc 4) (.cons (.loc 3) .nil)) .nil) (.cons (.nm 4) (.cons (.nm 3) .nil)) 0 [4, 3] (fun y acc m => by simp [lcTurn, arrK, arrN, arr, same_ok]) m
  simp only [pairs2, List.map_cons, List.map_nil] at f
  have l1 := le_1 a b
  have l2 := le_2 a b
  have d1 := eq_le a b
  have d2 := le_inter a b
  have d3 := le_union a b
  have d4 := nonE_diff a b
  rw [run_eq fn_two_right rfl]
  have p0 : ∀ x, G.plain (.int x) 60 = true := fun x => rfl
  have e0 : ∀ x y : Int, eqD (.int x) (.int y) = some (x == y) := fun _ _ => rfl
  cases h1 : leB a b <;> cases h2 : leB b a <;> simp [b_two_right, ini, arrK, arrN, arr, sizeL, em, ev, f, d1, d2, d3, d4, h1, h2, l1, l2, toBls, List.count_cons, p0, e0, atD, L2.atI, L2.ixN, eqT, eqD, eqL, G.plain, plainL]
def pairs3 (a b c : WS X) : List (WS X × WS X) := [(inter (inter a b) c, inter a (inter b c)), (union (union a b) c, union a (union b c)),
  (inter a (union b c), union (inter a b) (inter a c)), (union a (inter b c), inter (union a b) (union a c)),
  (diff a (union b c), diff (diff a b) c), (diff a (inter b c), union (diff a b) (diff a c))]
theorem muD_app {xs : List D} {d : D} : muD .append (.lst xs) [d] = if xs.length < sizeL then some (.lst (xs ++ [d])) else none := rfl
theorem pairs3_ok (a b c : WS X) : ∀ p ∈ pairs3 a b c, p.1 = p.2 := by
  unfold pairs3
  simp only [List.mem_cons, List.not_mem_nil, or_false]
  rintro p (rfl | rfl | rfl | rfl | rfl | rfl) <;>
    exact ws_ext fun p => by simp only [sem_inter, sem_union, sem_diff, sem_xor, sem_compl, sem_empt]; try (cases sem a p <;> cases sem b p <;> cases sem c p <;> rfl)
theorem three_ok (n : Nat) (a b c : WS X) (m : Mu) : G.run pg (n + 9) i_three_right [sd a, sd b, sd c] m = .ok (.bl true) m := by
  have f := fun x => all_same (n + 4) (k := G.mk pg (n + 8)) (P := pg.par (G.run pg (n + 8)) (G.mk pg (n + 8))) rfl (pairs3_ok a b c) (e0 := [.val (sd a), .val (sd b), .val (sd c), x, .no, .no])
    (.call 14 (.cons (.loc 5) (.cons (.loc 4) .nil)) .nil) (.cons (.nm 5) (.cons (.nm 4) .nil)) 0 [5, 4] (fun y acc m => by simp [lcTurn, arrK, arrN, arr, same_ok]) m
  simp only [pairs3, List.map_cons, List.map_nil] at f
  have t := le_trans (a := a) (b := b) (c := c)
  rw [run_eq fn_three_right rfl]
  cases h1 : leB a b <;> cases h2 : leB b c <;> cases h3 : leB a c <;> first | (exact absurd (t h1 h2) (by rw [h3]; decide)) | simp [-mu_app, muD_app, b_three_right, ini, arrK, arrN, arr, sizeL, f, h1, h2, h3, eqT, eqD, eqL, G.plain, plainL]
/-! ### one case -/
def rawD (T : Told) : D := setD T.nu (boolsOf T.bs) (joinAll codI .bot [] (T.sp.map fun r => spanC r.1 r.2)) (joinAll codS (.at_ z0) [] (T.rg.map fun r => rangeC r.1 r.2))
structure Fits (X : Dom) (T : Told) : Prop where
  f1 : ∀ c ∈ OS.cuts (T.sp.map fun r => spanC r.1 r.2), c ∈ X.SI
  f2 : ∀ c ∈ OS.cuts (T.rg.map fun r => rangeC r.1 r.2), c ∈ X.SS
theorem sp_row {r : Option Int × Option Int} (h : SpOk r) : RowOk codI .bot (spanC r.1 r.2) := by
  obtain ⟨a, b⟩ := r
  have h1 := h.1
  clear h
  cases a <;> cases b <;> refine ⟨by first | rfl, ?_⟩ <;> first | rfl | skip
  case some.some x y =>
    have h1 : x ≤ y := h1
    show decide (x < y + 1) = true
    simp
    omega
theorem cs_bot {c : Txs} : codS.O.le (.at_ z0) (.at_ c) := by
  show decide (c.1.cps.toList < z0.1.cps.toList) = false
  have : z0.1.cps.toList = [] := by decide +kernel
  rw [this]
  simp
theorem rg_row {r : Txs × Option Txs} (h : RgOk r) : RowOk codS (.at_ z0) (rangeC r.1 r.2) := by
  obtain ⟨a, b⟩ := r
  refine ⟨cs_bot, ?_⟩
  cases b with
  | none => rfl
  | some z => exact decide_eq_true (h.2.2 z rfl).2.2
theorem told_rows {T : Told} (h : TOk T) : ∀ r ∈ T.sp.map (fun r => spanC r.1 r.2), RowOk codI .bot r := fun r hr => by
  obtain ⟨q, hq, rfl⟩ := List.mem_map.mp hr
  exact sp_row (h.o1 q hq)
theorem told_rowt {T : Told} (h : TOk T) : ∀ r ∈ T.rg.map (fun r => rangeC r.1 r.2), RowOk codS (.at_ z0) r := fun r hr => by
  obtain ⟨q, hq, rfl⟩ := List.mem_map.mp hr
  exact rg_row (h.o2 q hq)
def ofTold (X : Dom) (T : Told) (h : TOk T) (f : Fits X T) : WS X := ⟨⟨T.nu, T.bs.contains false, T.bs.contains true, joinAll codI .bot [] (T.sp.map fun r => spanC r.1 r.2), joinAll codS (.at_ z0) [] (T.rg.map fun r => rangeC r.1 r.2)⟩,
  can_all (acc := []) trivial (told_rows h), can_all (acc := []) trivial (told_rowt h), (fun c hc => by
    rcases cuts_all hc with rfl | rfl | hc | hc
    · exact X.a1
    · exact X.a2
    · cases hc
    · exact f.f1 c hc), fun c hc => by
    rcases cuts_all hc with rfl | rfl | hc | hc
    · exact X.b1
    · exact X.b2
    · cases hc
    · exact f.f2 c hc⟩
theorem raw_sd (X : Dom) (T : Told) (h : TOk T) (f : Fits X T) : rawD T = sd (ofTold X T h f) := by
  have : boolsOf T.bs = bls (T.bs.contains false) (T.bs.contains true) := by
    unfold boolsOf bls
    cases h1 : T.bs.contains false <;> cases h2 : T.bs.contains true <;> simp only [List.filter, h1, h2] <;> rfl
  unfold rawD
  rw [this]
  rfl
theorem made_ok (n : Nat) (X : Dom) (T : Told) (h : TOk T) (f : Fits X T) (m : Mu) : G.run pg (n + 5) i_made [toldD T] m = .ok (rawD T) m := by
  have l1 := h.l1
  have l2 := h.l2
  have l3 := h.l3
  have q := make_ok n (nu := T.nu) (bs := T.bs) (sp := T.sp) (rg := T.rg) (SI := X.SI) (SS := X.SS) (z0 := z0) (dT := .lst (T.bs.map .bl)) (dS := .lst (T.sp.map spD)) (dR := .tup (T.rg.map tzD)) (m := m) rfl (.inl rfl) (.inl rfl) (.inr rfl) (by omega) (by omega) (by omega)
    (fun r hr => (h.o1 r hr).1) (fun r hr => by
      obtain ⟨q, hq, rfl⟩ := List.mem_map.mp hr
      obtain ⟨g1, g2, g3⟩ := h.o2 q hq
      obtain ⟨a, b⟩ := q
      refine ⟨g1, by show a.1.length ≤ 1000; have : a.1.length ≤ 100 := g2; omega, ?_⟩
      cases b with
      | none => trivial
      | some z =>
        obtain ⟨k1, k2, k3⟩ := g3 z rfl
        exact ⟨k1, by show z.1.length ≤ 1000; omega, k3⟩) X.l1 X.l2 X.a1 X.a2 X.b1 X.b2 (told_rows h) (told_rowt h) f.f1 f.f2
  have g1 : lookK [(.inr "null", .bl T.nu), (.inr "truths", .lst (T.bs.map .bl)), (.inr "spans", .lst (T.sp.map spD)), (.inr "ranges", .lst (T.rg.map tzD))] (.str "null") = some (.bl T.nu) := by kernel_rfl
  have g2 : lookK [(.inr "null", .bl T.nu), (.inr "truths", .lst (T.bs.map .bl)), (.inr "spans", .lst (T.sp.map spD)), (.inr "ranges", .lst (T.rg.map tzD))] (.str "truths") = some (.lst (T.bs.map .bl)) := by kernel_rfl
  have g3 : lookK [(.inr "null", .bl T.nu), (.inr "truths", .lst (T.bs.map .bl)), (.inr "spans", .lst (T.sp.map spD)), (.inr "ranges", .lst (T.rg.map tzD))] (.str "spans") = some (.lst (T.sp.map spD)) := by kernel_rfl
  have g4 : lookK [(.inr "null", .bl T.nu), (.inr "truths", .lst (T.bs.map .bl)), (.inr "spans", .lst (T.sp.map spD)), (.inr "ranges", .lst (T.rg.map tzD))] (.str "ranges") = some (.lst (T.rg.map tzD)) := by kernel_rfl
  change _ = R0.ok (rawD T) m at q
  rw [run_eq fn_made rfl]
  simp [b_made, ini, arrK, arrN, arr, toldD, g1, g2, g3, g4, q]
def spCuts (T : Told) : List (Cut Int) := OS.cuts (T.sp.map fun r => spanC r.1 r.2)
def rgCuts (T : Told) : List (Cut Txs) := OS.cuts (T.rg.map fun r => rangeC r.1 r.2)
theorem spCuts_len {T : Told} (h : TOk T) : (spCuts T).length ≤ 8 := by
  unfold spCuts
  rw [OS.cuts_len, List.length_map]
  have := h.l2
  omega
theorem rgCuts_len {T : Told} (h : TOk T) : (rgCuts T).length ≤ 6 := by
  unfold rgCuts
  rw [OS.cuts_len, List.length_map]
  have := h.l3
  omega
theorem spCuts_num {T : Told} (h : TOk T) {i : Int} (hi : Cut.at_ i ∈ spCuts T) : -bigI ≤ i ∧ i ≤ bigI := by
  unfold spCuts at hi
  obtain ⟨r, hr, hc⟩ := List.mem_flatMap.mp hi
  obtain ⟨q, hq, rfl⟩ := List.mem_map.mp hr
  obtain ⟨g1, g2, g3⟩ := h.o1 q hq
  obtain ⟨a, b⟩ := q
  have hb : bigI = 100000000000000000000000000000000000000000 := rfl
  cases a <;> cases b <;> simp [spanC] at hc
  · subst hc
    have := g3 _ rfl
    unfold NumOk at this
    omega
  · subst hc
    have := g2 _ rfl
    unfold NumOk at this
    omega
  · rcases hc with rfl | rfl
    · have := g2 _ rfl
      unfold NumOk at this
      omega
    · have := g3 _ rfl
      unfold NumOk at this
      omega
theorem rgCuts_txt {T : Told} (h : TOk T) {z : Txs} (hi : Cut.at_ z ∈ rgCuts T) : Sg z.1 ∧ z.1.length ≤ 100 := by
  unfold rgCuts at hi
  obtain ⟨r, hr, hc⟩ := List.mem_flatMap.mp hi
  obtain ⟨q, hq, rfl⟩ := List.mem_map.mp hr
  obtain ⟨g1, g2, g3⟩ := h.o2 q hq
  obtain ⟨a, b⟩ := q
  cases b with
  | none =>
    simp [rangeC] at hc
    subst hc
    exact ⟨g1, g2⟩
  | some y =>
    simp [rangeC] at hc
    rcases hc with rfl | rfl
    · exact ⟨g1, g2⟩
    · obtain ⟨k1, k2, _⟩ := g3 _ rfl
      exact ⟨k1, k2⟩
def domOf (T1 T2 T3 : Told) (h1 : TOk T1) (h2 : TOk T2) (h3 : TOk T3) : Dom where
  SI := .bot :: .top :: (spCuts T1 ++ (spCuts T2 ++ spCuts T3))
  SS := .at_ z0 :: .top :: (rgCuts T1 ++ (rgCuts T2 ++ rgCuts T3))
  l1 := by
    have := spCuts_len h1; have := spCuts_len h2; have := spCuts_len h3
    simp only [List.length_cons, List.length_append]; omega
  l2 := by
    have := rgCuts_len h1; have := rgCuts_len h2; have := rgCuts_len h3
    simp only [List.length_cons, List.length_append]; omega
  a1 := by simp
  a2 := by simp
  b1 := by simp
  b2 := by simp
  r1 := fun i hi => by
    simp only [List.mem_cons, List.mem_append, reduceCtorEq, false_or] at hi
    rcases hi with hi | hi | hi
    · exact spCuts_num h1 hi
    · exact spCuts_num h2 hi
    · exact spCuts_num h3 hi
  r2 := fun i hi => by
    simp only [List.mem_cons, List.mem_append, reduceCtorEq, false_or] at hi
    rcases hi with hi | hi | hi | hi
    · cases hi
      exact ⟨by decide +kernel, by decide +kernel⟩
    · exact rgCuts_txt h1 hi
    · exact rgCuts_txt h2 hi
    · exact rgCuts_txt h3 hi
theorem fits1 {T1 T2 T3 : Told} (h1 : TOk T1) (h2 : TOk T2) (h3 : TOk T3) : Fits (domOf T1 T2 T3 h1 h2 h3) T1 :=
  ⟨fun c hc => List.mem_cons_of_mem _ (List.mem_cons_of_mem _ (List.mem_append_left _ hc)), fun c hc => List.mem_cons_of_mem _ (List.mem_cons_of_mem _ (List.mem_append_left _ hc))⟩
theorem fits2 {T1 T2 T3 : Told} (h1 : TOk T1) (h2 : TOk T2) (h3 : TOk T3) : Fits (domOf T1 T2 T3 h1 h2 h3) T2 :=
  ⟨fun c hc => List.mem_cons_of_mem _ (List.mem_cons_of_mem _ (List.mem_append_right _ (List.mem_append_left _ hc))), fun c hc => List.mem_cons_of_mem _ (List.mem_cons_of_mem _ (List.mem_append_right _ (List.mem_append_left _ hc)))⟩
theorem fits3 {T1 T2 T3 : Told} (h1 : TOk T1) (h2 : TOk T2) (h3 : TOk T3) : Fits (domOf T1 T2 T3 h1 h2 h3) T3 :=
  ⟨fun c hc => List.mem_cons_of_mem _ (List.mem_cons_of_mem _ (List.mem_append_right _ (List.mem_append_right _ hc))), fun c hc => List.mem_cons_of_mem _ (List.mem_cons_of_mem _ (List.mem_append_right _ (List.mem_append_right _ hc)))⟩
end K04
end
section
set_option Elab.async false
set_option linter.all false
set_option maxRecDepth 100000
set_option maxHeartbeats 4000000
namespace K04
open PySem G
open OS (Pr mem mx mn met met1 one out Can CanS)
theorem source_ok (n : Nat) (i : Int) (m : Mu) : ∃ m', G.run pg (n + 1) i_source [.int i] m = .ok (.cel m.length) m' ∧ Src m' m.length := by
  have hp : binD .Pow (.int 10) (.int 18) = some (.int 1000000000000000000) := by kernel_rfl
  have hb : ∀ b, small (b2i b) = true := fun b => by cases b <;> decide
  have hs : 3 ≤ sizeL := by decide
  rw [run_eq fn_source rfl]
  refine ⟨m ++ [.lst [.int ((if i < 0 then -i else i) * b2i (decide (1000000000000000000 ≤ (if i < 0 then -i else i)))), .int i, .int 0]], ?_, ?_⟩
  · simp [b_source, ini, hp, hb, hs]
  · exact ⟨_, _, _, List.getElem?_concat_length⟩
def turn : S := (.seq (.asg (.nm 2) (.call 0 (.cons (.loc 1) .nil) .nil))
  (.seq (.own 4 (.lc (.call 1 (.cons (.call 2 (.cons (.loc 2) .nil) .nil) .nil) .nil) (.nm 3) (.rng (.cst (.int 0)) (.cst (.int 3)) (.cst (.int 1))) (.tru (.cst (.bl true))) [3]))
  (.seq (.if_ (.cmp .Eq (.call 3 (.cons (.loc 2) (.cons (.cst (.int 4)) .nil)) .nil) (.cst (.int 0)))
  (.seq (.seti (.pk 4) (.cst (.int 2)) (.bin .BitOr (.ix (.pk 4) (.cst (.int 0))) (.ix (.pk 4) (.cst (.int 1)))))
  .skip)
  .skip)
  (.seq (.if_ (.or_ (.not_ (.tru (.call 4 (.cons (.ix (.pk 4) (.cst (.int 0))) (.cons (.ix (.pk 4) (.cst (.int 1))) .nil)) .nil))) (.not_ (.tru (.call 4 (.cons (.ix (.pk 4) (.cst (.int 2))) (.cons (.ix (.pk 4) (.cst (.int 0))) .nil)) .nil))))
  (.seq (.ret (.cst (.bl false)))
  .skip)
  .skip)
  (.seq (.if_ (.not_ (.tru (.call 5 (.cons (.ix (.pk 4) (.cst (.int 0))) (.cons (.ix (.pk 4) (.cst (.int 1))) (.cons (.ix (.pk 4) (.cst (.int 2))) .nil))) .nil)))
  (.seq (.ret (.cst (.bl false)))
  .skip)
  .skip)
  .skip)))))
theorem turn_ok (n : Nat) (x0 x3 x4 x2 : EV) (i : Int) (m : Mu) : ∃ y2 y3 y4 m', evS (pg.par (G.run pg (n + 11)) (G.mk pg (n + 11))) turn [x0, .val (.int i), x2, x3, x4] m = .nx [x0, .val (.int i), y2, y3, y4] m' := by
  obtain ⟨m1, e1, h1⟩ := source_ok (n + 10) i m
  obtain ⟨T1, m2, e2, o1, h2⟩ := told_ok (n + 5) h1
  obtain ⟨T2, m3, e3, o2, h3⟩ := told_ok (n + 5) h2
  obtain ⟨T3, m4, e4, o3, h4⟩ := told_ok (n + 5) h3
  obtain ⟨v, m5, e5, a5, b5, h5⟩ := take_ok (n + 9) (b := 4) h4 (by decide) (by decide)
  have g1 := made_ok (n + 6) _ T1 o1 (fits1 o1 o2 o3) m2
  have g2 := made_ok (n + 6) _ T2 o2 (fits2 o1 o2 o3) m3
  have g3 := made_ok (n + 6) _ T3 o3 (fits3 o1 o2 o3) m4
  rw [raw_sd (domOf T1 T2 T3 o1 o2 o3) T1 o1 (fits1 o1 o2 o3)] at g1
  rw [raw_sd (domOf T1 T2 T3 o1 o2 o3) T2 o2 (fits2 o1 o2 o3)] at g2
  rw [raw_sd (domOf T1 T2 T3 o1 o2 o3) T3 o3 (fits3 o1 o2 o3)] at g3
  generalize ofTold (domOf T1 T2 T3 o1 o2 o3) T1 o1 (fits1 o1 o2 o3) = s1 at g1
  generalize ofTold (domOf T1 T2 T3 o1 o2 o3) T2 o2 (fits2 o1 o2 o3) = s2 at g2
  generalize ofTold (domOf T1 T2 T3 o1 o2 o3) T3 o3 (fits3 o1 o2 o3) = s3 at g3
  have hr : rangeD 0 3 1 = some [.int 0, .int 1, .int 2] := by rfl
  by_cases hv : v = 0
  · subst hv
    refine ⟨.val (.cel m.length), (match x3 with | .val d => .val d | _ => .no), .own (.lst [sd s1, sd s2, sd (union s1 s2)]), m5, ?_⟩
    · simp [turn, arrK, arrN, arr, e1, e2, e3, e4, e5, g1, g2, g3, hr, foldR_cons, foldR_nil, lcTurn, pushR, sizeL, two_ok, three_ok, atD, L2.atI, L2.ixN, setiD]
      cases x3 <;> rfl
  · refine ⟨.val (.cel m.length), (match x3 with | .val d => .val d | _ => .no), .own (.lst [sd s1, sd s2, sd s3]), m5, ?_⟩
    · simp [turn, arrK, arrN, arr, e1, e2, e3, e4, e5, g1, g2, g3, hr, foldR_cons, foldR_nil, lcTurn, pushR, sizeL, two_ok, three_ok, atD, L2.atI, L2.ixN, setiD, hv]
      cases x3 <;> rfl
theorem plain (ns : List Int) (h : ns.length ≤ 63) : ∃ m, G.run tab.pg 12 0 [.scr (ns.map .int)] [] = .ok (.bl true) m := by
  show ∃ m, G.run pg 12 i_law _ _ = _
  rw [run_eq fn_law rfl]
  have hs : ns.length + 1 ≤ sizeL := by unfold sizeL; omega
  obtain ⟨e', m', q, x1, x2, x3, x4, he⟩ := forL_inv (f := forTurn (pg.par (G.run pg 11) (mk pg 11)) (.nm 1) turn) (fun e m => ∃ x1 x2 x3 x4, e = [.val (.scr (ns.map .int)), x1, x2, x3, x4]) (cutD (ns.map .int ++ [.int 0]) none (some 5)) (fun d e m hd ⟨x1, x2, x3, x4, he⟩ => by
    obtain ⟨i, rfl⟩ : ∃ i, d = .int i := by
      have hd2 : d ∈ ns.map D.int ++ [.int 0] := List.mem_of_mem_drop (List.mem_of_mem_take hd)
      simp at hd2
      rcases hd2 with ⟨i, _, rfl⟩ | rfl <;> exact ⟨_, rfl⟩
    subst he
    obtain ⟨y2, y3, y4, m', q⟩ := turn_ok 0 (.val (.scr (ns.map .int))) x3 x4 x2 i m
    exact ⟨_, m', q, _, _, _, _, rfl⟩) [.val (.scr (ns.map .int)), .no, .no, .no, .no] [] ⟨_, _, _, _, rfl⟩
  subst he
  refine ⟨m', ?_⟩
  have hp : partD (.cst (.int 5)) (.int 5) = some (some 5) := rfl
  have hs1 : 1 ≤ sizeL := by decide
  unfold turn at q
  simp [b_law, ini, hs, hs1, hp, q]
end K04
end
section
set_option Elab.async false
set_option linter.all false
set_option maxRecDepth 100000
set_option maxHeartbeats 4000000
namespace K04
open PySem PySem.Spec PyProof.Rows L2 G
theorem emp {K : PySem.W.Frag} (c : SaysC tab K) : more K = true := c.more
theorem bm0 {w : World} {K : PySem.W.Frag} {mg : Str → Option Value} {base : Heap} {prog : Program} (c : SaysC tab K) : BindM (mkGe tab prog w K mg base) (fdOf K (tab.fad K 17)) ["self", "null", "truths", "spans", "ranges"] 4 ["null", "truths", "spans", "ranges"] [.w 0, .w 1, .w 2, .w 3] := by
  have F := c.fn (f := 17) (y := ft_ScalarSet_init) (by rfl)
  refine bindM_kw (Γ := mkGe tab prog w K mg base) (ks := ["null", "truths", "spans", "ranges"]) [] [] [.inl 0, .inl 1, .inl 2, .inl 3] F (by exact List.cons_ne_nil _ _) (fun q hq => nomatch hq)
    (fun F ι => .nil) (fun j hj => by simp at hj) (fun D doc pm an cdv ct us mv ws h1 h2 h3 => ?_)
  match us, mv, ws, h1, h2, h3 with
  | [u], [], [x, y, z, v], _, _, _ => exact rfl
theorem bm1 {w : World} {K : PySem.W.Frag} {mg : Str → Option Value} {base : Heap} {prog : Program} (c : SaysC tab K) : BindM (mkGe tab prog w K mg base) (fdOf K (tab.fad K 17)) ["self", "null", "truths", "spans", "ranges"] 0 [] [.d (.bl false), .d (.tup []), .d (.tup []), .d (.tup [])] := by
  have F := c.fn (f := 17) (y := ft_ScalarSet_init) (by rfl)
  have e := emp c
  unfold more at e
  simp only [Bool.and_eq_true] at e
  obtain ⟨⟨e1, e2⟩, e3⟩ := e
  refine bindM_kw (Γ := mkGe tab prog w K mg base) (ks := []) (ft_ScalarSet_init.dd.kws K) [.bl false, .tup [], .tup [], .tup []] [.inr 0, .inr 1, .inr 2, .inr 3] F (by exact List.cons_ne_nil _ _) (fun q hq => hq)
    (fun F ι => .cons (.bl false) (.cons (.tup (.inr (emptyTup_ok e1 _)) .nil) (.cons (.tup (.inr (emptyTup_ok e2 _)) .nil) (.cons (.tup (.inr (emptyTup_ok e3 _)) .nil) .nil)))) (fun j hj => by simp at hj; simp; omega) (fun D doc pm an cdv ct us mv ws h1 h2 h3 => ?_)
  match us, mv, ws, h1, h2, h3 with
  | [u], [a0, a, b, c], [], _, _, _ => exact ⟨_, _, _, _, _, _, rfl, rfl, _, _, _, _, _, _, rfl, rfl, _, _, _, _, _, _, rfl, rfl, _, _, _, _, _, _, rfl, rfl, rfl⟩
end K04
end
section
set_option Elab.async false
set_option linter.all false
set_option maxRecDepth 100000
set_option maxHeartbeats 0
namespace K04
open PySem PySem.Spec PyProof.Rows L2 G
end K04
open PySem PySem.W PySem.Calls PyProof.Rows
theorem PySem.Challenge.cw_latermeet_k04_whole_algebra_of_sets_holds : PySem.Challenge.rw_latermeet_k04_whole_algebra_of_sets.Holds := by
  w_on; o_law
  refine HandSHeadRun.head_any (r := OpenLaw.row PySem.Challenge.rw_latermeet_k04_whole_algebra_of_sets) (q := view (OpenLaw.row PySem.Challenge.rw_latermeet_k04_whole_algebra_of_sets).prog [K04.lawIx]) (H := G.hookC 6 K04.tab) (ob := fun s => G.obsCG 6 K04.tab (HandSHeadRun.getT s)) (M := 4000) (loose := K04.loose) (d := HandSHeadRun.topDef (OpenLaw.row PySem.Challenge.rw_latermeet_k04_whole_algebra_of_sets).prog K04.lawIx) (kwd := [])
    (fun s => G.obsCG_eq (HandSHeadRun.getT_eq s)) (by kernel_rfl) (fun s => by kernel_rfl) K04.run (by kernel_rfl) (by kernel_rfl) (by kernel_rfl) (by rfl) (by first | assumption | decide +kernel) (by decide +kernel) ⟨rfl, rfl, rfl, rfl, rfl, by decide +kernel⟩ ?hw ?hc
  case hw => w_witness2
  case hc =>
    refine G.end_law (l := PySem.Challenge.rw_latermeet_k04_whole_algebra_of_sets) (t := K04.tab) (N := 6) (n := 63) (dep := 12) (li := 0) (j := 30) (x := "_law_script") (y := K04.ft_law) (fo := ⟨0, 1, [], [.w 0]⟩) (u := ⟨1, 5, K04.b_law⟩)
      rfl (by decide) (by kernel_rfl) ⟨rfl, by decide, by decide⟩ K04.txt (by rfl) (by rfl) rfl (by decide +kernel) rfl (by rfl) rfl (by kernel_rfl) (fun w K mg base c i fo h hf => ?_) (fun w K mg base c i fo k h1 h2 => ?_) K04.plain
    · exact absurd ((List.all_eq_true.mp K04.foall fo (List.mem_of_getElem? h)).symm.trans hf) (by decide)
    · match i, h1 with
      | 0, h1 =>
        cases h1
        cases h2
        exact K04.bm0 c
      | 1, h1 =>
        cases h1
        cases h2
        exact K04.bm1 c
      | i + 2, h1 => cases h1
end
