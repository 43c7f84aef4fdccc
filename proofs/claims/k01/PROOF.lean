import PyProof.Rows.All
import Wide.All
import OpenK.AllK
import Wide.FinOn
import KE.SortData
import KE.KeyNested
import HandS.ForMost
import HandS.ForExc
import HandS.Style
import HandS.TupAny
import HandS.TupMul
import HandS.Deep
import HandS.IsInst
import HandS.Text
import HandS.Dict
import HandS.Conv
import HandS.Exc
import HandS.ExcOwn
import HandS.TryOnly
import HandS.TupSets
import PyProof.WalksMore
import HandS.Strs
import HandS.Zip
import HandS.Defaults
import HandS.Head0
import HandS.Head1
import HandS.Head2
import HandS.HeadEnd
import HandS.HeadHook1
import HandS.HeadHook2
import PySem.Challenge.RW_retolddays_k01_habits_phrases_and_books
set_option Elab.async false
set_option linter.all false
set_option maxRecDepth 100000
/-! RdSe: the order of alike data; the sorted list without doubles. -/
namespace RD
open PySem PySem.W PyProof.Rows
mutual
theorem eq_of_eqv : ∀ (x y : PyData), alike x y = true → PyData.eqv x y = true → x = y
  | .none, y, h, e => by cases y <;> first | rfl | exact absurd h (by simp [alike])
  | .bool a, y, h, e => by
    cases y with
    | bool b => rw [show a = b by simpa [PyData.eqv] using e]
    | _ => exact absurd h (by simp [alike])
  | .int a, y, h, e => by
    cases y with
    | int b => rw [show a = b by simpa [PyData.eqv] using e]
    | _ => exact absurd h (by simp [alike])
  | .str a, y, h, e => by
    cases y with
    | str b => rw [show a = b by simpa [PyData.eqv] using e]
    | _ => exact absurd h (by simp [alike])
  | .list xs, y, h, e => by
    cases y with
    | list ys => rw [eq_of_eqvAll xs ys (by simpa [alike] using h) (by simpa [PyData.eqv] using e)]
    | _ => exact absurd h (by simp [alike])
  | .tuple xs, y, h, e => by
    cases y with
    | tuple ys => rw [eq_of_eqvAll xs ys (by simpa [alike] using h) (by simpa [PyData.eqv] using e)]
    | _ => exact absurd h (by simp [alike])
  | .dict _, y, h, _ => absurd h (by cases y <;> simp [alike])
theorem eq_of_eqvAll : ∀ (xs ys : List PyData), alikeAll xs ys = true → PyData.eqvAll xs ys = true → xs = ys
  | [], [], _, _ => rfl
  | [], y :: ys, _, e => absurd e (by simp [PyData.eqvAll])
  | x :: xs, [], _, e => absurd e (by simp [PyData.eqvAll])
  | x :: xs, y :: ys, h, e => by
    rw [eqv_all_cons, Bool.and_eq_true] at e
    obtain ⟨h1, h2⟩ := alike_all_cons h
    rw [eq_of_eqv x y h1 e.1, eq_of_eqvAll xs ys h2 e.2]
end
theorem lt_irr (x : PyData) : dataLt x x = false := lex_irrefl (O := itemOrd) _
theorem lt_tr {x y z : PyData} (h : dataLt x y = true) (k : dataLt y z = true) : dataLt x z = true := lex_trans (O := itemOrd) _ _ _ h k
theorem lt_tri {x y : PyData} (a : alike x y = true) (h : dataLt x y = false) (k : dataLt y x = false) : x = y := by
  have e : keyToks x = keyToks y := lex_total (O := itemOrd) _ _ h k
  refine eq_of_eqv x y a ?_
  cases q : PyData.eqv x y with
  | true => rfl
  | false =>
    have t := (toks_eqv x y a).2 q
    have t1 := t [] [.inl 0]
    have t2 := t [.inl 0] []
    rw [e, lex_pre] at t1 t2
    rw [← t2] at t1
    exact t1.symm
/-- x is put into a list that ascends -/
def insD (x : PyData) : List PyData → List PyData
  | [] => [x]
  | y :: r => if dataLt x y = true then x :: y :: r else if dataLt y x = true then y :: insD x r else y :: r
/-- sorted(set(ds)) -/
def uniqD (ds : List PyData) : List PyData := ds.foldr insD []
abbrev Up (l : List PyData) : Prop := l.Pairwise fun x y => dataLt x y = true
theorem mem_ins {x : PyData} : ∀ {l : List PyData}, (∀ y ∈ l, alike x y = true) → ∀ z, z ∈ insD x l ↔ z = x ∨ z ∈ l
  | [], _, z => by simp [insD]
  | y :: r, h, z => by
    have ih := mem_ins (l := r) (fun u hu => h u (List.mem_cons_of_mem _ hu)) z
    unfold insD
    split
    · simp
    · split
      · rw [List.mem_cons, ih, List.mem_cons]
        constructor
        · rintro (e | e | e)
          · exact .inr (.inl e)
          · exact .inl e
          · exact .inr (.inr e)
        · rintro (e | e | e)
          · exact .inr (.inl e)
          · exact .inl e
          · exact .inr (.inr e)
      · rename_i h1 h2
        have : x = y := lt_tri (h y List.mem_cons_self) (by simpa using h1) (by simpa using h2)
        rw [List.mem_cons, ← this]
        constructor
        · exact .inr
        · rintro (e | e)
          · exact .inl e
          · exact e
theorem up_ins {x : PyData} : ∀ {l : List PyData}, (∀ y ∈ l, alike x y = true) → Up l → Up (insD x l)
  | [], _, _ => by simp [insD, Up]
  | y :: r, h, u => by
    obtain ⟨u1, u2⟩ := List.pairwise_cons.mp u
    have hr := fun z (hz : z ∈ r) => h z (List.mem_cons_of_mem _ hz)
    unfold insD
    split
    · rename_i c
      refine List.pairwise_cons.mpr ⟨fun z hz => ?_, u⟩
      rcases List.mem_cons.mp hz with rfl | hz
      · exact c
      · exact lt_tr c (u1 z hz)
    · split
      · rename_i c
        refine List.pairwise_cons.mpr ⟨fun z hz => ?_, up_ins hr u2⟩
        rcases (mem_ins hr z).mp hz with rfl | hz
        · exact c
        · exact u1 z hz
      · exact u
theorem uniq_both : ∀ {ds : List PyData}, AllAlike ds → (∀ z, z ∈ uniqD ds ↔ z ∈ ds) ∧ Up (uniqD ds)
  | [], _ => ⟨fun z => by simp [uniqD], by simp [uniqD, Up]⟩
  | x :: r, h => by
    obtain ⟨h1, h2⟩ := uniq_both (ds := r) fun a ha b hb => h a (List.mem_cons_of_mem _ ha) b (List.mem_cons_of_mem _ hb)
    have al : ∀ y ∈ uniqD r, alike x y = true := fun y hy => h x List.mem_cons_self y (List.mem_cons_of_mem _ ((h1 y).mp hy))
    refine ⟨fun z => ?_, up_ins al h2⟩
    show z ∈ insD x (uniqD r) ↔ _
    rw [mem_ins al, h1, List.mem_cons]
theorem uniq_mem {ds : List PyData} (h : AllAlike ds) (z : PyData) : z ∈ uniqD ds ↔ z ∈ ds := (uniq_both h).1 z
theorem uniq_up {ds : List PyData} (h : AllAlike ds) : Up (uniqD ds) := (uniq_both h).2
/-- a list that ascends is told by its members -/
theorem up_eq : ∀ {l m : List PyData}, Up l → Up m → (∀ z, z ∈ l ↔ z ∈ m) → l = m
  | [], [], _, _, _ => rfl
  | [], y :: m, _, _, h => absurd ((h y).mpr List.mem_cons_self) (by simp)
  | x :: l, [], _, _, h => absurd ((h x).mp List.mem_cons_self) (by simp)
  | x :: l, y :: m, a, b, h => by
    obtain ⟨a1, a2⟩ := List.pairwise_cons.mp a
    obtain ⟨b1, b2⟩ := List.pairwise_cons.mp b
    have e : x = y := by
      rcases List.mem_cons.mp ((h x).mp List.mem_cons_self) with e | e
      · exact e
      · rcases List.mem_cons.mp ((h y).mpr List.mem_cons_self) with q | q
        · exact q.symm
        · have := lt_tr (b1 x e) (a1 y q)
          rw [lt_irr] at this
          cases this
    subst e
    have hm : ∀ z, z ∈ l ↔ z ∈ m := fun z => by
      have := h z
      rw [List.mem_cons, List.mem_cons] at this
      constructor
      · intro hz
        rcases this.mp (.inr hz) with e | e
        · rw [e] at hz
          have := a1 x hz
          rw [lt_irr] at this
          cases this
        · exact e
      · intro hz
        rcases this.mpr (.inr hz) with e | e
        · rw [e] at hz
          have := b1 x hz
          rw [lt_irr] at this
          cases this
        · exact e
    rw [up_eq a2 b2 hm]
theorem uniq_eq {ds l : List PyData} (h : AllAlike ds) (u : Up l) (m : ∀ z, z ∈ l ↔ z ∈ ds) : uniqD ds = l := up_eq (uniq_up h) u fun z => by rw [uniq_mem h, m]
/-! ### what can be a key; what is sorted -/
mutual
/-- whole numbers, texts, None, tuples of such -/
def plainK : PyData → Bool
  | .none => true
  | .int _ => true
  | .str _ => true
  | .tuple ds => plainKs ds
  | _ => false
def plainKs : List PyData → Bool
  | [] => true
  | d :: r => plainK d && plainKs r
end
mutual
def keyK : PyData → NestedKey
  | .int i => .num i
  | .str x => .text x
  | .tuple ds => .tup (keyKs ds)
  | _ => .none
def keyKs : List PyData → List NestedKey
  | [] => []
  | d :: r => keyK d :: keyKs r
end
def isIntD : PyData → Bool
  | .int _ => true
  | _ => false
def tup1 : PyData → Bool
  | .tuple (_ :: _) => true
  | _ => false
def nestB (d : PyData) : Bool := plainK d && decide (d.depth ≤ 8) && decide ((keyK d).depth ≤ 8)
def alikeB (ds : List PyData) : Bool := ds.all fun x => ds.all fun y => PySem.W.alike x y
/-- what a set is made of here -/
def isTupD : PyData → Bool
  | .tuple _ => true
  | _ => false
def setOk (ds : List PyData) : Bool := (ds.all isIntD && decide (ds.length < 64)) || (ds.all isTupD && ds.all nestB && alikeB ds && decide ((uniqD ds).length < 64))
def uniqOk (ds : List PyData) : Bool := setOk ds && (ds.all isIntD || ds.all tup1)
/-- sorted(ds), doubles kept -/
def insS (x : PyData) : List PyData → List PyData
  | [] => [x]
  | y :: r => if PySem.W.dataLt y x = true then y :: insS x r else x :: y :: r
def sortD (ds : List PyData) : List PyData := ds.foldr insS []
def noneD : PyData → Bool
  | .none => true
  | _ => false
def srtOk (ds : List PyData) : Bool := alikeB ds && (ds.all tup1 || ds.all fun d => !isTupD d && !noneD d) && ds.all (fun d => decide (d.depth ≤ 8)) && decide (ds.length ≤ 1000000)
end RD
set_option Elab.async false
set_option maxRecDepth 100000
/-! RdA: syntax trees without names and positions, and what they compute over plain data. -/
namespace RD
open PySem L2

/-- the drawing bag's two numbers, where there is one -/
abbrev Bag := Option (Int × Int)

inductive U where
  | d (x : PyData)
  | bag
  | scr (ns : List Int)

inductive Slot where
  | un
  | val (u : U)
  | ol (ds : List PyData)

structure S where
  rho : List Slot
  bag : Bag

inductive R (α : Type) where
  | ok (a : α) (s : S)
  | exn (c : Str) (p : Option PyData) (s : S)
  | stuck

def R.bind {α β : Type} (m : R α) (k : α → S → R β) : R β :=
  match m with
  | .ok a s => k a s
  | .exn c p s => .exn c p s
  | .stuck => .stuck
@[simp] theorem R.bind_ok {α β : Type} (a : α) (s : S) (k : α → S → R β) : (R.ok a s).bind k = k a s := rfl
@[simp] theorem R.bind_exn {α β : Type} (c : Str) (p : Option PyData) (s : S) (k : α → S → R β) : (R.exn c p s : R α).bind k = .exn c p s := rfl
@[simp] theorem R.bind_stuck {α β : Type} (k : α → S → R β) : (R.stuck : R α).bind k = .stuck := rfl

/-- what a call hands back -/
inductive RB where
  | ok (u : U) (b : Bag)
  | exn (c : Str) (p : Option PyData) (b : Bag)
  | stuck
abbrev G := List U → Bag → RB

def RB.lift (r : RB) (s : S) : R U :=
  match r with
  | .ok u b => .ok u ⟨s.rho, b⟩
  | .exn c p b => .exn c p ⟨s.rho, b⟩
  | .stuck => .stuck
@[simp] theorem RB.lift_ok (u : U) (b : Bag) (s : S) : (RB.ok u b).lift s = .ok u ⟨s.rho, b⟩ := rfl
@[simp] theorem RB.lift_exn (c : Str) (p : Option PyData) (b : Bag) (s : S) : (RB.exn c p b).lift s = .exn c p ⟨s.rho, b⟩ := rfl
@[simp] theorem RB.lift_stuck (s : S) : RB.stuck.lift s = .stuck := rfl

inductive BOp where
  | add | sub | mul | fdiv | mod | pow
  deriving DecidableEq
inductive COp where
  | eq | ne | lt | le | gt | ge | isin | notin
  deriving DecidableEq
def BOp.op : BOp → Operator
  | .add => .Add | .sub => .Sub | .mul => .Mult | .fdiv => .FloorDiv | .mod => .Mod | .pow => .Pow
def COp.op : COp → CmpOp
  | .eq => .Eq | .ne => .NotEq | .lt => .Lt | .le => .LtE | .gt => .Gt | .ge => .GtE | .isin => .In | .notin => .NotIn

instance decMul (i j : Int) : Decidable (CMul i j) := by unfold CMul; infer_instance
instance decDiv (i j : Int) : Decidable (CDivN i j) := by unfold CDivN; infer_instance
instance decPow (i j : Int) : Decidable (CPow i j) := by unfold CPow; infer_instance
/-- the greatest length that is carried -/
abbrev big : Nat := 16777216

def binop : BOp → PyData → PyData → Option PyData
  | .add, .int i, .int j => some (.int (i + j))
  | .add, .str x, .str y => if x.length + y.length ≤ big then some (.str (x ++ y)) else none
  | .add, .tuple xs, .tuple ys => if xs.length + ys.length ≤ big then some (.tuple (xs ++ ys)) else none
  | .add, .list xs, .list ys => if xs.length + ys.length ≤ big then some (.list (xs ++ ys)) else none
  | .sub, .int i, .int j => some (.int (i - j))
  | .mul, .int i, .int j => if CMul i j then some (.int (i * j)) else none
  | .mul, .tuple xs, .int k => if 2 ≤ k ∧ k ≤ 1000 ∧ xs.length ≤ 1000 then some (.tuple (List.replicate k.toNat xs).flatten) else none
  | .fdiv, .int i, .int j => if CDivN i j then some (.int (i.fdiv j)) else none
  | .mod, .int i, .int j => if j = 0 then none else some (.int (i.fmod j))
  | .pow, .int i, .int j => if CPow i j then some (.int (i ^ j.toNat)) else none
  | _, _, _ => none

def cmpop : COp → PyData → PyData → Option Bool
  | .eq, x, y => if SeqAt.shaped x && SeqAt.shaped y then some (PyData.eqv x y) else none
  | .ne, x, y => if SeqAt.shaped x && SeqAt.shaped y then some (!PyData.eqv x y) else none
  | .lt, .int i, .int j => some (decide (i < j))
  | .lt, .str x, .str y => some (decide (x.cps.toList < y.cps.toList))
  | .lt, .tuple xs, .tuple ys => if PySem.W.alike (.tuple xs) (.tuple ys) && decide ((PyData.tuple xs).depth ≤ 40) then some (PySem.W.dataLt (.tuple xs) (.tuple ys)) else none
  | .le, .int i, .int j => some (decide (i ≤ j))
  | .gt, .int i, .int j => some (decide (j < i))
  | .ge, .int i, .int j => some (decide (j ≤ i))
  | .isin, x, .tuple ys => if SeqAt.shaped x && SeqAt.shaped (.tuple ys) then some (ys.any fun z => PyData.eqv z x) else none
  | .isin, x, .list ys => if SeqAt.shaped x && SeqAt.shaped (.list ys) then some (ys.any fun z => PyData.eqv z x) else none
  | .notin, x, .tuple ys => if SeqAt.shaped x && SeqAt.shaped (.tuple ys) then some (!ys.any fun z => PyData.eqv z x) else none
  | .notin, x, .list ys => if SeqAt.shaped x && SeqAt.shaped (.list ys) then some (!ys.any fun z => PyData.eqv z x) else none
  | _, _, _ => none

def idxop : PyData → PyData → Option PyData
  | .tuple xs, .int i => atI xs i
  | .list xs, .int i => atI xs i
  | _, _ => none

def cutD (xs : List PyData) (lo hi : Option Int) : List PyData := (xs.drop (HT.sIx xs.length 0 lo)).take (HT.sIx xs.length xs.length hi - HT.sIx xs.length 0 lo)
def slcop : PyData → Option Int → Option Int → Option PyData
  | .tuple xs, lo, hi => some (.tuple (cutD xs lo hi))
  | .list xs, lo, hi => some (.list (cutD xs lo hi))
  | .str x, lo, hi => if x.length ≤ big then some (.str (cutS x lo hi)) else none
  | _, _, _ => none

/-- built-in calls -/
inductive BF where
  | len | int | str | bool | abs | max2 | min2 | max1 | min1 | sorted | tuple | list | all | isInt | isBool | isStr | isTuple | isList
  deriving DecidableEq

def allB : List PyData → Option Bool
  | [] => some true
  | .bool b :: r => (allB r).map fun c => b && c
  | _ :: _ => none

def isiD (n : BF) : PyData → Option Bool
  | .none => some false
  | .bool _ => some (n == .isInt || n == .isBool)
  | .int _ => some (n == .isInt)
  | .str _ => some (n == .isStr)
  | .list _ => some (n == .isList)
  | .tuple _ => some (n == .isTuple)
  | .dict _ => Option.none

def intsD : List PyData → Option (List Int)
  | [] => some []
  | .int i :: r => (intsD r).map (i :: ·)
  | _ :: _ => none
def maxI : List Int → Int
  | [] => 0
  | [x] => x
  | x :: r => if maxI r > x then maxI r else x
def minI : List Int → Int
  | [] => 0
  | [x] => x
  | x :: r => if minI r < x then minI r else x
def bltop : BF → List PyData → Option PyData
  | .len, [.tuple xs] => some (.int xs.length)
  | .len, [.list xs] => some (.int xs.length)
  | .len, [.str x] => if x.length ≤ big then some (.int x.length) else none
  | .int, [.int i] => some (.int i)
  | .int, [.bool b] => some (.int (if b then 1 else 0))
  | .str, [.int i] => if i.natAbs.log2 < 1920 then some (.str (toString i)) else none
  | .bool, [.bool b] => some (.bool b)
  | .abs, [.int i] => some (.int (if i < 0 then -i else i))
  | .max2, [.int i, .int j] => some (.int (if j > i then j else i))
  | .min2, [.int i, .int j] => some (.int (if j < i then j else i))
  | .max1, [.list xs] => match intsD xs with
    | some (n :: ns) => some (.int (maxI (n :: ns)))
    | _ => none
  | .min1, [.list xs] => match intsD xs with
    | some (n :: ns) => some (.int (minI (n :: ns)))
    | _ => none
  | .sorted, [.list xs] => if srtOk xs then some (.list (sortD xs)) else none
  | .tuple, [.list xs] => some (.tuple xs)
  | .tuple, [.tuple xs] => some (.tuple xs)
  | .list, [.list xs] => some (.list xs)
  | .list, [.tuple xs] => some (.list xs)
  | .all, [.list xs] => (allB xs).map .bool
  | _, _ => none

/-- methods of a text -/
inductive MF where
  | join | split
  deriving DecidableEq
def txts : List PyData → Option (List Str)
  | [] => some []
  | .str x :: r => (txts r).map (x :: ·)
  | _ :: _ => none
def mthop : MF → Str → PyData → Option PyData
  | .join, a, .list ds => match txts ds with
    | some ys => if (ys.map (·.length)).sum + ys.length * a.length ≤ big then some (.str (Txt.join a ys)) else none
    | none => none
  | .split, a, .str b => if (b.length == 0) = false ∧ a.length + 2 ≤ big then some (.list ((Txt.split a b).map .str)) else none
  | _, _, _ => none

inductive T where
  | var (i : Nat)
  | lenS (i : Nat)
  | bget (i j : Nat)
  | sat (i : Nat) (e : T)
  | bset (i j : Nat) (e : T)
  | cst (d : PyData)
  | glob (x : Str) (d : PyData)
  | bin (op : BOp) (a b : T)
  | neg (a : T)
  | cmp (op : COp) (a b : T)
  | chain (o p : COp) (a b c : T)
  | isN (a : T)
  | notN (a : T)
  | not (a : T)
  | and (a b : T)
  | or (a b : T)
  | ite (c a b : T)
  | tup (a : T)
  | lst (a : T)
  | anil
  | acons (a r : T)
  | idx (a b : T)
  | slc (a l h : T)
  | nopart
  | rev (a : T)
  | mth (f : MF) (a b : T)
  | call (x : Str) (g : G) (a : T)
  | blt (f : BF) (a : T)
  | isi (f : BF) (a : T)
  | comp (own : List Nat) (g it c e : T)
  | yes
  | tname (i : Nat)
  | ttup (a : T)
  | itl (e : T)
  | itt (e : T)
  | itr1 (e : T)
  | itr2 (a b : T)
  | one (a : T)
  | nil
  | seq (a b : T)
  | bagged (i : Nat) (x : Str) (g : G) (a r : T)
  | asg (g e : T)
  | asgO (i : Nat) (e : T)
  | par (is : List Nat) (a : T)
  | parL (i j : Nat) (a : T)
  | app (i : Nat) (e : T)
  | iff (c a b : T)
  | loop (g it b : T)
  | while (n : Nat) (c b : T)
  | ret (e : T)
  | drop (e : T)
  | raise (x : Str) (a : T)
  | tryR (x : Str) (e : T) (r : Str)
  | dix (ks : List Str) (vs : List Int) (e : T)
  | lrg (a b : T)
  | lr1 (a : T)
  | uniq (e : T)
  | lenset (e : T)
  | itz (a b : T)

/-- how a statement ends -/
inductive Out where
  | nx
  | rt (u : U)

def S.get (s : S) (i : Nat) : R U :=
  match s.rho[i]? with
  | some (.val u) => .ok u s
  | some (.ol ds) => .ok (.d (.list ds)) ⟨s.rho.set i (.val (.d (.list ds))), s.bag⟩
  | _ => .stuck
def S.set (s : S) (i : Nat) (x : PyData) : S := ⟨s.rho.set i (.val (.d x)), s.bag⟩
def R.dat {α : Type} (m : R U) (k : PyData → S → R α) : R α := m.bind fun u s => match u with
  | .d x => k x s
  | _ => .stuck
@[simp] theorem R.dat_ok {α : Type} (x : PyData) (s : S) (k : PyData → S → R α) : (R.ok (.d x) s).dat k = k x s := rfl
@[simp] theorem R.dat_bag {α : Type} (s : S) (k : PyData → S → R α) : (R.ok .bag s).dat k = .stuck := rfl
@[simp] theorem R.dat_exn {α : Type} (c : Str) (p : Option PyData) (s : S) (k : PyData → S → R α) : (R.exn c p s).dat k = .exn c p s := rfl
@[simp] theorem R.dat_stuck {α : Type} (k : PyData → S → R α) : (R.stuck).dat k = .stuck := rfl
def R.tst {α : Type} (m : R U) (k : Bool → S → R α) : R α := m.bind fun u s => match u with
  | .d (.bool b) => k b s
  | _ => .stuck
@[simp] theorem R.tst_ok {α : Type} (b : Bool) (s : S) (k : Bool → S → R α) : (R.ok (.d (.bool b)) s).tst k = k b s := rfl
@[simp] theorem R.tst_exn {α : Type} (c : Str) (p : Option PyData) (s : S) (k : Bool → S → R α) : (R.exn c p s).tst k = .exn c p s := rfl
@[simp] theorem R.tst_stuck {α : Type} (k : Bool → S → R α) : (R.stuck).tst k = .stuck := rfl
def lift (o : Option PyData) (s : S) : R U :=
  match o with
  | some x => .ok (.d x) s
  | none => .stuck
@[simp] theorem lift_some (x : PyData) (s : S) : lift (some x) s = .ok (.d x) s := rfl
@[simp] theorem lift_none (s : S) : lift none s = .stuck := rfl
def liftB (o : Option Bool) (s : S) : R U :=
  match o with
  | some x => .ok (.d (.bool x)) s
  | none => .stuck
@[simp] theorem liftB_some (x : Bool) (s : S) : liftB (some x) s = .ok (.d (.bool x)) s := rfl
@[simp] theorem liftB_none (s : S) : liftB none s = .stuck := rfl

def datas : List U → Option (List PyData)
  | [] => some []
  | .d x :: r => (datas r).map (x :: ·)
  | _ :: _ => none
@[simp] theorem datas_nil : datas [] = some [] := rfl
@[simp] theorem datas_cons (x : PyData) (r : List U) : datas (.d x :: r) = (datas r).map (x :: ·) := rfl

def isNone : PyData → Bool
  | .none => true
  | _ => false

def wipeS : List Slot → List Nat → List Slot
  | r, [] => r
  | r, v :: vs => (wipeS r vs).set v .un

/-- a comprehension's turns -/
def compR (f : PyData → S → R (Option PyData)) : List PyData → List PyData → S → R (List PyData)
  | acc, [], s => .ok acc s
  | acc, x :: xs, s => (f x s).bind fun o s => match o with
    | some y => if acc.length < big then compR f (acc ++ [y]) xs s else .stuck
    | none => compR f acc xs s
/-- a for's turns -/
def forR (f : PyData → S → R Out) : List PyData → S → R Out
  | [], s => .ok .nx s
  | x :: xs, s => (f x s).bind fun o s => match o with
    | .nx => forR f xs s
    | .rt u => .ok (.rt u) s
/-- a while's turns, at most n -/
def whileR (c : S → R U) (b : S → R Out) : Nat → S → R Out
  | 0, _ => .stuck
  | n + 1, s => (c s).tst fun k s => if k = true then (b s).bind fun o s => match o with
      | .nx => whileR c b n s
      | .rt u => .ok (.rt u) s
    else .ok .nx s
def rangeD (lo : Int) (n : Nat) : List PyData := (List.range n).map fun (k : Nat) => PyData.int (lo + (k : Int))
def raiseR {α : Type} (c : Str) (s : S) : R α := .exn c none s

/-- a dict's display of whole numbers, asked -/
def dsub : List Str → List Int → Str → Option PyData
  | k :: ks, x :: xs, z => if k = z then some (.int x) else dsub ks xs z
  | _, _, _ => none
/-- sorted(set(x)), len(set(x)) -/
def uniqop : PyData → Option PyData
  | .list xs => if uniqOk xs then some (.list (uniqD xs)) else none
  | .tuple xs => if uniqOk xs then some (.list (uniqD xs)) else none
  | _ => none
def lensop : PyData → Option PyData
  | .list xs => if setOk xs then some (.int (uniqD xs).length) else none
  | .tuple xs => if setOk xs then some (.int (uniqD xs).length) else none
  | _ => none
def zipD : List PyData → List PyData → List PyData
  | x :: xs, y :: ys => .tuple [x, y] :: zipD xs ys
  | _, _ => []
/-- a value goes to targets -/
def asgT : T → PyData → S → Option S
  | .tname i, x, s => some (s.set i x)
  | .ttup a, .tuple xs, s => asgTs a xs s
  | _, _, _ => none
where
  asgTs : T → List PyData → S → Option S
    | .anil, [], s => some s
    | .acons a r, x :: xs, s => (asgT a x s).bind fun s => asgTs r xs s
    | _, _, _ => none
termination_by structural t => t
def R.ofS (o : Option S) : R Unit :=
  match o with
  | some s => .ok () s
  | none => .stuck
@[simp] theorem R.ofS_some (s : S) : R.ofS (some s) = .ok () s := rfl
@[simp] theorem R.ofS_none : R.ofS none = .stuck := rfl

def setAll : List Nat → List PyData → S → Option S
  | [], [], s => some s
  | i :: is, x :: xs, s => setAll is xs (s.set i x)
  | _, _, _ => none

mutual
def ev : T → S → R U
  | .var i, s => s.get i
  | .lenS i, s => match s.rho[i]? with
    | some (.val (.scr ns)) => .ok (.d (.int ns.length)) s
    | _ => .stuck
  | .bget i j, s => match s.rho[i]?, s.bag with
    | some (.val .bag), some (x, y) => .ok (.d (.int (if j = 0 then x else y))) s
    | _, _ => .stuck
  | .sat i e, s => match s.rho[i]? with
    | some (.val (.scr ns)) => (ev e s).dat fun y s => match y with
      | .int k => lift ((atI ns k).map .int) s
      | _ => .stuck
    | _ => .stuck
  | .cst d, s => .ok (.d d) s
  | .glob _ d, s => .ok (.d d) s
  | .bin op a b, s => (ev a s).dat fun x s => (ev b s).dat fun y s => lift (binop op x y) s
  | .neg a, s => (ev a s).dat fun x s => match x with
    | .int i => .ok (.d (.int (-i))) s
    | _ => .stuck
  | .cmp op a b, s => (ev a s).dat fun x s => (ev b s).dat fun y s => liftB (cmpop op x y) s
  | .chain o p a b c, s => (ev a s).dat fun x s => (ev b s).dat fun y s => match cmpop o x y with
    | some true => (ev c s).dat fun z s => liftB (cmpop p y z) s
    | some false => .ok (.d (.bool false)) s
    | none => .stuck
  | .isN a, s => (ev a s).dat fun x s => .ok (.d (.bool (isNone x))) s
  | .notN a, s => (ev a s).dat fun x s => .ok (.d (.bool (!isNone x))) s
  | .not a, s => (ev a s).tst fun b s => .ok (.d (.bool (!b))) s
  | .and a b, s => (ev a s).tst fun k s => if k = true then ev b s else .ok (.d (.bool false)) s
  | .or a b, s => (ev a s).tst fun k s => if k = true then .ok (.d (.bool true)) s else ev b s
  | .ite c a b, s => (ev c s).tst fun k s => if k = true then ev a s else ev b s
  | .tup a, s => (evA a s).bind fun us s => match datas us with
    | some xs => if xs.length ≤ big then .ok (.d (.tuple xs)) s else .stuck
    | none => .stuck
  | .lst a, s => (evA a s).bind fun us s => match datas us with
    | some xs => if xs.length ≤ big then .ok (.d (.list xs)) s else .stuck
    | none => .stuck
  | .idx a b, s => (ev a s).dat fun x s => (ev b s).dat fun y s => lift (idxop x y) s
  | .slc a l h, s => (ev a s).dat fun x s => (evO l s).bind fun lo s => (evO h s).bind fun hi s => lift (slcop x lo hi) s
  | .mth f a b, s => (ev a s).dat fun x s => match x with
    | .str x => (ev b s).dat fun y s => lift (mthop f x y) s
    | _ => .stuck
  | .rev a, s => (ev a s).dat fun x s => match x with
    | .list xs => .ok (.d (.list xs.reverse)) s
    | .tuple xs => .ok (.d (.tuple xs.reverse)) s
    | _ => .stuck
  | .dix ks vs e, s => (ev e s).dat fun y s => match y with
    | .str z => lift (dsub ks vs z) s
    | _ => .stuck
  | .lrg a b, s => (ev a s).dat fun x s => (ev b s).dat fun y s => match x, y with
    | .int i, .int j => if (-1000000 ≤ i ∧ i ≤ 1000000) ∧ -1000000 ≤ j ∧ j ≤ 1000000 then .ok (.d (.list (rangeD i (j - i).toNat))) s else .stuck
    | _, _ => .stuck
  | .lr1 a, s => (ev a s).dat fun x s => match x with
    | .int j => if -1000000 ≤ j ∧ j ≤ 1000000 then .ok (.d (.list (rangeD 0 j.toNat))) s else .stuck
    | _ => .stuck
  | .uniq e, s => (ev e s).dat fun x s => lift (uniqop x) s
  | .lenset e, s => (ev e s).dat fun x s => lift (lensop x) s
  | .call _ g a, s => (evA a s).bind fun us s => (g us s.bag).lift s
  | .blt f a, s => (evA a s).bind fun us s => match datas us with
    | some xs => lift (bltop f xs) s
    | none => .stuck
  | .isi f a, s => (ev a s).dat fun x s => liftB (isiD f x) s
  | .comp own g it c e, s => (evI it s).bind fun xs s =>
      match compR (fun x s => (R.ofS (asgT g x ⟨wipeS s.rho own, s.bag⟩)).bind fun _ s => (ev c s).tst fun k s => if k = true then (ev e s).dat fun y s => .ok (some y) s else .ok none s) [] xs s with
      | .ok ys s => .ok (.d (.list ys)) ⟨wipeS s.rho own, s.bag⟩
      | _ => .stuck
  | .yes, s => .ok (.d (.bool true)) s
  | .one a, s => ev a s
  | _, _ => .stuck
def evA : T → S → R (List U)
  | .anil, s => .ok [] s
  | .acons a r, s => (ev a s).bind fun u s => (evA r s).bind fun us s => .ok (u :: us) s
  | _, _ => .stuck
def evO : T → S → R (Option Int)
  | .nopart, s => .ok none s
  | .acons a _, s => (ev a s).dat fun x s => match x with
    | .int i => .ok (some i) s
    | _ => .stuck
  | _, _ => .stuck
def evI : T → S → R (List PyData)
  | .itl e, s => (ev e s).dat fun x s => match x with
    | .list xs => .ok xs s
    | _ => .stuck
  | .itt e, s => (ev e s).dat fun x s => match x with
    | .tuple xs => .ok xs s
    | _ => .stuck
  | .itr1 e, s => (ev e s).dat fun x s => match x with
    | .int j => if j ≤ 1000000 ∧ -1000000 ≤ j then .ok (rangeD 0 j.toNat) s else .stuck
    | _ => .stuck
  | .itr2 a b, s => (ev a s).dat fun x s => (ev b s).dat fun y s => match x, y with
    | .int i, .int j => if (-1000000 ≤ i ∧ i ≤ 1000000) ∧ -1000000 ≤ j ∧ j ≤ 1000000 then .ok (rangeD i (j - i).toNat) s else .stuck
    | _, _ => .stuck
  | .itz a b, s => (ev a s).dat fun x s => (ev b s).dat fun y s => match x, y with
    | .list xs, .list ys => .ok (zipD xs ys) s
    | .tuple xs, .tuple ys => .ok (zipD xs ys) s
    | _, _ => .stuck
  | _, _ => .stuck
end

/-- the bag is let go -/
def noBag : List Slot → List Slot
  | [] => []
  | .val .bag :: r => .un :: noBag r
  | x :: r => x :: noBag r

def ex : T → S → R Out
  | .nil, s => .ok .nx s
  | .bagged i _ g a r, s => (evA a s).bind fun us s => match g us s.bag, s.bag with
    | .ok (.d (.list [.int x, .int y])) none, none => match ex r ⟨(noBag s.rho).set i (.val .bag), some (x, y)⟩ with
      | .ok .nx s => .ok .nx ⟨noBag s.rho, none⟩
      | .ok (.rt (.d u)) s => .ok (.rt (.d u)) ⟨noBag s.rho, none⟩
      | _ => .stuck
    | _, _ => .stuck
  | .seq a b, s => (ex a s).bind fun o s => match o with
    | .nx => ex b s
    | .rt u => .ok (.rt u) s
  | .asg g e, s => (ev e s).dat fun x s => (R.ofS (asgT g x s)).bind fun _ s => .ok .nx s
  | .asgO i e, s => (ev e s).dat fun x s => match x with
    | .list xs => .ok .nx ⟨s.rho.set i (.ol xs), s.bag⟩
    | _ => .stuck
  | .bset i j e, s => (ev e s).dat fun v s => match v, s.rho[i]?, s.bag with
    | .int k, some (.val .bag), some (x, y) => .ok .nx ⟨s.rho, some (if j = 0 then (k, y) else (x, k))⟩
    | _, _, _ => .stuck
  | .par is a, s => (evA a s).bind fun us s => match datas us with
    | some xs => (R.ofS (setAll is xs s)).bind fun _ s => .ok .nx s
    | none => .stuck
  | .parL i j a, s => (ev a s).dat fun x s => .ok .nx ⟨(s.set i x).rho.set j (.ol []), s.bag⟩
  | .app i e, s => match s.rho[i]? with
    | some (.ol _) => (ev e s).dat fun x s => match s.rho[i]? with
      | some (.ol ds) => if ds.length < big then .ok .nx ⟨s.rho.set i (.ol (ds ++ [x])), s.bag⟩ else .stuck
      | _ => .stuck
    | _ => .stuck
  | .iff c a b, s => (ev c s).tst fun k s => if k = true then ex a s else ex b s
  | .loop g it b, s => (evI it s).bind fun xs s => forR (fun x s => (R.ofS (asgT g x s)).bind fun _ s => ex b s) xs s
  | .while n c b, s => whileR (fun s => ev c s) (fun s => ex b s) n s
  | .ret e, s => (ev e s).bind fun u s => .ok (.rt u) s
  | .drop e, s => (ev e s).bind fun _ s => .ok .nx s
  | .raise x _, s => raiseR x s
  | .tryR x e r, s => match ev e s with
    | .ok u s => .ok (.rt u) s
    | .exn c none s => if c = x then .ok (.rt (.d (.str r))) s else .stuck
    | _ => .stuck
  | _, _ => .stuck

/-- a def's body as a whole: np parameters, n names -/
def run (t : T) (np n : Nat) : G := fun us b =>
  if us.length = np then
    match ex t ⟨us.map Slot.val ++ List.replicate (n - np) Slot.un, b⟩ with
    | .ok .nx s => .ok (.d .none) s.bag
    | .ok (.rt u) s => .ok u s.bag
    | .exn c p s => .exn c p s.bag
    | .stuck => .stuck
  else .stuck
end RD
set_option Elab.async false
set_option maxRecDepth 100000
/-! RdB: how data stand in the heap; what a reading promises. -/
namespace RD
open PySem L2

def Le (F F' : Hp) : Prop := ∀ a o, F a = some o → F' a = some o
theorem Le.refl (F : Hp) : Le F F := fun _ _ h => h
theorem Le.trans {F G H : Hp} (h : Le F G) (k : Le G H) : Le F H := fun a o e => k a o (h a o e)
theorem Le.upd {F : Hp} {p : Addr} (o : HO) (h : F p = none) : Le F (upd F p o) := fun a u e => by
  rw [upd_ne (ne_of_none e h)]
  exact e

end RD

namespace L2
open PySem RD
theorem SqL.mono {K : PySem.W.Frag} {F F' : Hp} {a : Addr} {xs : List V} (h : Le F F') (q : SqL K F a xs) : SqL K F' a xs := by
  rcases q with (q | ⟨o, q⟩) | q
  · exact .inl (.inl (h _ _ q))
  · exact .inl (.inr ⟨o, h _ _ q⟩)
  · exact .inr q
theorem SqT.mono {K : PySem.W.Frag} {F F' : Hp} {a : Addr} {xs : List V} (h : Le F F') (q : SqT K F a xs) : SqT K F' a xs := by
  rcases q with (q | ⟨o, q⟩) | q
  · exact .inl (.inl (h _ _ q))
  · exact .inl (.inr ⟨o, h _ _ q⟩)
  · exact .inr q
mutual
/-- v stands for the data d in what is frozen: lists are tracked, tuples may be the module's own -/
inductive Dn (K : PySem.W.Frag) (F : Hp) : V → PyData → Prop
  | non : Dn K F .non .none
  | bl (b : Bool) : Dn K F (.bl b) (.bool b)
  | int (i : Int) : Dn K F (.int i) (.int i)
  | str (x : Str) : Dn K F (.str x) (.str x)
  | lst {a : Addr} {xs : List V} {ds : List PyData} : F a = some (.lst xs) → DnAll K F xs ds → Dn K F (.ref a) (.list ds)
  | tup {a : Addr} {xs : List V} {ds : List PyData} : SqT K F a xs → DnAll K F xs ds → Dn K F (.ref a) (.tuple ds)
inductive DnAll (K : PySem.W.Frag) (F : Hp) : List V → List PyData → Prop
  | nil : DnAll K F [] []
  | cons {v : V} {vs : List V} {d : PyData} {ds : List PyData} : Dn K F v d → DnAll K F vs ds → DnAll K F (v :: vs) (d :: ds)
end
mutual
theorem Dn.dp {K : PySem.W.Frag} {F : Hp} : ∀ (d : PyData) (v : V), Dn K F v d → Dp K F v d
  | .none, _, q => by cases q; exact .non
  | .bool b, _, q => by cases q; exact .bl b
  | .int i, _, q => by cases q; exact .int i
  | .str x, _, q => by cases q; exact .str x
  | .list ds, _, q => by
    cases q with
    | lst q1 q2 => exact .lst (.of q1) (Dn.dpAll ds _ q2)
  | .tuple ds, _, q => by
    cases q with
    | tup q1 q2 => exact .tup q1 (Dn.dpAll ds _ q2)
  | .dict _, _, q => by cases q
theorem Dn.dpAll {K : PySem.W.Frag} {F : Hp} : ∀ (ds : List PyData) (vs : List V), DnAll K F vs ds → DpAll K F vs ds
  | [], _, q => by cases q; exact .nil
  | d :: ds, _, q => by
    cases q with
    | cons q1 q2 => exact .cons (Dn.dp d _ q1) (Dn.dpAll ds _ q2)
end
mutual
theorem Dn.mono {K : PySem.W.Frag} {F F' : Hp} (h : Le F F') : ∀ (d : PyData) (v : V), Dn K F v d → Dn K F' v d
  | .none, _, q => by cases q; exact .non
  | .bool b, _, q => by cases q; exact .bl b
  | .int i, _, q => by cases q; exact .int i
  | .str x, _, q => by cases q; exact .str x
  | .list ds, _, q => by
    cases q with
    | lst q1 q2 => exact .lst (h _ _ q1) (Dn.monoAll h ds _ q2)
  | .tuple ds, _, q => by
    cases q with
    | tup q1 q2 => exact .tup (q1.mono h) (Dn.monoAll h ds _ q2)
  | .dict _, _, q => by cases q
theorem Dn.monoAll {K : PySem.W.Frag} {F F' : Hp} (h : Le F F') : ∀ (ds : List PyData) (vs : List V), DnAll K F vs ds → DnAll K F' vs ds
  | [], _, q => by cases q; exact .nil
  | d :: ds, _, q => by
    cases q with
    | cons q1 q2 => exact .cons (Dn.mono h d _ q1) (Dn.monoAll h ds _ q2)
end
theorem DnAll.length {K : PySem.W.Frag} {F : Hp} : ∀ {vs : List V} {ds : List PyData}, DnAll K F vs ds → vs.length = ds.length
  | _, _, .nil => rfl
  | _, _, .cons _ t => congrArg (· + 1) (DnAll.length t)
theorem DnAll.get {K : PySem.W.Frag} {F : Hp} : ∀ {vs : List V} {ds : List PyData} {i : Nat} {d : PyData}, DnAll K F vs ds → ds[i]? = some d → ∃ v, vs[i]? = some v ∧ Dn K F v d
  | _, _, _, _, .nil, e => by simp at e
  | _, _, 0, _, .cons r _, e => by simp at e; subst e; exact ⟨_, rfl, r⟩
  | _, _, i + 1, _, .cons _ t, e => by
    obtain ⟨v, h1, h2⟩ := DnAll.get (i := i) t (by simpa using e)
    exact ⟨v, by simpa using h1, h2⟩
theorem DnAll.get' {K : PySem.W.Frag} {F : Hp} {vs : List V} {ds : List PyData} {i : Nat} {v : V} (h : DnAll K F vs ds) (e : vs[i]? = some v) : ∃ d, ds[i]? = some d ∧ Dn K F v d := by
  have hl := h.length
  have hi : i < ds.length := by
    have := (List.getElem?_eq_some_iff.mp e).1
    omega
  obtain ⟨v', h1, h2⟩ := h.get (List.getElem?_eq_getElem hi)
  rw [e] at h1
  cases h1
  exact ⟨_, List.getElem?_eq_getElem hi, h2⟩
theorem DnAll.append {K : PySem.W.Frag} {F : Hp} : ∀ {vs ws : List V} {ds es : List PyData}, DnAll K F vs ds → DnAll K F ws es → DnAll K F (vs ++ ws) (ds ++ es)
  | _, _, _, _, .nil, q => q
  | _, _, _, _, .cons r t, q => .cons r (DnAll.append t q)
theorem DnAll.take {K : PySem.W.Frag} {F : Hp} : ∀ {vs : List V} {ds : List PyData} (n : Nat), DnAll K F vs ds → DnAll K F (vs.take n) (ds.take n)
  | _, _, 0, _ => .nil
  | _, _, _ + 1, .nil => .nil
  | _, _, n + 1, .cons r t => .cons r (DnAll.take n t)
theorem DnAll.drop {K : PySem.W.Frag} {F : Hp} : ∀ {vs : List V} {ds : List PyData} (n : Nat), DnAll K F vs ds → DnAll K F (vs.drop n) (ds.drop n)
  | _, _, 0, q => q
  | _, _, _ + 1, .nil => .nil
  | _, _, n + 1, .cons _ t => DnAll.drop n t
theorem DnAll.reverse {K : PySem.W.Frag} {F : Hp} : ∀ {vs : List V} {ds : List PyData}, DnAll K F vs ds → DnAll K F vs.reverse ds.reverse
  | _, _, .nil => .nil
  | _, _, .cons r t => by
    rw [List.reverse_cons, List.reverse_cons]
    exact (DnAll.reverse t).append (.cons r .nil)
theorem DnAll.rep {K : PySem.W.Frag} {F : Hp} {vs : List V} {ds : List PyData} (h : DnAll K F vs ds) : ∀ n : Nat, DnAll K F (List.replicate n vs).flatten (List.replicate n ds).flatten
  | 0 => .nil
  | n + 1 => by
    rw [List.replicate_succ, List.replicate_succ, List.flatten_cons, List.flatten_cons]
    exact h.append (DnAll.rep h n)
theorem DnAll.cut {K : PySem.W.Frag} {F : Hp} {vs : List V} {ds : List PyData} (h : DnAll K F vs ds) (lo hi : Option Int) : DnAll K F (cutV vs lo hi) (cutD ds lo hi) := by
  unfold cutV cutD
  rw [h.length]
  exact (h.drop _).take _

end L2

namespace RD
open PySem L2
/-- the entry of a def: what is frozen there, the heap, the bag's place, whether there is one -/
structure Ct where
  F0 : Hp
  H0 : Hp
  b : Addr
  hb : Bool

def DenU (K : PySem.W.Frag) (b : Addr) (F : Hp) : U → V → Prop
  | .d x, v => Dn K F v x
  | .bag, v => v = .ref b
  | .scr ns, v => ∃ a, v = .ref a ∧ SqL K F a (ns.map V.int)
theorem DenU.mono {K : PySem.W.Frag} {b : Addr} {F F' : Hp} (h : Le F F') : ∀ {u : U} {v : V}, DenU K b F u v → DenU K b F' u v
  | .d _, _, q => Dn.mono h _ _ q
  | .bag, _, q => q
  | .scr _, _, ⟨a, e, q⟩ => ⟨a, e, SqL.mono h q⟩

structure Rel (K : PySem.W.Frag) (C : Ct) (F : Hp) (s : S) (σ : L2.St) (H : Hp) : Prop where
  le : Le F H
  ge : Le C.F0 F
  new : ∀ a o, F a = some o → C.F0 a = some o ∨ C.H0 a = none
  keep : ∀ a o, C.H0 a = some o → (C.hb = false ∨ a ≠ C.b) → H a = some o
  hbag : s.bag.isSome = C.hb
  bag : ∀ x y, s.bag = some (x, y) → H C.b = some (.lst [.int x, .int y]) ∧ F C.b = none
  len : σ.length = s.rho.length
  val : ∀ (i : Nat) (u : U), s.rho[i]? = some (.val u) → ∃ v, σ[i]? = some (some v) ∧ DenU K C.b F u v
  own : ∀ (i : Nat) (ds : List PyData), s.rho[i]? = some (.ol ds) → ∃ p vs, σ[i]? = some (some (.ref p)) ∧ H p = some (.lst vs) ∧ F p = none ∧ C.H0 p = none ∧ (C.hb = false ∨ p ≠ C.b) ∧ DnAll K F vs ds
  apart : ∀ (i j : Nat) (ds es : List PyData) (p : Addr), s.rho[i]? = some (.ol ds) → s.rho[j]? = some (.ol es) → σ[i]? = some (some (.ref p)) → σ[j]? = some (some (.ref p)) → i = j

section
variable {K : PySem.W.Frag} {C : Ct} {F : Hp} {s : S} {σ : L2.St} {H : Hp}
theorem Rel.fresh0 (r : Rel K C F s σ H) {p : Addr} (h : H p = none) : C.H0 p = none := by
  cases e : C.H0 p with
  | none => rfl
  | some o =>
    by_cases hp : C.hb = false ∨ p ≠ C.b
    · rw [r.keep p o e hp] at h
      cases h
    · have h1 : C.hb = true := by
        cases q : C.hb with
        | true => rfl
        | false => exact absurd (.inl q) hp
      have h2 : p = C.b := Classical.not_not.mp fun q => hp (.inr q)
      have h3 := r.hbag
      rw [h1] at h3
      cases q : s.bag with
      | none => rw [q] at h3; cases h3
      | some xy =>
        obtain ⟨x, y⟩ := xy
        have := (r.bag x y q).1
        rw [← h2, h] at this
        cases this
theorem Rel.freeF (r : Rel K C F s σ H) {p : Addr} (h : H p = none) : F p = none := by
  cases e : F p with
  | none => rfl
  | some o => rw [r.le p o e] at h; cases h
theorem Rel.bne (r : Rel K C F s σ H) {p : Addr} (h : H p = none) : C.hb = false ∨ p ≠ C.b := by
  cases q : C.hb with
  | false => exact .inl rfl
  | true =>
    refine .inr fun e => ?_
    have h3 := r.hbag
    rw [q] at h3
    cases q2 : s.bag with
    | none => rw [q2] at h3; cases h3
    | some xy =>
      obtain ⟨x, y⟩ := xy
      have := (r.bag x y q2).1
      rw [← e, h] at this
      cases this
/-- a new object, not frozen -/
theorem Rel.lay (r : Rel K C F s σ H) {p : Addr} (o : HO) (h : H p = none) : Rel K C F s σ (upd H p o) where
  le := r.le.trans (Le.upd o h)
  ge := r.ge
  new := r.new
  keep := fun a u e n => Le.upd o h a u (r.keep a u e n)
  hbag := r.hbag
  bag := fun x y e => ⟨Le.upd o h _ _ (r.bag x y e).1, (r.bag x y e).2⟩
  len := r.len
  val := r.val
  own := fun i ds e => by
    obtain ⟨q, vs, h1, h2, h3⟩ := r.own i ds e
    exact ⟨q, vs, h1, Le.upd o h _ _ h2, h3⟩
  apart := r.apart
/-- an object that is not frozen is from now on -/
theorem Rel.freeze (r : Rel K C F s σ H) {p : Addr} {o : HO} (h : H p = some o) (h0 : C.H0 p = none) (hF : F p = none) (hb : C.hb = false ∨ p ≠ C.b)
    (ho : ∀ (i : Nat) (ds : List PyData), s.rho[i]? = some (.ol ds) → σ[i]? ≠ some (some (.ref p))) : Rel K C (upd F p o) s σ H where
  le := fun a u e => by
    by_cases hp : a = p
    · subst hp
      rw [upd_same] at e
      cases e
      exact h
    · rw [upd_ne hp] at e
      exact r.le a u e
  ge := r.ge.trans (Le.upd o hF)
  new := fun a u e => by
    by_cases hp : a = p
    · subst hp
      exact .inr h0
    · rw [upd_ne hp] at e
      exact r.new a u e
  keep := r.keep
  hbag := r.hbag
  bag := fun x y e => by
    refine ⟨(r.bag x y e).1, ?_⟩
    rw [upd_ne]
    · exact (r.bag x y e).2
    · rcases hb with q | q
      · have := r.hbag
        rw [e, q] at this
        cases this
      · exact fun z => q z.symm
  len := r.len
  val := fun i u e => by
    obtain ⟨v, h1, h2⟩ := r.val i u e
    exact ⟨v, h1, h2.mono (Le.upd o hF)⟩
  own := fun i ds e => by
    obtain ⟨q, vs, h1, h2, h3, h4, h5, h6⟩ := r.own i ds e
    refine ⟨q, vs, h1, h2, ?_, h4, h5, Dn.monoAll (Le.upd o hF) _ _ h6⟩
    rw [upd_ne]
    · exact h3
    · intro z
      subst z
      exact ho i ds e h1
  apart := r.apart
theorem Rel.ownNe (r : Rel K C F s σ H) {p : Addr} (h : H p = none) (i : Nat) (ds : List PyData) (e : s.rho[i]? = some (.ol ds)) : σ[i]? ≠ some (some (.ref p)) := fun z => by
  obtain ⟨q, vs, h1, h2, _⟩ := r.own i ds e
  rw [z] at h1
  cases h1
  rw [h] at h2
  cases h2
/-- a new object, frozen -/
theorem Rel.alloc (r : Rel K C F s σ H) {p : Addr} (o : HO) (h : H p = none) : Rel K C (upd F p o) s σ (upd H p o) :=
  (r.lay o h).freeze upd_same (r.fresh0 h) (r.freeF h) (r.bne h) (r.ownNe h)
/-- a slot is set -/
theorem Rel.setU (r : Rel K C F s σ H) (i : Nat) {u : U} {v : V} (d : DenU K C.b F u v) : Rel K C F ⟨s.rho.set i (.val u), s.bag⟩ (σ.set i (some v)) H where
  le := r.le
  ge := r.ge
  new := r.new
  keep := r.keep
  hbag := r.hbag
  bag := r.bag
  len := by simpa using r.len
  val := fun j w e => by
    by_cases h : i = j
    · subst h
      have hi : i < s.rho.length := by
        have := (List.getElem?_eq_some_iff.mp e).1
        simpa using this
      have e' : (s.rho.set i (Slot.val u))[i]? = some (.val w) := e
      rw [List.getElem?_set_self hi] at e'
      cases e'
      exact ⟨v, List.getElem?_set_self (by rw [r.len]; exact hi), d⟩
    · have e' : (s.rho.set i (Slot.val u))[j]? = some (.val w) := e
      rw [List.getElem?_set_ne h] at e'
      obtain ⟨v', h1, h2⟩ := r.val j w e'
      exact ⟨v', by rw [List.getElem?_set_ne h]; exact h1, h2⟩
  own := fun j ds e => by
    by_cases h : i = j
    · subst h
      have hi : i < s.rho.length := by
        have := (List.getElem?_eq_some_iff.mp e).1
        simpa using this
      have e' : (s.rho.set i (Slot.val u))[i]? = some (.ol ds) := e
      rw [List.getElem?_set_self hi] at e'
      cases e'
    · have e' : (s.rho.set i (Slot.val u))[j]? = some (.ol ds) := e
      rw [List.getElem?_set_ne h] at e'
      obtain ⟨q, vs, h1, h2⟩ := r.own j ds e'
      exact ⟨q, vs, by rw [List.getElem?_set_ne h]; exact h1, h2⟩
  apart := fun j k ds es p e1 e2 q1 q2 => by
    have ne : ∀ {j : Nat} {ds : List PyData}, (s.rho.set i (Slot.val u))[j]? = some (.ol ds) → i ≠ j := fun {j ds} e h => by
      subst h
      have hi : i < s.rho.length := by
        have := (List.getElem?_eq_some_iff.mp e).1
        simpa using this
      rw [List.getElem?_set_self hi] at e
      cases e
    have n1 := ne e1
    have n2 := ne e2
    have e1' : (s.rho.set i (Slot.val u))[j]? = some (.ol ds) := e1
    have e2' : (s.rho.set i (Slot.val u))[k]? = some (.ol es) := e2
    rw [List.getElem?_set_ne n1] at e1' q1
    rw [List.getElem?_set_ne n2] at e2' q2
    exact r.apart j k ds es p e1' e2' q1 q2
theorem Rel.setD (r : Rel K C F s σ H) (i : Nat) {x : PyData} {v : V} (d : Dn K F v x) : Rel K C F (s.set i x) (σ.set i (some v)) H := r.setU i (u := .d x) d
/-- a slot holds a new list of its own -/
theorem Rel.setO (r : Rel K C F s σ H) (i : Nat) {p : Addr} {vs : List V} {ds : List PyData} (h : H p = some (.lst vs)) (hF : F p = none) (h0 : C.H0 p = none) (hb : C.hb = false ∨ p ≠ C.b) (hd : DnAll K F vs ds)
    (ho : ∀ (j : Nat) (es : List PyData), i ≠ j → s.rho[j]? = some (.ol es) → σ[j]? ≠ some (some (.ref p))) : Rel K C F ⟨s.rho.set i (.ol ds), s.bag⟩ (σ.set i (some (.ref p))) H where
  le := r.le
  ge := r.ge
  new := r.new
  keep := r.keep
  hbag := r.hbag
  bag := r.bag
  len := by simpa using r.len
  val := fun j w e => by
    by_cases h : i = j
    · subst h
      have hi : i < s.rho.length := by
        have := (List.getElem?_eq_some_iff.mp e).1
        simpa using this
      have e' : (s.rho.set i (Slot.ol ds))[i]? = some (.val w) := e
      rw [List.getElem?_set_self hi] at e'
      cases e'
    · have e' : (s.rho.set i (Slot.ol ds))[j]? = some (.val w) := e
      rw [List.getElem?_set_ne h] at e'
      obtain ⟨v', h1, h2⟩ := r.val j w e'
      exact ⟨v', by rw [List.getElem?_set_ne h]; exact h1, h2⟩
  own := fun j es e => by
    by_cases hj : i = j
    · subst hj
      have hi : i < s.rho.length := by
        have := (List.getElem?_eq_some_iff.mp e).1
        simpa using this
      have e' : (s.rho.set i (Slot.ol ds))[i]? = some (.ol es) := e
      rw [List.getElem?_set_self hi] at e'
      cases e'
      exact ⟨p, vs, List.getElem?_set_self (by rw [r.len]; exact hi), h, hF, h0, hb, hd⟩
    · have e' : (s.rho.set i (Slot.ol ds))[j]? = some (.ol es) := e
      rw [List.getElem?_set_ne hj] at e'
      obtain ⟨q, vs, h1, h2⟩ := r.own j es e'
      exact ⟨q, vs, by rw [List.getElem?_set_ne hj]; exact h1, h2⟩
  apart := fun j k es fs q e1 e2 q1 q2 => by
    have e1' : (s.rho.set i (Slot.ol ds))[j]? = some (.ol es) := e1
    have e2' : (s.rho.set i (Slot.ol ds))[k]? = some (.ol fs) := e2
    have old : ∀ {j : Nat} {es : List PyData}, i ≠ j → (s.rho.set i (Slot.ol ds))[j]? = some (.ol es) → s.rho[j]? = some (.ol es) := fun n e => by
      rw [List.getElem?_set_ne n] at e
      exact e
    have at_i : ∀ {q : Addr}, i < σ.length → (σ.set i (some (V.ref p)))[i]? = some (some (.ref q)) → q = p := fun hi e => by
      rw [List.getElem?_set_self hi] at e
      cases e
      rfl
    have lt : ∀ {j : Nat} {q : Addr}, (σ.set i (some (V.ref p)))[j]? = some (some (.ref q)) → j < σ.length := fun e => by
      have := (List.getElem?_eq_some_iff.mp e).1
      simpa using this
    by_cases hj : i = j
    · by_cases hk : i = k
      · exact hj.symm.trans hk
      · subst hj
        have z := at_i (lt q1) q1
        rw [List.getElem?_set_ne hk] at q2
        rw [z] at q2
        exact absurd q2 (ho k fs hk (old hk e2'))
    · by_cases hk : i = k
      · subst hk
        have z := at_i (lt q2) q2
        rw [List.getElem?_set_ne hj] at q1
        rw [z] at q1
        exact absurd q1 (ho j es hj (old hj e1'))
      · rw [List.getElem?_set_ne hj] at q1
        rw [List.getElem?_set_ne hk] at q2
        exact r.apart j k es fs q (old hj e1') (old hk e2') q1 q2
end

/-- how an exception lies -/
def ErrIs (K : PySem.W.Frag) (mg : Str → Option Value) (F H : Hp) (c : Str) (p : Option PyData) (cls : Value) (d : Option Addr) : Prop :=
  ∃ E, mg c = some (.ref E) ∧ cls = .ref E ∧ match p with
    | none => d = none
    | some x => ∃ dd v, d = some dd ∧ H dd = some (.xd [(("word" : Str), v)]) ∧ Dn K F v x

def Post {α : Type} (K : PySem.W.Frag) (mg : Str → Option Value) (W : WX) (C : Ct) (F : Hp) (σ : L2.St) (m : R α) (Q : α → Hp → S → Hp → Prop) : Prop :=
  match m with
  | .ok a s => ∀ F' H', Le F F' → Rel K C F' s σ H' → Q a F' s H'
  | .exn c p s => ∀ F' H' cls d, Le F F' → Rel K C F' s σ H' → ErrIs K mg F' H' c p cls d → W cls d σ H'
  | .stuck => False
section
variable {K : PySem.W.Frag} {mg : Str → Option Value} {W : WX} {C : Ct} {F F' : Hp} {σ : L2.St} {α β : Type}
theorem Post.up {m : R α} {Q : α → Hp → S → Hp → Prop} (h : Post K mg W C F σ m Q) (le : Le F F') : Post K mg W C F' σ m Q := by
  cases m with
  | ok a s => exact fun G H l r => h G H (le.trans l) r
  | exn c p s => exact fun G H cls d l r e => h G H cls d (le.trans l) r e
  | stuck => exact h
theorem Post.imp {m : R α} {Q Q' : α → Hp → S → Hp → Prop} (h : Post K mg W C F σ m Q) (k : ∀ a F' s H', Le F F' → Rel K C F' s σ H' → Q a F' s H' → Q' a F' s H') : Post K mg W C F σ m Q' := by
  cases m with
  | ok a s => exact fun G H l r => k a G s H l r (h G H l r)
  | exn c p s => exact h
  | stuck => exact h
theorem Post.bind {m : R α} {k : α → S → R β} {Q : β → Hp → S → Hp → Prop} (h : Post K mg W C F σ (m.bind k) Q) : Post K mg W C F σ m fun a F' s _ => Post K mg W C F' σ (k a s) Q := by
  cases m with
  | ok a s => exact fun G H l _ => Post.up h l
  | exn c p s => exact h
  | stuck => exact h
theorem Post.dat {m : R U} {k : PyData → S → R β} {Q : β → Hp → S → Hp → Prop} (h : Post K mg W C F σ (m.dat k) Q) : Post K mg W C F σ m fun u F' s _ => ∃ x, u = .d x ∧ Post K mg W C F' σ (k x s) Q := by
  refine (Post.bind h).imp fun u F' s H' _ _ q => ?_
  cases u with
  | d x => exact ⟨x, rfl, q⟩
  | bag => exact q.elim
  | scr ns => exact q.elim
theorem Post.tst {m : R U} {k : Bool → S → R β} {Q : β → Hp → S → Hp → Prop} (h : Post K mg W C F σ (m.tst k) Q) : Post K mg W C F σ m fun u F' s _ => ∃ b, u = .d (.bool b) ∧ Post K mg W C F' σ (k b s) Q := by
  refine (Post.bind h).imp fun u F' s H' _ _ q => ?_
  cases u with
  | d x =>
    cases x with
    | bool b => exact ⟨b, rfl, q⟩
    | _ => exact q.elim
  | bag => exact q.elim
  | scr ns => exact q.elim
theorem Post.here {a : α} {s : S} {H : Hp} {Q : α → Hp → S → Hp → Prop} (h : Post K mg W C F σ (.ok a s) Q) (r : Rel K C F s σ H) : Q a F s H := h F H (Le.refl F) r
end

/-- an expression's reading -/
def tX (K : PySem.W.Frag) (mg : Str → Option Value) (W : WX) (t : T) : TE := fun σ H Q => ∃ C F s, Rel K C F s σ H ∧ Post K mg W C F σ (ev t s) fun u F' _ H' => ∀ v, DenU K C.b F' u v → Q v H'
/-- a list of arguments -/
def tXA (K : PySem.W.Frag) (mg : Str → Option Value) (W : WX) (t : T) : TA := fun σ H Q => ∃ C F s, Rel K C F s σ H ∧ Post K mg W C F σ (evA t s) fun us F' _ H' => ∀ vs, Paired (DenU K C.b F') us vs → Q vs H'
/-- a test -/
def tXT (K : PySem.W.Frag) (mg : Str → Option Value) (W : WX) (t : T) : TT := fun σ H Q => ∃ C F s, Rel K C F s σ H ∧ Post K mg W C F σ ((ev t s).tst .ok) fun b _ _ H' => Q b H'
/-- a part of a slice -/
def tXO (K : PySem.W.Frag) (mg : Str → Option Value) (W : WX) (t : T) : TO := fun σ H Q => ∃ C F s, Rel K C F s σ H ∧ Post K mg W C F σ (evO t s) fun o _ _ H' => Q o H'
/-- what an iterator walks -/
def Walk (K : PySem.W.Frag) (F : Hp) (J : It) (xs : List PyData) : Prop := ∀ i H, Le F H → (∀ d, xs[i]? = some d → J.go i H ∧ ∀ x H', J.yld i H x H' → (H' = H ∧ Dn K F x d) ∨ ∃ p vs ds, H p = none ∧ H' = upd H p (.tup vs) ∧ x = .ref p ∧ d = .tuple ds ∧ DnAll K F vs ds) ∧
  (xs.length ≤ i → J.stop i H)
def tXI (K : PySem.W.Frag) (mg : Str → Option Value) (W : WX) (t : T) : TI := fun σ H R => ∃ C F s, Rel K C F s σ H ∧ Post K mg W C F σ (evI t s) fun xs F' _ H' => ∀ J, Walk K F' J xs → R J H'
/-- the slots of a target -/
def slotsT : T → List Nat
  | .tname i => [i]
  | .ttup a => slotsT a
  | .acons a r => slotsT a ++ slotsT r
  | _ => []
def tXG (K : PySem.W.Frag) (t : T) : TG := fun v σ H Q => ∃ C F s x, Rel K C F s σ H ∧ Dn K F v x ∧ ∃ s', asgT t x s = some s' ∧ ∀ σ' : L2.St, (∀ i, i ∉ slotsT t → σ'[i]? = σ[i]?) → σ'.length = σ.length → Rel K C F s' σ' H → Q σ' H
def tXGs (K : PySem.W.Frag) (t : T) : TGs := fun vs σ H Q => ∃ C F s xs, Rel K C F s σ H ∧ DnAll K F vs xs ∧ ∃ s', asgT.asgTs t xs s = some s' ∧ ∀ σ' : L2.St, (∀ i, i ∉ slotsT t → σ'[i]? = σ[i]?) → σ'.length = σ.length → Rel K C F s' σ' H → Q σ' H
/-- how a block's end meets what is wanted -/
def PostS (K : PySem.W.Frag) (mg : Str → Option Value) (W : WX) (C : Ct) (F : Hp) (m : R Out) (D : Ends) : Prop :=
  match m with
  | .ok .nx s => ∀ F' σ H, Le F F' → Rel K C F' s σ H → D.nx σ H
  | .ok (.rt u) s => ∀ F' σ H v, Le F F' → Rel K C F' s σ H → DenU K C.b F' u v → D.rt v H
  | .exn c p s => ∀ F' σ H cls d, Le F F' → Rel K C F' s σ H → ErrIs K mg F' H c p cls d → W cls d σ H
  | .stuck => False
def tS (K : PySem.W.Frag) (mg : Str → Option Value) (W : WX) (t : T) : TS := fun D σ H => ∃ C F s, Rel K C F s σ H ∧ PostS K mg W C F (ex t s) D
end RD

namespace L2
open PySem RD
theorem PE.weak {X : Cx} {e : Expr} {t t' : TE} (h : PE X e t) (k : ∀ σ H Q, t' σ H Q → t σ H Q) : PE X e t' := ⟨fun pins s σ H Q I q => h.run pins s σ H Q I (k σ H Q q)⟩
theorem PT.weak {X : Cx} {e : Expr} {t t' : TT} (h : PT X e t) (k : ∀ σ H Q, t' σ H Q → t σ H Q) : PT X e t' := ⟨fun pins s σ H Q I q => h.run pins s σ H Q I (k σ H Q q)⟩
theorem PW.weak {X : Cx} {e : Expr} {t t' : TT} (h : PW X e t) (k : ∀ σ H Q, t' σ H Q → t σ H Q) : PW X e t' := ⟨fun wh pins s σ H Q I q => h.run wh pins s σ H Q I (k σ H Q q)⟩
theorem PA.weak {X : Cx} {e : List Expr} {t t' : TA} (h : PA X e t) (k : ∀ σ H Q, t' σ H Q → t σ H Q) : PA X e t' := ⟨fun pos pins s σ H Q I q => h.run pos pins s σ H Q I (k σ H Q q)⟩
theorem PS.weak {X : Cx} {e : Stmt} {t t' : TS} (h : PS X e t) (k : ∀ D σ H, t' D σ H → t D σ H) : PS X e t' := ⟨fun pins s σ H D I q => h.run pins s σ H D I (k D σ H q)⟩
theorem PSs.weak {X : Cx} {e : List Stmt} {t t' : TS} (h : PSs X e t) (k : ∀ D σ H, t' D σ H → t D σ H) : PSs X e t' := ⟨fun pins s σ H D I q => h.run pins s σ H D I (k D σ H q)⟩
end L2
namespace L2
open PySem RD
theorem PO.weak {X : Cx} {e : Option Expr} {t t' : TO} (h : PO X e t) (k : ∀ σ H Q, t' σ H Q → t σ H Q) : PO X e t' := ⟨fun pins s σ H Q I q => h.run pins s σ H Q I (k σ H Q q)⟩
theorem PG.weak {X : Cx} {e : Expr} {t t' : TG} (h : PG X e t) (k : ∀ v σ H Q, t' v σ H Q → t v σ H Q) : PG X e t' := ⟨fun pins s σ H v u Q I r q => h.run pins s σ H v u Q I r (k v σ H Q q)⟩
theorem PGs.weak {X : Cx} {e : List Expr} {t t' : TGs} (h : PGs X e t) (k : ∀ v σ H Q, t' v σ H Q → t v σ H Q) : PGs X e t' := ⟨fun pins s σ H v u Q I r q => h.run pins s σ H v u Q I r (k v σ H Q q)⟩
theorem PI.weak {X : Cx} {tg e : Expr} {t t' : L2.TI} (h : PI X tg e t) (k : ∀ σ H Q, t' σ H Q → t σ H Q) : PI X tg e t' := ⟨fun pins s σ H Q I q => h.run pins s σ H Q I (k σ H Q q)⟩
theorem PTs.weak {X : Cx} {e : List Expr} {t t' : TT} (h : PTs X e t) (k : ∀ σ H Q, t' σ H Q → t σ H Q) : PTs X e t' := ⟨fun pins s σ H Q I q => h.run pins s σ H Q I (k σ H Q q)⟩
end L2
set_option Elab.async false
set_option maxRecDepth 100000
/-! RdC: the operators' rules over data. -/
namespace RD
open PySem L2

section
variable {X : Cx}
/-- l + b, two lists that stand in H -/
theorem op_inT (hu : X.A.units + 65 < cLine) (neg : Bool) : OpR X (compareOp (if neg then .NotIn else .In)) (fun x y H Q => ∃ d ds, Dp X.K H x d ∧ Dp X.K H y (.tuple ds) ∧ SeqAt.shaped d = true ∧ SeqAt.shaped (.tuple ds) = true ∧ Q (.bl (xor neg (ds.any fun z => PyData.eqv z d))) H) := by
  intro pins s σ H x y v u Q I rx ry h
  obtain ⟨d, ds, hd, he, sd, se, q⟩ := h
  obtain ⟨as, r1⟩ := Dp.reads I d x v hd rx
  obtain ⟨bs, r2⟩ := Dp.reads I (.tuple ds) y u he ry
  have room : X.A.units + 1 + min (PyData.depthAll ds) d.depth < cLine := by
    have h1 := SeqAt.depth_of_shaped sd
    have h2 : min (PyData.depthAll ds) d.depth ≤ d.depth := Nat.min_le_right _ _
    omega
  have c1 := SeqAt.canLay_of_shaped se
  have c2 := SeqAt.canLay_of_shaped sd
  cases neg with
  | false => exact SeqAt.in_tuple_reads r2 r1 c1 c2 room ⟨.bl _, H, I, rfl, by simpa using q⟩
  | true => exact SeqAt.notIn_tuple_reads r2 r1 c1 c2 room ⟨.bl _, H, I, rfl, by simpa using q⟩

/-- nothing, said again -/
theorem tuple_mul0 (l : Addr) (n : Nat) (dd : Option Addr) (sl : Array (Option Value)) (x : Int) (u : Tok) (c0 : (decide (x < -(2 ^ 63)) || decide (x ≥ 2 ^ 63)) = false) :
    Meets (Builtin.«tuple.__mul__» ⟨[.ref l, .int x u], []⟩) (fun _ R s => s.heap.get? l = some { cls := .type "tuple", dict := dd, data := .seq #[] n, slots := sl } ∧ R (.ok (.ret (.ref l))) s) :=
  .of_wp fun prog w A R s h => by
    obtain ⟨hp, g, d, tk, os⟩ := s
    obtain ⟨hl, h⟩ := h
    have f1 := AutoSeq1.idx_int
    wp_walk using wpAny_loadPart' hl
    refine wpAny_ite_false (decide_eq_false (fun z => Bool.false_ne_true (c0.symm.trans z))) ?_
    wp_walk using wpAny_loadPart' hl
    exact ⟨_, rfl, h⟩
/-- () * k -/
def rRep0 (K : PySem.W.Frag) : R2 := fun x y H Q => ∃ l k, x = .ref l ∧ y = .int k ∧ SqT K H l [] ∧ 2 ≤ k ∧ k ≤ 1000 ∧ Q (.ref l) H
theorem op_rep0 : OpR X (binaryOp .Mult) (rRep0 X.K) := by
  intro pins s σ H x y v u Q I rx ry h
  obtain ⟨l, k, ex, ey, hT, k1, k2, q⟩ := h
  subst ex ey
  cases rx
  obtain ⟨t, et⟩ := ry
  subst et
  obtain ⟨its, r, ⟨⟨cls, dd, data, sl⟩, ho, hc, n, hd⟩, _⟩ := I.tuple hT
  cases (show cls = .type "tuple" from hc)
  cases (show data = .seq its.toArray n from hd)
  cases r
  have c0 : (decide (k < -(2 ^ 63)) || decide (k ≥ 2 ^ 63)) = false := by
    have z1 : decide (k < -(2 ^ 63)) = false := decide_eq_false (by omega)
    have z2 : decide (k ≥ 2 ^ 63) = false := decide_eq_false (by omega)
    rw [z1, z2]
    rfl
  have c1 := call_meets (prog := X.prog) (w := X.w) (A := X.A) (E := X.xe) PySem.F.slot_tuple_mul (s := s) (show s.TypeIs (.ref l) "tuple" from ⟨_, ho, rfl⟩) PySem.F.entry_tuple_mul (PySem.F.args_tuple_mul_2 _ _) (tuple_mul0 l n dd sl k t c0) (Q := EP X pins σ Q) ⟨ho, ⟨.ref l, H, I, rfl, q⟩⟩
  exact wpAny_binaryOp_repeat_ref (T := "tuple") (U := "int") (by decide) ⟨_, ho, rfl⟩ (fun z => typeIs_int z k t) noFill_tuple_mul PySem.F.fills_int_mul PySem.F.slot_int_rmul repeat_tuple PySem.F.slot_int_index.lookup
    (call_meets PySem.F.slot_int_rmul (typeIs_int s k t) PySem.F.entry_int_rmul (PySem.F.args_int_rmul_2 _ _) (int_rmul_tuple k t l #[] n dd sl) ⟨ho, rfl, ⟨_, ho, rfl⟩, c1⟩)
def rbin (K : PySem.W.Frag) : BOp → R2
  | .add => fun x y H Q => rI0 (fun i j => .int (i + j)) x y H Q ∨ (∃ i j, x = .str i ∧ y = .str j ∧ i.length + j.length ≤ sizeLine ∧ Q (.str (i ++ j)) H) ∨ rCatA K x y H Q ∨ rCat x y H Q
  | .sub => rI0 fun i j => .int (i - j)
  | .mul => fun x y H Q => rI CMul (fun i j => .int (i * j)) x y H Q ∨ rRepT K x y H Q ∨ rRep0 K x y H Q
  | .fdiv => rI CDivN fun i j => .int (i.fdiv j)
  | .mod => rI (fun _ j => j ≠ 0) fun i j => .int (i.fmod j)
  | .pow => rI CPow fun i j => .int (i ^ j.toNat)
theorem op_bin (op : BOp) : OpR X (binaryOp op.op) (rbin X.K op) := by
  cases op with
  | add => exact op_add.or (op_add_str.or (op_catA.or op_cat))
  | sub => exact op_sub
  | mul => exact op_mul.or (op_repT.or op_rep0)
  | fdiv => exact op_fdivN
  | mod => exact op_modN
  | pow => exact op_pow

/-- a < b of data that are alike -/
def rLtA (K : PySem.W.Frag) : R2 := fun x y H Q => ∃ d e, Dp K H x d ∧ Dp K H y e ∧ PySem.W.alike d e = true ∧ d.depth ≤ 40 ∧ d ≠ .none ∧ Q (.bl (PySem.W.dataLt d e)) H
theorem op_ltA (hu : X.A.units + 45 < cLine) : OpR X (compareOp .Lt) (rLtA X.K) := by
  intro pins s σ H x y v u Q I rx ry h
  obtain ⟨d, e, hx, hy, al, dp, nn, q⟩ := h
  obtain ⟨as, r1⟩ := Dp.reads I d x v hx rx
  obtain ⟨bs, r2⟩ := Dp.reads I e y u hy ry
  exact (PySem.W.rcLt_alike d e X.A s v u as bs r1 r2 al nn (by omega)) _ _ _ _ ⟨.bl (PySem.W.dataLt d e), H, I, rfl, q⟩
def rcmp (K : PySem.W.Frag) : COp → R2
  | .eq => rEqD K
  | .ne => rNeD K
  | .lt => fun x y H Q => rI0 (fun i j => .bl (decide (i < j))) x y H Q ∨ (∃ i j, x = .str i ∧ y = .str j ∧ Q (.bl (decide (i.cps.toList < j.cps.toList))) H) ∨ rLtA K x y H Q
  | .le => rI0 fun i j => .bl (decide (i ≤ j))
  | .gt => rI0 fun i j => .bl (decide (j < i))
  | .ge => rI0 fun i j => .bl (decide (j ≤ i))
  | .isin => fun x y H Q => rInD K x y H Q ∨ ∃ d ds, Dp K H x d ∧ Dp K H y (.tuple ds) ∧ SeqAt.shaped d = true ∧ SeqAt.shaped (.tuple ds) = true ∧ Q (.bl (xor false (ds.any fun z => PyData.eqv z d))) H
  | .notin => fun x y H Q => rNotInD K x y H Q ∨ ∃ d ds, Dp K H x d ∧ Dp K H y (.tuple ds) ∧ SeqAt.shaped d = true ∧ SeqAt.shaped (.tuple ds) = true ∧ Q (.bl (xor true (ds.any fun z => PyData.eqv z d))) H
theorem op_cmp (hu : X.A.units + 65 < cLine) (op : COp) : OpR X (compareOp op.op) (rcmp X.K op) := by
  cases op with
  | eq => exact op_eqD (by omega)
  | ne => exact op_neD (by omega)
  | lt => exact op_lt.or (op_lt_str.or (op_ltA (by omega)))
  | le => exact op_le
  | gt => exact op_gt
  | ge => exact op_ge
  | isin => exact (op_inD hu).or (op_inT hu false)
  | notin => exact (op_notInD hu).or (op_inT hu true)
end

section
variable {K : PySem.W.Frag} {C : Ct} {F : Hp} {s : S} {σ : L2.St} {H : Hp} {v w : V} {x y z : PyData} {Q : VK}
theorem big_line : big ≤ sizeLine := by rw [sizeLine_eq]; decide
/-- a new tuple of data -/
theorem Rel.tup (r : Rel K C F s σ H) {p : Addr} (h : H p = none) {vs : List V} {ds : List PyData} (d : DnAll K F vs ds) : ∃ F', Le F F' ∧ Rel K C F' s σ (upd H p (.tup vs)) ∧ Dn K F' (.ref p) (.tuple ds) := by
  have hF := r.freeF h
  exact ⟨_, Le.upd _ hF, r.alloc _ h, .tup (.of upd_same) (Dn.monoAll (Le.upd _ hF) _ _ d)⟩
theorem Rel.lst (r : Rel K C F s σ H) {p : Addr} (h : H p = none) {vs : List V} {ds : List PyData} (d : DnAll K F vs ds) : ∃ F', Le F F' ∧ Rel K C F' s σ (upd H p (.lst vs)) ∧ Dn K F' (.ref p) (.list ds) := by
  have hF := r.freeF h
  exact ⟨_, Le.upd _ hF, r.alloc _ h, .lst upd_same (Dn.monoAll (Le.upd _ hF) _ _ d)⟩
theorem leaf_add (e : binop .add x y = some z) (r : Rel K C F s σ H) (dx : Dn K F v x) (dy : Dn K F w y) (q : ∀ F' H', Le F F' → Rel K C F' s σ H' → ∀ u, Dn K F' u z → Q u H') : rbin K .add v w H Q := by
  cases x with
  | int i =>
    cases y with
    | int j =>
      cases dx; cases dy; cases e
      exact .inl ⟨i, j, rfl, rfl, q F H (Le.refl _) r _ (.int _)⟩
    | _ => cases e
  | str i =>
    cases y with
    | str j =>
      cases dx; cases dy
      simp only [binop] at e
      split at e
      · rename_i hl
        cases e
        exact .inr (.inl ⟨i, j, rfl, rfl, Nat.le_trans hl big_line, q F H (Le.refl _) r _ (.str _)⟩)
      · cases e
    | _ => cases e
  | tuple xs =>
    cases y with
    | tuple ys =>
      cases dx with
      | tup h1 d1 =>
        cases dy with
        | tup h2 d2 =>
          rename_i a vs b ws
          simp only [binop] at e
          split at e
          · rename_i hl
            cases e
            refine .inr (.inr (.inl ⟨a, b, vs, ws, rfl, rfl, h1.mono r.le, h2.mono r.le, ?_, fun hx => ?_, fun hx hy => ?_, fun hx hy p hp => ?_⟩))
            · rw [d1.length, d2.length]
              exact Nat.le_trans hl big_line
            · subst hx
              cases d1
              exact q F H (Le.refl _) r _ (.tup h2 d2)
            · subst hy
              cases d2
              rw [List.append_nil] at q
              exact q F H (Le.refl _) r _ (.tup h1 d1)
            · obtain ⟨F', l, r', d⟩ := r.tup hp (d1.append d2)
              exact q F' _ l r' _ d
          · cases e
    | _ => cases e
  | list xs =>
    cases y with
    | list ys =>
      cases dx with
      | lst h1 d1 =>
        cases dy with
        | lst h2 d2 =>
          rename_i a vs b ws
          simp only [binop] at e
          split at e
          · rename_i hl
            cases e
            refine .inr (.inr (.inr ⟨a, b, vs, ws, rfl, rfl, r.le _ _ h1, r.le _ _ h2, ?_, fun p hp => ?_⟩))
            · rw [d1.length, d2.length]
              exact Nat.le_trans hl big_line
            · obtain ⟨F', l, r', d⟩ := r.lst hp (d1.append d2)
              exact q F' _ l r' _ d
          · cases e
    | _ => cases e
  | _ => cases e
theorem leaf_mul (e : binop .mul x y = some z) (r : Rel K C F s σ H) (dx : Dn K F v x) (dy : Dn K F w y) (q : ∀ F' H', Le F F' → Rel K C F' s σ H' → ∀ u, Dn K F' u z → Q u H') : rbin K .mul v w H Q := by
  cases x with
  | int i =>
    cases y with
    | int j =>
      cases dx; cases dy
      simp only [binop] at e
      split at e
      · rename_i hl
        cases e
        exact .inl ⟨i, j, rfl, rfl, hl, q F H (Le.refl _) r _ (.int _)⟩
      · cases e
    | _ => cases e
  | tuple xs =>
    cases y with
    | int k =>
      cases dx with
      | tup h1 d1 =>
        cases dy
        rename_i a vs
        simp only [binop] at e
        split at e
        · rename_i hl
          cases e
          obtain ⟨n2, n3, n4⟩ := hl
          by_cases hx : vs = []
          · subst hx
            cases d1
            refine .inr (.inr ⟨a, k, rfl, rfl, h1.mono r.le, n2, n3, q F H (Le.refl _) r _ ?_⟩)
            have e0 : ∀ m : Nat, (List.replicate m ([] : List PyData)).flatten = [] := fun m => by
              induction m with
              | zero => rfl
              | succ m ih => rw [List.replicate_succ, List.flatten_cons, ih]; rfl
            rw [e0]
            exact .tup h1 .nil
          · refine .inr (.inl ⟨a, k, vs, rfl, rfl, h1.mono r.le, hx, n2, n3, by rw [d1.length]; exact n4, fun p hp => ?_⟩)
            obtain ⟨F', l, r', d⟩ := r.tup hp (d1.rep k.toNat)
            exact q F' _ l r' _ d
        · cases e
    | _ => cases e
  | _ => cases e
theorem leaf_bin (op : BOp) (e : binop op x y = some z) (r : Rel K C F s σ H) (dx : Dn K F v x) (dy : Dn K F w y) (q : ∀ F' H', Le F F' → Rel K C F' s σ H' → ∀ u, Dn K F' u z → Q u H') : rbin K op v w H Q := by
  cases op with
  | add => exact leaf_add e r dx dy q
  | mul => exact leaf_mul e r dx dy q
  | sub =>
    cases x with
    | int i =>
      cases y with
      | int j =>
        cases dx; cases dy; cases e
        exact ⟨i, j, rfl, rfl, q F H (Le.refl _) r _ (.int _)⟩
      | _ => cases e
    | _ => cases e
  | fdiv =>
    cases x with
    | int i =>
      cases y with
      | int j =>
        cases dx; cases dy
        simp only [binop] at e
        split at e
        · rename_i hl
          cases e
          exact ⟨i, j, rfl, rfl, hl, q F H (Le.refl _) r _ (.int _)⟩
        · cases e
      | _ => cases e
    | _ => cases e
  | mod =>
    cases x with
    | int i =>
      cases y with
      | int j =>
        cases dx; cases dy
        simp only [binop] at e
        split at e
        · cases e
        · rename_i hl
          cases e
          exact ⟨i, j, rfl, rfl, hl, q F H (Le.refl _) r _ (.int _)⟩
      | _ => cases e
    | _ => cases e
  | pow =>
    cases x with
    | int i =>
      cases y with
      | int j =>
        cases dx; cases dy
        simp only [binop] at e
        split at e
        · rename_i hl
          cases e
          exact ⟨i, j, rfl, rfl, hl, q F H (Le.refl _) r _ (.int _)⟩
        · cases e
      | _ => cases e
    | _ => cases e
theorem leaf_cmp (op : COp) {b : Bool} (e : cmpop op x y = some b) (le : Le F H) (dx : Dn K F v x) (dy : Dn K F w y) (q : Q (.bl b) H) : rcmp K op v w H Q := by
  have px := (dx.mono le).dp
  have py := (dy.mono le).dp
  cases op with
  | eq =>
    simp only [cmpop] at e
    split at e
    · rename_i hl
      cases e
      rw [Bool.and_eq_true] at hl
      exact ⟨x, y, px, py, hl.1, hl.2, q⟩
    · cases e
  | ne =>
    simp only [cmpop] at e
    split at e
    · rename_i hl
      cases e
      rw [Bool.and_eq_true] at hl
      exact ⟨x, y, px, py, hl.1, hl.2, q⟩
    · cases e
  | lt =>
    cases x with
    | int i =>
      cases y with
      | int j => cases dx; cases dy; cases e; exact .inl ⟨i, j, rfl, rfl, q⟩
      | _ => cases e
    | str i =>
      cases y with
      | str j => cases dx; cases dy; cases e; exact .inr (.inl ⟨i, j, rfl, rfl, q⟩)
      | _ => cases e
    | tuple xs =>
      cases y with
      | tuple ys =>
        have e' : (if (PySem.W.alike (.tuple xs) (.tuple ys) && decide ((PyData.tuple xs).depth ≤ 40)) = true then some (PySem.W.dataLt (.tuple xs) (.tuple ys)) else none) = some b := e
        split at e'
        · rename_i hl
          cases e'
          rw [Bool.and_eq_true] at hl
          exact .inr (.inr ⟨_, _, px, py, hl.1, of_decide_eq_true hl.2, (by intro z; cases z), q⟩)
        · cases e'
      | _ => cases e
    | _ => cases e
  | le =>
    cases x with
    | int i =>
      cases y with
      | int j => cases dx; cases dy; cases e; exact ⟨i, j, rfl, rfl, q⟩
      | _ => cases e
    | _ => cases e
  | gt =>
    cases x with
    | int i =>
      cases y with
      | int j => cases dx; cases dy; cases e; exact ⟨i, j, rfl, rfl, q⟩
      | _ => cases e
    | _ => cases e
  | ge =>
    cases x with
    | int i =>
      cases y with
      | int j => cases dx; cases dy; cases e; exact ⟨i, j, rfl, rfl, q⟩
      | _ => cases e
    | _ => cases e
  | isin =>
    cases y with
    | tuple ys =>
      have e' : (if SeqAt.shaped x && SeqAt.shaped (.tuple ys) then some (ys.any fun z => PyData.eqv z x) else none) = some b := e
      split at e'
      · rename_i hl
        cases e'
        rw [Bool.and_eq_true] at hl
        exact .inr ⟨x, ys, px, py, hl.1, hl.2, by simpa using q⟩
      · cases e'
    | list ys =>
      have e' : (if SeqAt.shaped x && SeqAt.shaped (.list ys) then some (ys.any fun z => PyData.eqv z x) else none) = some b := e
      split at e'
      · rename_i hl
        cases e'
        rw [Bool.and_eq_true] at hl
        exact .inl ⟨x, ys, px, py, hl.1, hl.2, q⟩
      · cases e'
    | _ => cases e
  | notin =>
    cases y with
    | tuple ys =>
      have e' : (if SeqAt.shaped x && SeqAt.shaped (.tuple ys) then some (!ys.any fun z => PyData.eqv z x) else none) = some b := e
      split at e'
      · rename_i hl
        cases e'
        rw [Bool.and_eq_true] at hl
        exact .inr ⟨x, ys, px, py, hl.1, hl.2, by simpa using q⟩
      · cases e'
    | list ys =>
      have e' : (if SeqAt.shaped x && SeqAt.shaped (.list ys) then some (!ys.any fun z => PyData.eqv z x) else none) = some b := e
      split at e'
      · rename_i hl
        cases e'
        rw [Bool.and_eq_true] at hl
        exact .inl ⟨x, ys, px, py, hl.1, hl.2, q⟩
      · cases e'
    | _ => cases e
end
end RD
set_option Elab.async false
set_option linter.all false
set_option maxRecDepth 100000
/-! RdCc: t[::-1] of a tuple. -/
namespace RD
open PySem L2 PySem.Spec PyProof.Rows HT
section
variable {prog : Program} {w : World} {A : Around} {E : Value → Shared → Prop} {s : Shared}
theorem slice_back {sl : Addr} {vl vu vs : Value} {n : Nat} {Q : Int × Int × Nat → Shared → Prop} (hs : s.heap.IsSliceOf sl vl vu vs) (pl : IsPart vl none) (pu : IsPart vu none) (ps : IsPart vs (some (-1)))
    (h : Q ((n : Int) - 1, -1, n) s) : wpAny (model prog w) A (Builtin.Slice.sliceApplied (.ref sl) (pure (n : Int))) Q E s := by
  obtain ⟨os, o1, o2, o3⟩ := id hs
  unfold Builtin.Slice.sliceApplied Builtin.Slice.sliceFields
  refine wpAny_bind (wpAny_bind (wpAny_field o1 o3 (x := vl) rfl (wpAny_bind (wpAny_field o1 o3 (x := vu) rfl (wpAny_bind (wpAny_field o1 o3 (x := vs) rfl (wpAny_pure ?_)))))))
  refine wpAny_bind (slicePart_ ps ?_)
  show wpAny _ _ (if ((-1 : Int) == 0) = true then _ else _) _ _ s
  rw [if_neg (by decide)]
  refine wpAny_bind (slicePart_ pl (wpAny_bind (slicePart_ pu (wpAny_bind (wpAny_pure ?_)))))
  show wpAny _ _ (pure ((n : Int) - 1, (-1 : Int), Builtin.Slice.slicePlaces ((n : Int) - 1) (-1) (-1))) _ _ s
  have e : Builtin.Slice.slicePlaces ((n : Int) - 1) (-1) (-1) = n := by
    unfold Builtin.Slice.slicePlaces
    rw [if_neg (by decide)]
    by_cases h0 : (n : Int) - 1 > -1
    · rw [if_pos h0]
      simp
    · rw [if_neg h0]
      omega
  rw [e]
  exact wpAny_pure h
theorem fm_congr {α β : Type} {f g : α → Option β} : ∀ (l : List α), (∀ m ∈ l, f m = g m) → l.filterMap f = l.filterMap g
  | [], _ => rfl
  | a :: l, h => by
    rw [List.filterMap_cons, List.filterMap_cons, h a (List.mem_cons_self ..), fm_congr l fun m hm => h m (List.mem_cons_of_mem _ hm)]
theorem pick_back (xs : Array Value) : ((List.range xs.size).filterMap fun (m : Nat) => xs[((xs.size : Int) - 1 + (m : Int) * (-1)).toNat]?).toArray = xs.toList.reverse.toArray := by
  congr 1
  have e : ∀ m ∈ List.range xs.size, xs[((xs.size : Int) - 1 + (m : Int) * (-1)).toNat]? = xs.toList.reverse[m]? := by
    intro m hm
    have h1 := List.mem_range.mp hm
    have h2 : ((xs.size : Int) - 1 + (m : Int) * (-1)).toNat = xs.size - 1 - m := by omega
    rw [h2, List.getElem?_reverse (by simpa using h1)]
    simp
  rw [fm_congr _ e]
  have h3 : xs.size = xs.toList.reverse.length := by simp
  rw [h3]
  generalize xs.toList.reverse = l
  clear e h3
  induction l with
  | nil => rfl
  | cons a l ih =>
    rw [List.length_cons, List.range_succ_eq_map, List.filterMap_cons]
    simp only [List.getElem?_cons_zero, List.filterMap_map]
    congr 1
theorem getItem_back {t sl : Addr} {items : Array Value} {vl vu vs : Value} {Q : Value → Shared → Prop} (ht : IsTup s.heap t items) (hs : s.heap.IsSliceOf sl vl vu vs) (pl : IsPart vl none) (pu : IsPart vu none) (ps : IsPart vs (some (-1)))
    (h : Q (.ref s.heap.objs.size) { s with heap := s.heap.push { cls := .type "tuple", data := .seq items.toList.reverse.toArray } })
    (hsz : items.size ≤ sizeLine) : wpAny (model prog w) A (getItem (.ref t) (.ref sl)) Q E s := by
  have htake : sizeOk (.seq items.toList.reverse.toArray) := by
    show items.toList.reverse.toArray.size ≤ sizeLine
    simpa using hsz
  obtain ⟨os, o1, o2, o3⟩ := id hs
  have hTs : s.TypeIs (.ref sl) "slice" := ⟨os, o1, o2⟩
  unfold getItem
  try with_reducible refine wpAny_holding ?_
  first | refine wpAny_bind (wpAny_pure ?_) | skip
  refine wpAny_bind (wpAny_sequenceKey ht.typeIs (by decide) ?_)
  refine wpAny_bind (wpAny_callSpecial?_slot (name := Str.ofString "__getitem__") ht.typeIs PyProof.Rows.slot_tuple_getitem ?_)
  refine wpAny_call_entry PyProof.Rows.slot_tuple_getitem ht.typeIs entry_tuple_getitem ?_ (args_tuple_getitem _ _)
  show wpAny _ _ (Builtin.Tuple.tupleItemsOf (.ref t) >>= _) _ _ s
  refine wpAny_bind (tupleItemsOf_ ht (wpAny_bind (wpAny_typeOf hTs ?_)))
  rw [if_pos (by decide)]
  refine wpAny_bind (slice_back hs pl pu ps ?_)
  have hno : ¬ ((((items.size : Int) - 1) == 0 && (-1 : Int) == 1 && items.size == items.size) = true) := by simp
  show wpAny _ _ (if (((items.size : Int) - 1) == 0 && (-1 : Int) == 1 && items.size == items.size) = true then _ else _) _ _ s
  rw [if_neg hno, pick_back]
  first
    | exact wpAny_bind (m := Builtin.Tuple.tupleExact _) (wpAny_newObj_type (wpAny_pure ⟨_, rfl, wpAny_pure h⟩) htake) | exact wpAny_bind (wpAny_bind (m := Builtin.Tuple.tupleExact _) (wpAny_newObj_type (wpAny_pure ⟨_, rfl, wpAny_pure h⟩) htake)) | exact wpAny_bind (wpAny_bind (m := Builtin.Tuple.tupleExact _) (wpAny_newObj_type (wpAny_pure (wpAny_pure ⟨_, rfl, wpAny_pure h⟩)) htake)) | exact wpAny_bind (m := Builtin.Tuple.tupleExact _) (wpAny_newObj_type (wpAny_bind (wpAny_pure (wpAny_pure ⟨_, rfl, wpAny_pure h⟩))) htake)
end
section
variable {X : Cx}
def tRevT (K : PySem.W.Frag) (te : TE) : TE := fun σ H Q => te σ H fun x H1 => (∃ a xs, x = .ref a ∧ SqL K H1 a xs ∧ ∀ p, H1 p = none → Q (.ref p) (upd H1 p (.lst xs.reverse))) ∨ ∃ a xs, x = .ref a ∧ SqT K H1 a xs ∧ ∀ p, H1 p = none → Q (.ref p) (upd H1 p (.tup xs.reverse))
/-- xs[::-1] of a list, of a tuple -/
theorem pe_revA {e : Expr} {te : TE} {k : Nat} {p1 p2 p3 pos : Pos} (he : PE X e te) : PE X (.Subscript e (.Slice none none (some (.UnaryOp .USub (.Constant (.int 1) k p1) p2)) p3) pos) (tRevT X.K te) := by
  refine ⟨fun pins s σ H Q I h => Subscript_ (thn (he.run pins s σ H _ I h) fun v s1 ⟨x, H1, I1, r1, q1⟩ => ?_)⟩
  have hst : PO X (some (.UnaryOp .USub (.Constant (.int 1) k p1) p2)) (tPart (tUn (rU fun i => .int (-i)) (tC (.int 1)))) := po_some (pe_un un_neg pe_int)
  obtain ⟨a, rfl, q9⟩ : ∃ a, x = V.ref a ∧ ((∃ xs, SqL X.K H1 a xs ∧ ∀ p, H1 p = none → Q (.ref p) (upd H1 p (.lst xs.reverse))) ∨ ∃ xs, SqT X.K H1 a xs ∧ ∀ p, H1 p = none → Q (.ref p) (upd H1 p (.tup xs.reverse))) := by
    rcases q1 with ⟨a, xs, e1, q⟩ | ⟨a, xs, e1, q⟩
    · exact ⟨a, e1, .inl ⟨xs, q⟩⟩
    · exact ⟨a, e1, .inr ⟨xs, q⟩⟩
  cases r1
  refine wpAny_Slice (thn (po_none.run pins s1 σ H1 (fun o H2 => o = none ∧ H2 = H1) I1 ⟨rfl, rfl⟩) fun vl s2 ⟨l, H2, I2, pl, el, e2⟩ => ?_)
  cases el
  cases e2
  refine thn (po_none.run pins s2 σ H1 (fun o H3 => o = none ∧ H3 = H1) I2 ⟨rfl, rfl⟩) fun vu s3 ⟨u, H3, I3, pu, eu, e3⟩ => ?_
  cases eu
  cases e3
  refine thn (hst.run pins s3 σ H1 (fun o H4 => o = some (-1) ∧ H4 = H1) I3 ⟨1, rfl, -1, rfl, rfl, rfl⟩) fun vs s4 ⟨o, H4, I4, ps, eo, e4⟩ => ?_
  cases eo
  cases e4
  have I5 : Inv X pins σ H1 { s4 with heap := s4.heap.push { cls := .type "slice", data := .fields #[vl, vu, vs] } } := I4.kept (t' := s4.toks) fun b ob q => Heap.get?_push_of_some _ q
  show wpAny (model X.prog X.w) X.A (subscriptTail e (.Slice none none (some (.UnaryOp .USub (.Constant (.int 1) k p1) p2)) p3) (.ref a) (.ref s4.heap.objs.size)) (EP X pins σ Q) X.xe _
  rcases q9 with ⟨xs, hx, q⟩ | ⟨xs, hx, q⟩
  · obtain ⟨its, r, ht, hz⟩ := I5.list hx
    have hlen := r.length
    refine tail_any (ops := [.ref a, .ref s4.heap.objs.size]) ht.isList.typeIs (PySem.slot_list_getitem.lookup) (wpAny_getItem_list_slice ht.isList (Heap.IsSliceOf.new _ vl vu vs) pl pu ps (by decide) ?_ (by rw [List.size_toArray]; omega)) (by with_unfolding_all rfl)
    rw [PySem.W.krv_pick]
    exact ⟨.ref _, _, I5.laid (t' := s4.toks) (o := .lst xs.reverse) (fun b ob q => Heap.get?_push_of_some _ q) (Nat.le_refl _) ⟨by rw [List.length_reverse]; exact hz, _, 0, r.reverse, Heap.get?_push_size _ rfl⟩, rfl, q _ (I5.hok.fresh (Nat.le_refl _))⟩
  · obtain ⟨its, r, ht, hz⟩ := I5.tuple hx
    have hlen := r.length
    refine tail_any (ops := [.ref a, .ref s4.heap.objs.size]) ht.typeIs (PyProof.Rows.slot_tuple_getitem.lookup) (getItem_back ht (Heap.IsSliceOf.new _ vl vu vs) pl pu ps ?_ (by rw [List.size_toArray]; omega)) (by with_unfolding_all rfl)
    exact ⟨.ref _, _, I5.laid (t' := s4.toks) (o := .tup xs.reverse) (fun b ob q => Heap.get?_push_of_some _ q) (Nat.le_refl _) ⟨by rw [List.length_reverse]; exact hz, _, r.reverse, IsTup.new _ _⟩, rfl, q _ (I5.hok.fresh (Nat.le_refl _))⟩
end
end RD
set_option Elab.async false
set_option linter.all false
set_option maxRecDepth 100000
/-! RdD: expressions do what ev says, node by node. -/
namespace RD
open PySem L2

section
variable {K : PySem.W.Frag} {mg : Str → Option Value} {W : WX} {C : Ct} {F : Hp} {s : S} {σ : L2.St} {H : Hp}
theorem set_same {α : Type} : ∀ {l : List α} {i : Nat} {a : α}, l[i]? = some a → l.set i a = l
  | [], _, _, h => by simp at h
  | x :: l, 0, a, h => by simp at h; subst h; rfl
  | x :: l, i + 1, a, h => by
    rw [List.set_cons_succ, set_same (l := l) (i := i) (a := a) (by simpa using h)]
/-- a slot is forgotten -/
theorem Rel.unset (r : Rel K C F s σ H) (i : Nat) : Rel K C F ⟨s.rho.set i .un, s.bag⟩ σ H := by
  have old : ∀ {j : Nat} {w : Slot}, w ≠ .un → (s.rho.set i Slot.un)[j]? = some w → s.rho[j]? = some w := fun {j w} n e => by
    by_cases h : i = j
    · subst h
      have hi : i < s.rho.length := by
        have := (List.getElem?_eq_some_iff.mp e).1
        simpa using this
      rw [List.getElem?_set_self hi] at e
      cases e
      exact absurd rfl n
    · rw [List.getElem?_set_ne h] at e
      exact e
  exact ⟨r.le, r.ge, r.new, r.keep, r.hbag, r.bag, by simpa using r.len, fun j u e => r.val j u (old (by intro z; cases z) e), fun j ds e => r.own j ds (old (by intro z; cases z) e),
    fun j k ds es p e1 e2 => r.apart j k ds es p (old (by intro z; cases z) e1) (old (by intro z; cases z) e2)⟩
/-- a slot's own list is frozen -/
theorem Rel.frz (r : Rel K C F s σ H) {i : Nat} {ds : List PyData} (e : s.rho[i]? = some (.ol ds)) : ∃ p vs, σ[i]? = some (some (.ref p)) ∧ Le F (upd F p (.lst vs)) ∧ Rel K C (upd F p (.lst vs)) ⟨s.rho.set i (.val (.d (.list ds))), s.bag⟩ σ H ∧ Dn K (upd F p (.lst vs)) (.ref p) (.list ds) := by
  obtain ⟨p, vs, h1, h2, h3, h4, h5, h6⟩ := r.own i ds e
  have hi : i < s.rho.length := (List.getElem?_eq_some_iff.mp e).1
  have r1 := r.unset i
  have r2 := r1.freeze h2 h4 h3 h5 fun j es e' z => by
    have e'' : (s.rho.set i Slot.un)[j]? = some (.ol es) := e'
    have hij : i ≠ j := by
      intro h
      subst h
      rw [List.getElem?_set_self hi] at e''
      cases e''
    rw [List.getElem?_set_ne hij] at e''
    exact hij (r.apart i j ds es p e e'' h1 z)
  have d : Dn K (upd F p (.lst vs)) (.ref p) (.list ds) := .lst upd_same (Dn.monoAll (Le.upd _ h3) _ _ h6)
  have r3 := r2.setU i (u := .d (.list ds)) (v := .ref p) d
  have e1 : (s.rho.set i Slot.un).set i (.val (.d (.list ds))) = s.rho.set i (.val (.d (.list ds))) := by rw [List.set_set]
  have r3' : Rel K C (upd F p (.lst vs)) ⟨(s.rho.set i Slot.un).set i (.val (.d (.list ds))), s.bag⟩ (σ.set i (some (.ref p))) H := r3
  rw [e1, set_same h1] at r3'
  exact ⟨p, vs, h1, Le.upd _ h3, r3', d⟩
theorem Post.lift {z : Option PyData} {Q : U → Hp → S → Hp → Prop} (h : Post K mg W C F σ (lift z s) Q) : ∃ x, z = some x ∧ Post K mg W C F σ (.ok (.d x) s) Q := by
  cases z with
  | some x => exact ⟨x, rfl, h⟩
  | none => exact h.elim
theorem Post.liftB {z : Option Bool} {Q : U → Hp → S → Hp → Prop} (h : Post K mg W C F σ (liftB z s) Q) : ∃ x, z = some x ∧ Post K mg W C F σ (.ok (.d (.bool x)) s) Q := by
  cases z with
  | some x => exact ⟨x, rfl, h⟩
  | none => exact h.elim
/-- the value's own end -/
theorem Post.fin {u : U} {v : V} {Q : VK} (h : Post K mg W C F σ (.ok u s) fun u F' _ H' => ∀ v, DenU K C.b F' u v → Q v H') (r : Rel K C F s σ H) (d : DenU K C.b F u v) : Q v H := h F H (Le.refl F) r v d
end

section
variable {X : Cx} {W : WX}
theorem sx_var {i : Nat} {x : Str} {pos : Pos} (hN : X.N[i]? = some x) (hv : Vis X.env.scope x) (hd : (x == ("__debug__" : Str)) = false) (hcd : (x == ("__classdict__" : Str)) = false) : PE X (.Name x pos) (tX X.K X.mg W (.var i)) := by
  refine (pe_var hN hv hd hcd).weak fun σ H Q ⟨C, F, s, r, h⟩ => ?_
  have h' : Post X.K X.mg W C F σ (s.get i) _ := h
  unfold S.get at h'
  cases e : s.rho[i]? with
  | none => rw [e] at h'; exact h'.elim
  | some w =>
    rw [e] at h'
    cases w with
    | un => exact h'.elim
    | val u =>
      obtain ⟨v, h1, h2⟩ := r.val i u e
      exact ⟨v, h1, h'.fin r h2⟩
    | ol ds =>
      obtain ⟨p, vs, h1, l, r', d⟩ := r.frz e
      exact ⟨.ref p, h1, h' _ _ l r' _ d⟩
theorem sx_int {i : Int} {j pos} : PE X (.Constant (.int i) j pos) (tX X.K X.mg W (.cst (.int i))) := pe_int.weak fun σ H Q ⟨C, F, s, r, h⟩ => h.fin r (.int i)
theorem sx_bl {b : Bool} {j pos} : PE X (.Constant (.bool b) j pos) (tX X.K X.mg W (.cst (.bool b))) := pe_bl.weak fun σ H Q ⟨C, F, s, r, h⟩ => h.fin r (.bl b)
theorem sx_non {j pos} : PE X (.Constant .none j pos) (tX X.K X.mg W (.cst .none)) := pe_non.weak fun σ H Q ⟨C, F, s, r, h⟩ => h.fin r .non
theorem sx_str {x : Str} {j pos} : PE X (.Constant (.str x) j pos) (tX X.K X.mg W (.cst (.str x))) := pe_str.weak fun σ H Q ⟨C, F, s, r, h⟩ => h.fin r (.str x)
/-- a module's constant -/
def GlobOk (K : PySem.W.Frag) (mg : Str → Option Value) (x : Str) (d : PyData) : Prop := ∃ u v, mg x = some u ∧ RelV v u ∧ ∀ F, Dn K F v d
theorem sx_glob {x : Str} {d : PyData} {pos : Pos} (hg : Gl X x) (h : GlobOk X.K X.mg x d) (hd : (x == ("__debug__" : Str)) = false) : PE X (.Name x pos) (tX X.K X.mg W (.glob x d)) := by
  obtain ⟨u, v, hm, hr, hD⟩ := h
  exact (pe_glob hg hm hr hd).weak fun σ H Q ⟨C, F, s, r, h⟩ => h.fin r (hD F)
variable {ea eb ec : Expr} {a b c : T} {pos : Pos}
theorem sx_bin (op : BOp) (ha : PE X ea (tX X.K X.mg W a)) (hb : PE X eb (tX X.K X.mg W b)) : PE X (.BinOp ea op.op eb pos) (tX X.K X.mg W (.bin op a b)) := by
  refine (pe_op (op_bin op) ha hb).weak fun σ H Q ⟨C, F, s, r, h⟩ => ⟨C, F, s, r, ?_⟩
  refine (Post.dat h).imp fun u F1 s1 H1 l1 r1 ⟨x, e, h1⟩ v d1 => ⟨C, F1, s1, r1, ?_⟩
  subst e
  refine (Post.dat h1).imp fun u F2 s2 H2 l2 r2 ⟨y, e, h2⟩ w d2 => ?_
  subst e
  obtain ⟨z, ez, h3⟩ := h2.lift
  exact leaf_bin op ez r2 (Dn.mono l2 _ _ d1) d2 fun F' H' l r u d => h3 F' H' l r u d
theorem sx_neg (ha : PE X ea (tX X.K X.mg W a)) : PE X (.UnaryOp .USub ea pos) (tX X.K X.mg W (.neg a)) := by
  refine (pe_un un_neg ha).weak fun σ H Q ⟨C, F, s, r, h⟩ => ⟨C, F, s, r, ?_⟩
  refine (Post.dat h).imp fun u F1 s1 H1 l1 r1 ⟨x, e, h1⟩ v d1 => ?_
  subst e
  cases x with
  | int i =>
    cases d1
    exact ⟨i, rfl, h1.fin r1 (.int _)⟩
  | _ => exact h1.elim
theorem sx_cmp (hu : X.A.units + 65 < cLine) (op : COp) (ha : PE X ea (tX X.K X.mg W a)) (hb : PE X eb (tX X.K X.mg W b)) (hm : behindInMarks op.op eb = false) : PE X (.Compare ea [op.op] [eb] pos) (tX X.K X.mg W (.cmp op a b)) := by
  refine (pe_cmpR (op_cmp hu op) ha hb hm).weak fun σ H Q ⟨C, F, s, r, h⟩ => ⟨C, F, s, r, ?_⟩
  refine (Post.dat h).imp fun u F1 s1 H1 l1 r1 ⟨x, e, h1⟩ v d1 => ⟨C, F1, s1, r1, ?_⟩
  subst e
  refine (Post.dat h1).imp fun u F2 s2 H2 l2 r2 ⟨y, e, h2⟩ w d2 => ?_
  subst e
  obtain ⟨z, ez, h3⟩ := h2.liftB
  exact leaf_cmp op ez r2.le (Dn.mono l2 _ _ d1) d2 (h3.fin r2 (.bl _))
theorem st_cmp (hu : X.A.units + 65 < cLine) (op : COp) (ha : PE X ea (tX X.K X.mg W a)) (hb : PE X eb (tX X.K X.mg W b)) (hm : behindInMarks op.op eb = false) : PT X (.Compare ea [op.op] [eb] pos) (tXT X.K X.mg W (.cmp op a b)) := by
  refine (pt_cmpR (op_cmp hu op) ha hb hm).weak fun σ H Q ⟨C, F, s, r, h⟩ => ⟨C, F, s, r, ?_⟩
  refine (Post.dat (Post.tst h)).imp fun u F1 s1 H1 l1 r1 ⟨x, e, h1⟩ v d1 => ⟨C, F1, s1, r1, ?_⟩
  subst e
  refine (Post.dat h1).imp fun u F2 s2 H2 l2 r2 ⟨y, e, h2⟩ w d2 => ?_
  subst e
  obtain ⟨z, ez, h3⟩ := h2.liftB
  obtain ⟨z', ez', h4⟩ := h3.here r2
  cases ez'
  exact leaf_cmp op ez r2.le (Dn.mono l2 _ _ d1) d2 ⟨_, rfl, h4.here r2⟩
end
end RD
set_option Elab.async false
set_option linter.all false
set_option maxRecDepth 100000
/-! RdE: expressions do what ev says, node by node, further. -/
namespace RD
open PySem L2

section
variable {X : Cx} {W : WX} {ea eb ec : Expr} {a b c : T} {pos : Pos}
theorem eqNone {K : PySem.W.Frag} {F : Hp} {v : V} {x : PyData} (d : Dn K F v x) : decide (v = .non) = isNone x := by
  cases d <;> rfl
theorem sx_isN {j p2} (ha : PE X ea (tX X.K X.mg W a)) : PE X (.Compare ea [.Is] [.Constant .none j p2] pos) (tX X.K X.mg W (.isN a)) := by
  refine (pe_cmpR op_isN ha pe_non (nomark _)).weak fun σ H Q ⟨C, F, s, r, h⟩ => ⟨C, F, s, r, ?_⟩
  refine (Post.dat h).imp fun u F1 s1 H1 l1 r1 ⟨x, e, h1⟩ v d1 => ?_
  subst e
  refine ⟨rfl, ?_⟩
  rw [eqNone d1]
  exact h1.fin r1 (.bl _)
theorem sx_notN {j p2} (ha : PE X ea (tX X.K X.mg W a)) : PE X (.Compare ea [.IsNot] [.Constant .none j p2] pos) (tX X.K X.mg W (.notN a)) := by
  refine (pe_cmpR op_notN ha pe_non (nomark _)).weak fun σ H Q ⟨C, F, s, r, h⟩ => ⟨C, F, s, r, ?_⟩
  refine (Post.dat h).imp fun u F1 s1 H1 l1 r1 ⟨x, e, h1⟩ v d1 => ?_
  subst e
  refine ⟨rfl, ?_⟩
  rw [eqNone d1]
  exact h1.fin r1 (.bl _)
theorem st_isN {j p2} (ha : PE X ea (tX X.K X.mg W a)) : PT X (.Compare ea [.Is] [.Constant .none j p2] pos) (tXT X.K X.mg W (.isN a)) := by
  refine (pt_cmpR op_isN ha pe_non (nomark _)).weak fun σ H Q ⟨C, F, s, r, h⟩ => ⟨C, F, s, r, ?_⟩
  refine (Post.dat (Post.tst h)).imp fun u F1 s1 H1 l1 r1 ⟨x, e, h1⟩ v d1 => ?_
  subst e
  refine ⟨rfl, _, rfl, ?_⟩
  obtain ⟨z', ez', h4⟩ := h1.here r1
  cases ez'
  rw [eqNone d1]
  exact h4.here r1
theorem st_notN {j p2} (ha : PE X ea (tX X.K X.mg W a)) : PT X (.Compare ea [.IsNot] [.Constant .none j p2] pos) (tXT X.K X.mg W (.notN a)) := by
  refine (pt_cmpR op_notN ha pe_non (nomark _)).weak fun σ H Q ⟨C, F, s, r, h⟩ => ⟨C, F, s, r, ?_⟩
  refine (Post.dat (Post.tst h)).imp fun u F1 s1 H1 l1 r1 ⟨x, e, h1⟩ v d1 => ?_
  subst e
  refine ⟨rfl, _, rfl, ?_⟩
  obtain ⟨z', ez', h4⟩ := h1.here r1
  cases ez'
  rw [eqNone d1]
  exact h4.here r1
theorem sx_chain (hu : X.A.units + 65 < cLine) (o p : COp) (ha : PE X ea (tX X.K X.mg W a)) (hb : PE X eb (tX X.K X.mg W b)) (hc : PE X ec (tX X.K X.mg W c)) (hm : lastMarks [o.op, p.op] [eb, ec] = false) :
    PE X (.Compare ea [o.op, p.op] [eb, ec] pos) (tX X.K X.mg W (.chain o p a b c)) := by
  refine (pe_chain (op_cmp hu o) (op_cmp hu p) ha hb hc hm).weak fun σ H Q ⟨C, F, s, r, h⟩ => ⟨C, F, s, r, ?_⟩
  refine (Post.dat h).imp fun u F1 s1 H1 l1 r1 ⟨x, e, h1⟩ v d1 => ⟨C, F1, s1, r1, ?_⟩
  subst e
  refine (Post.dat h1).imp fun u F2 s2 H2 l2 r2 ⟨y, e, h2⟩ w d2 => ?_
  subst e
  cases ez : cmpop o x y with
  | none => rw [ez] at h2; exact h2.elim
  | some k =>
    rw [ez] at h2
    refine leaf_cmp o ez r2.le (Dn.mono l2 _ _ d1) d2 ⟨k, rfl, ?_⟩
    cases k with
    | false => exact h2.fin r2 (.bl _)
    | true =>
      refine ⟨C, F2, s2, r2, ?_⟩
      refine (Post.dat h2).imp fun u F3 s3 H3 l3 r3 ⟨z, e, h3⟩ t d3 => ?_
      subst e
      obtain ⟨z', ez', h4⟩ := h3.liftB
      exact leaf_cmp p ez' r3.le (Dn.mono l3 _ _ d2) d3 (h4.fin r3 (.bl _))
theorem st_chain (hu : X.A.units + 65 < cLine) (o p : COp) (ha : PE X ea (tX X.K X.mg W a)) (hb : PE X eb (tX X.K X.mg W b)) (hc : PE X ec (tX X.K X.mg W c)) (hm : lastMarks [o.op, p.op] [eb, ec] = false) :
    PT X (.Compare ea [o.op, p.op] [eb, ec] pos) (tXT X.K X.mg W (.chain o p a b c)) := by
  refine (pt_chain (op_cmp hu o) (op_cmp hu p) ha hb hc hm).weak fun σ H Q ⟨C, F, s, r, h⟩ => ⟨C, F, s, r, ?_⟩
  refine (Post.dat (Post.tst h)).imp fun u F1 s1 H1 l1 r1 ⟨x, e, h1⟩ v d1 => ⟨C, F1, s1, r1, ?_⟩
  subst e
  refine (Post.dat h1).imp fun u F2 s2 H2 l2 r2 ⟨y, e, h2⟩ w d2 => ?_
  subst e
  cases ez : cmpop o x y with
  | none => rw [ez] at h2; exact h2.elim
  | some k =>
    rw [ez] at h2
    refine leaf_cmp o ez r2.le (Dn.mono l2 _ _ d1) d2 ⟨k, rfl, ?_⟩
    cases k with
    | false =>
      obtain ⟨z', ez', h4⟩ := h2.here r2
      cases ez'
      exact ⟨_, rfl, h4.here r2⟩
    | true =>
      refine ⟨C, F2, s2, r2, ?_⟩
      refine (Post.dat h2).imp fun u F3 s3 H3 l3 r3 ⟨z, e, h3⟩ t d3 => ?_
      subst e
      obtain ⟨z', ez', h4⟩ := h3.liftB
      obtain ⟨z2, ez2, h5⟩ := h4.here r3
      cases ez2
      exact leaf_cmp p ez' r3.le (Dn.mono l3 _ _ d2) d3 ⟨_, rfl, h5.here r3⟩
/-! and, or, not, if else -/
theorem sx_not (ha : PE X ea (tX X.K X.mg W a)) : PE X (.UnaryOp .Not ea pos) (tX X.K X.mg W (.not a)) := by
  refine (pe_not ha).weak fun σ H Q ⟨C, F, s, r, h⟩ => ⟨C, F, s, r, ?_⟩
  refine (Post.tst h).imp fun u F1 s1 H1 l1 r1 ⟨k, e, h1⟩ v d1 => ?_
  subst e
  cases d1
  exact ⟨k, rfl, h1.fin r1 (.bl _)⟩
theorem st_not (ha : PT X ea (tXT X.K X.mg W a)) : PT X (.UnaryOp .Not ea pos) (tXT X.K X.mg W (.not a)) := by
  refine (pt_not ha).weak fun σ H Q ⟨C, F, s, r, h⟩ => ⟨C, F, s, r, ?_⟩
  have h' : Post X.K X.mg W C F σ (((ev a s).tst fun b s => .ok (.d (.bool (!b))) s).tst .ok) (fun b _ _ H' => Q b H') := h
  have e : (((ev a s).tst fun b s => R.ok (.d (.bool (!b))) s).tst R.ok) = (ev a s).tst fun b s => R.ok (!b) s := by
    cases ev a s with
    | ok u s =>
      cases u with
      | d x => cases x <;> rfl
      | _ => rfl
    | _ => rfl
  rw [e] at h'
  have e2 : ((ev a s).tst fun b s => R.ok (!b) s) = ((ev a s).tst R.ok).bind fun b s => R.ok (!b) s := by
    cases ev a s with
    | ok u s =>
      cases u with
      | d x => cases x <;> rfl
      | _ => rfl
    | _ => rfl
  rw [e2] at h'
  exact (Post.bind h').imp fun k F1 s1 H1 l1 r1 q => q.here r1
variable {rest : List Expr}
theorem sx_one {op} (ha : PE X ea (tX X.K X.mg W a)) : PE X (.BoolOp op [ea] pos) (tX X.K X.mg W (.one a)) := pe_one ha
theorem sx_and (ha : PE X ea (tX X.K X.mg W a)) (hb : PE X (.BoolOp .And (eb :: rest) pos) (tX X.K X.mg W b)) : PE X (.BoolOp .And (ea :: eb :: rest) pos) (tX X.K X.mg W (.and a b)) := by
  refine (pe_and ha hb).weak fun σ H Q ⟨C, F, s, r, h⟩ => ⟨C, F, s, r, ?_⟩
  refine (Post.tst h).imp fun u F1 s1 H1 l1 r1 ⟨k, e, h1⟩ v d1 => ?_
  subst e
  cases d1
  refine ⟨k, rfl, ?_⟩
  cases k with
  | true => exact ⟨C, F1, s1, r1, h1⟩
  | false => exact h1.fin r1 (.bl _)
theorem sx_or (ha : PE X ea (tX X.K X.mg W a)) (hb : PE X (.BoolOp .Or (eb :: rest) pos) (tX X.K X.mg W b)) : PE X (.BoolOp .Or (ea :: eb :: rest) pos) (tX X.K X.mg W (.or a b)) := by
  refine (pe_or ha hb).weak fun σ H Q ⟨C, F, s, r, h⟩ => ⟨C, F, s, r, ?_⟩
  refine (Post.tst h).imp fun u F1 s1 H1 l1 r1 ⟨k, e, h1⟩ v d1 => ?_
  subst e
  cases d1
  refine ⟨k, rfl, ?_⟩
  cases k with
  | true => exact h1.fin r1 (.bl _)
  | false => exact ⟨C, F1, s1, r1, h1⟩
theorem sw_and1 (ha : PT X ea (tXT X.K X.mg W a)) : PW X (.BoolOp .And [ea] pos) (tXT X.K X.mg W (.one a)) := pw_and1 ha
theorem sw_or1 (ha : PT X ea (tXT X.K X.mg W a)) : PW X (.BoolOp .Or [ea] pos) (tXT X.K X.mg W (.one a)) := pw_or1 ha
theorem tst_tst (m : R U) (f : Bool → S → R U) : (m.tst f).tst R.ok = (m.tst R.ok).bind fun b s => (f b s).tst R.ok := by
  cases m with
  | ok u s =>
    cases u with
    | d x => cases x <;> rfl
    | _ => rfl
  | _ => rfl
theorem sw_and (ha : PT X ea (tXT X.K X.mg W a)) (hb : PW X (.BoolOp .And (eb :: rest) pos) (tXT X.K X.mg W b)) : PW X (.BoolOp .And (ea :: eb :: rest) pos) (tXT X.K X.mg W (.and a b)) := by
  refine (pw_and ha hb).weak fun σ H Q ⟨C, F, s, r, h⟩ => ⟨C, F, s, r, ?_⟩
  have h' : Post X.K X.mg W C F σ (((ev a s).tst fun k s => if k = true then ev b s else .ok (.d (.bool false)) s).tst .ok) (fun b _ _ H' => Q b H') := h
  rw [tst_tst] at h'
  refine (Post.bind h').imp fun k F1 s1 H1 l1 r1 q => ?_
  cases k with
  | true => exact ⟨C, F1, s1, r1, q⟩
  | false => exact q.here r1
theorem sw_or (ha : PT X ea (tXT X.K X.mg W a)) (hb : PW X (.BoolOp .Or (eb :: rest) pos) (tXT X.K X.mg W b)) : PW X (.BoolOp .Or (ea :: eb :: rest) pos) (tXT X.K X.mg W (.or a b)) := by
  refine (pw_or ha hb).weak fun σ H Q ⟨C, F, s, r, h⟩ => ⟨C, F, s, r, ?_⟩
  have h' : Post X.K X.mg W C F σ (((ev a s).tst fun k s => if k = true then .ok (.d (.bool true)) s else ev b s).tst .ok) (fun b _ _ H' => Q b H') := h
  rw [tst_tst] at h'
  refine (Post.bind h').imp fun k F1 s1 H1 l1 r1 q => ?_
  cases k with
  | true => exact q.here r1
  | false => exact ⟨C, F1, s1, r1, q⟩
theorem sx_ite (hc : PT X ec (tXT X.K X.mg W c)) (ha : PE X ea (tX X.K X.mg W a)) (hb : PE X eb (tX X.K X.mg W b)) : PE X (.IfExp ec ea eb pos) (tX X.K X.mg W (.ite c a b)) := by
  refine (pe_ifExp hc ha hb).weak fun σ H Q ⟨C, F, s, r, h⟩ => ⟨C, F, s, r, ?_⟩
  have h' : Post X.K X.mg W C F σ ((ev c s).tst fun k s => if k = true then ev a s else ev b s) (fun u F' _ H' => ∀ v, DenU X.K C.b F' u v → Q v H') := h
  have e : ((ev c s).tst fun k s => if k = true then ev a s else ev b s) = ((ev c s).tst R.ok).bind fun k s => if k = true then ev a s else ev b s := by
    cases ev c s with
    | ok u s =>
      cases u with
      | d x => cases x <;> rfl
      | _ => rfl
    | _ => rfl
  rw [e] at h'
  refine (Post.bind h').imp fun k F1 s1 H1 l1 r1 q => ?_
  cases k with
  | true => exact ⟨C, F1, s1, r1, q⟩
  | false => exact ⟨C, F1, s1, r1, q⟩
/-- a value that is a bool, as a test -/
theorem st_val (ha : PE X ea (tX X.K X.mg W a)) (he : ∀ whole, isTrue ea X.env whole = (do let v ← whole; standAt ea.pos; holding [v] (truthy v))) : PT X ea (tXT X.K X.mg W a) := by
  refine (pt_val ha he).weak fun σ H Q ⟨C, F, s, r, h⟩ => ⟨C, F, s, r, ?_⟩
  refine (Post.tst h).imp fun u F1 s1 H1 l1 r1 ⟨k, e, h1⟩ v d1 => ?_
  subst e
  cases d1
  exact ⟨k, rfl, h1.here r1⟩
/-! lists of arguments, displays -/
variable {es : List Expr} {l : T}
theorem sa_nil : PA X [] (tXA X.K X.mg W .anil) := pa_nil.weak fun σ H Q ⟨C, F, s, r, h⟩ => h F H (Le.refl F) r [] .nil
theorem sa_cons (ha : PE X ea (tX X.K X.mg W a)) (hl : PA X es (tXA X.K X.mg W l)) (hs : starEach (ea :: es) X.env = (false, eval ea X.env) :: starEach es X.env) : PA X (ea :: es) (tXA X.K X.mg W (.acons a l)) := by
  refine (pa_cons ha hl hs).weak fun σ H Q ⟨C, F, s, r, h⟩ => ⟨C, F, s, r, ?_⟩
  refine (Post.bind h).imp fun u F1 s1 H1 l1 r1 h1 v d1 => ⟨C, F1, s1, r1, ?_⟩
  refine (Post.bind h1).imp fun us F2 s2 H2 l2 r2 h2 vs d2 => ?_
  exact h2.here r2 _ (.cons (d1.mono l2) d2)
theorem datas_dn {K : PySem.W.Frag} {b : Addr} {F : Hp} : ∀ {us : List U} {vs : List V} {xs : List PyData}, Paired (DenU K b F) us vs → datas us = some xs → DnAll K F vs xs
  | _, _, _, .nil, e => by cases e; exact .nil
  | u :: us, _, _, .cons h t, e => by
    cases u with
    | d x =>
      rw [datas_cons] at e
      cases q : datas us with
      | none => rw [q] at e; cases e
      | some ys =>
        rw [q] at e
        cases e
        exact .cons h (datas_dn t q)
    | _ => cases e
theorem sx_tup {k : Nat} (hl : PA X es (tXA X.K X.mg W l)) : PE X (.Tuple es k pos) (tX X.K X.mg W (.tup l)) := by
  refine (pe_tup hl).weak fun σ H Q ⟨C, F, s, r, h⟩ => ⟨C, F, s, r, ?_⟩
  refine (Post.bind h).imp fun us F1 s1 H1 l1 r1 h1 vs d1 => ?_
  cases e : datas us with
  | none => rw [e] at h1; exact h1.elim
  | some xs =>
    rw [e] at h1
    have dn := datas_dn d1 e
    dsimp only at h1
    split at h1
    · rename_i hb
      refine ⟨by rw [dn.length]; exact Nat.le_trans hb big_line, fun p hp => ?_⟩
      obtain ⟨F', lF, r', d⟩ := r1.tup hp dn
      exact h1 F' _ lF r' _ d
    · exact h1.elim
theorem sx_lst (hl : PA X es (tXA X.K X.mg W l)) : PE X (.List es pos) (tX X.K X.mg W (.lst l)) := by
  refine (pe_lst hl).weak fun σ H Q ⟨C, F, s, r, h⟩ => ⟨C, F, s, r, ?_⟩
  refine (Post.bind h).imp fun us F1 s1 H1 l1 r1 h1 vs d1 => ?_
  cases e : datas us with
  | none => rw [e] at h1; exact h1.elim
  | some xs =>
    rw [e] at h1
    have dn := datas_dn d1 e
    dsimp only at h1
    split at h1
    · rename_i hb
      refine ⟨by rw [dn.length]; exact Nat.le_trans hb big_line, fun p hp => ?_⟩
      obtain ⟨F', lF, r', d⟩ := r1.lst hp dn
      exact h1 F' _ lF r' _ d
    · exact h1.elim
/-! items and slices -/
theorem atI_dn {K : PySem.W.Frag} {F : Hp} {vs : List V} {xs : List PyData} {i : Int} {z : PyData} (d : DnAll K F vs xs) (e : atI xs i = some z) : ∃ v, atI vs i = some v ∧ Dn K F v z := by
  unfold atI at e ⊢
  rw [d.length]
  cases q : ixN xs.length i with
  | none => rw [q] at e; cases e
  | some j =>
    rw [q] at e
    exact d.get e
theorem sx_bget {i j : Nat} {x : Str} {p : Pos} {n} {p2 : Pos} (hj : j ≤ 1) (hN : X.N[i]? = some x) (hv : Vis X.env.scope x) (hd : (x == ("__debug__" : Str)) = false) (hcd : (x == ("__classdict__" : Str)) = false) : PE X (.Subscript (.Name x p) (.Constant (.int (j : Int)) n p2) pos) (tX X.K X.mg W (.bget i j)) := by
  refine (pe_ix ix_list (pe_var hN hv hd hcd) pe_int (fun _ _ => rfl)).weak fun σ H Q ⟨C, F, s, r, h⟩ => ?_
  have h0 : Post X.K X.mg W C F σ (match s.rho[i]?, s.bag with
    | some (.val .bag), some (x, y) => .ok (.d (.int (if j = 0 then x else y))) s
    | _, _ => .stuck) fun u F' _ H' => ∀ v, DenU X.K C.b F' u v → Q v H' := h
  split at h0
  · rename_i x y e1 e2
    obtain ⟨v, h1, h2⟩ := r.val i _ e1
    cases h2
    obtain ⟨h3, _⟩ := r.bag x y e2
    refine ⟨_, h1, C.b, _, (j : Int), .int (if j = 0 then x else y), rfl, rfl, .of h3, ?_, h0.fin r (.int _)⟩
    match j, hj with
    | 0, _ => rfl
    | 1, _ => rfl
  · exact h0.elim
theorem sx_sat {i : Nat} {x : Str} {p : Pos} (hN : X.N[i]? = some x) (hv : Vis X.env.scope x) (hd : (x == ("__debug__" : Str)) = false) (hcd : (x == ("__classdict__" : Str)) = false) (ha : PE X ea (tX X.K X.mg W a)) (hp : PlainIx ea) : PE X (.Subscript (.Name x p) ea pos) (tX X.K X.mg W (.sat i a)) := by
  refine (pe_ix ix_list (pe_var hN hv hd hcd) ha hp).weak fun σ H Q ⟨C, F, s, r, h⟩ => ?_
  have h0 : Post X.K X.mg W C F σ (match s.rho[i]? with
    | some (.val (.scr ns)) => (ev a s).dat fun y s => match y with
      | .int k => lift ((atI ns k).map .int) s
      | _ => .stuck
    | _ => .stuck) fun u F' _ H' => ∀ v, DenU X.K C.b F' u v → Q v H' := h
  split at h0
  · rename_i ns e1
    obtain ⟨v, h1, b, h2, h3⟩ := r.val i _ e1
    subst h2
    refine ⟨_, h1, C, F, s, r, ?_⟩
    refine (Post.dat h0).imp fun u F1 s1 H1 l1 r1 ⟨y, e, q⟩ w d1 => ?_
    subst e
    cases y with
    | int k =>
      cases d1
      obtain ⟨z, ez, q2⟩ := q.lift
      cases ek : atI ns k with
      | none => rw [ek] at ez; cases ez
      | some m =>
        rw [ek] at ez
        cases ez
        refine ⟨b, _, k, .int m, rfl, rfl, h3.mono (l1.trans r1.le), ?_, q2.fin r1 (.int _)⟩
        unfold atI at ek ⊢
        rw [List.length_map]
        cases ei : ixN ns.length k with
        | none => rw [ei] at ek; cases ek
        | some n =>
          rw [ei] at ek
          have ek' : ns[n]? = some m := ek
          show (ns.map V.int)[n]? = _
          rw [List.getElem?_map, ek']
          rfl
    | _ => exact q.elim
  · exact h0.elim
theorem txts_dn {K : PySem.W.Frag} {F : Hp} : ∀ {ds : List PyData} {vs : List V} {ys : List Str}, DnAll K F vs ds → txts ds = some ys → vs = ys.map V.str
  | _, _, _, .nil, e => by cases e; rfl
  | d :: ds, _, _, .cons h t, e => by
    cases d with
    | str x =>
      cases h
      have e' : (txts ds).map (x :: ·) = some _ := e
      cases q : txts ds with
      | none => rw [q] at e'; cases e'
      | some ys =>
        rw [q] at e'
        cases e'
        rw [txts_dn t q]
        rfl
    | _ => cases e
theorem dn_txts {K : PySem.W.Frag} {F : Hp} : ∀ (ys : List Str), DnAll K F (ys.map V.str) (ys.map PyData.str)
  | [] => .nil
  | y :: ys => .cons (.str y) (dn_txts ys)
theorem sx_join {apos : Pos} (ha : PE X ea (tX X.K X.mg W a)) (hb : PE X eb (tX X.K X.mg W b)) (hs : starEach [eb] X.env = [(false, eval eb X.env)]) (hbase : attributeBase ea "join" X.env (eval ea X.env) = eval ea X.env) (hline : (apos.endLine == pos.line) = true) :
    PE X (.Call (.Attribute ea "join" apos) [eb] [] pos) (tX X.K X.mg W (.mth .join a b)) := by
  refine (pe_join ha hb hs hbase hline).weak fun σ H Q ⟨C, F, s, r, h⟩ => ⟨C, F, s, r, ?_⟩
  refine (Post.dat h).imp fun u F1 s1 H1 l1 r1 ⟨x, e, h1⟩ v d1 => ?_
  subst e
  cases x with
  | str y =>
    cases d1
    refine ⟨⟨_, rfl⟩, C, F1, s1, r1, ?_⟩
    refine (Post.dat h1).imp fun u F2 s2 H2 l2 r2 ⟨z, e, h3⟩ w d2 => ?_
    subst e
    obtain ⟨t, et, h4⟩ := h3.lift
    cases z with
    | list ds =>
      have et' : (match txts ds with
        | some ys => if (ys.map (·.length)).sum + ys.length * y.length ≤ big then some (PyData.str (Txt.join y ys)) else none
        | none => none) = some t := et
      cases q : txts ds with
      | none => rw [q] at et'; cases et'
      | some ys =>
        rw [q] at et'
        by_cases hc : (ys.map (·.length)).sum + ys.length * y.length ≤ big
        · have et2 : (if (ys.map (·.length)).sum + ys.length * y.length ≤ big then some (PyData.str (Txt.join y ys)) else none) = some t := et'
          rw [if_pos hc] at et2
          cases et2
          cases d2 with
          | lst q1 q2 =>
            have := txts_dn q2 q
            subst this
            exact ⟨y, _, ys, rfl, rfl, .inl (.of (r2.le _ _ q1)), hc, h4.fin r2 (.str _)⟩
        · have et2 : (if (ys.map (·.length)).sum + ys.length * y.length ≤ big then some (PyData.str (Txt.join y ys)) else none) = some t := et'
          rw [if_neg hc] at et2
          cases et2
    | _ => cases et
  | _ => exact h1.elim
theorem sx_split {apos : Pos} (ha : PE X ea (tX X.K X.mg W a)) (hb : PE X eb (tX X.K X.mg W b)) (hs : starEach [eb] X.env = [(false, eval eb X.env)]) (hbase : attributeBase ea "split" X.env (eval ea X.env) = eval ea X.env) (hline : (apos.endLine == pos.line) = true) :
    PE X (.Call (.Attribute ea "split" apos) [eb] [] pos) (tX X.K X.mg W (.mth .split a b)) := by
  refine (pe_split ha hb hs hbase hline).weak fun σ H Q ⟨C, F, s, r, h⟩ => ⟨C, F, s, r, ?_⟩
  refine (Post.dat h).imp fun u F1 s1 H1 l1 r1 ⟨x, e, h1⟩ v d1 => ?_
  subst e
  cases x with
  | str y =>
    cases d1
    refine ⟨⟨_, rfl⟩, C, F1, s1, r1, ?_⟩
    refine (Post.dat h1).imp fun u F2 s2 H2 l2 r2 ⟨z, e, h3⟩ w d2 => ?_
    subst e
    obtain ⟨t, et, h4⟩ := h3.lift
    cases z with
    | str z =>
      cases d2
      have et' : (if (z.length == 0) = false ∧ y.length + 2 ≤ big then some (PyData.list ((Txt.split y z).map .str)) else none) = some t := et
      by_cases hc : (z.length == 0) = false ∧ y.length + 2 ≤ big
      · rw [if_pos hc] at et'
        cases et'
        refine ⟨y, z, rfl, rfl, hc.1, hc.2, fun p hp => ?_⟩
        have l := Le.upd (F := F2) (.lst ((Txt.split y z).map V.str)) (r2.freeF hp)
        exact h4 _ _ l (r2.alloc _ hp) _ (.lst upd_same (dn_txts _))
      · rw [if_neg hc] at et'
        cases et'
    | _ => cases et
  | _ => exact h1.elim
theorem sx_idx (ha : PE X ea (tX X.K X.mg W a)) (hb : PE X eb (tX X.K X.mg W b)) (hp : PlainIx eb) : PE X (.Subscript ea eb pos) (tX X.K X.mg W (.idx a b)) := by
  refine (pe_ix (ix_list.or ix_tup) ha hb hp).weak fun σ H Q ⟨C, F, s, r, h⟩ => ⟨C, F, s, r, ?_⟩
  refine (Post.dat h).imp fun u F1 s1 H1 l1 r1 ⟨x, e, h1⟩ v d1 => ⟨C, F1, s1, r1, ?_⟩
  subst e
  refine (Post.dat h1).imp fun u F2 s2 H2 l2 r2 ⟨y, e, h2⟩ w d2 => ?_
  subst e
  obtain ⟨z, ez, h3⟩ := h2.lift
  have d1' := Dn.mono l2 _ _ d1
  cases x with
  | tuple xs =>
    cases y with
    | int i =>
      cases d2
      cases d1' with
      | tup q1 q2 =>
        obtain ⟨v', e1, e2⟩ := atI_dn q2 ez
        exact .inr ⟨_, _, i, v', rfl, rfl, q1.mono r2.le, e1, h3.fin r2 e2⟩
    | _ => cases ez
  | list xs =>
    cases y with
    | int i =>
      cases d2
      cases d1' with
      | lst q1 q2 =>
        obtain ⟨v', e1, e2⟩ := atI_dn q2 ez
        exact .inl ⟨_, _, i, v', rfl, rfl, .of (r2.le _ _ q1), e1, h3.fin r2 e2⟩
    | _ => cases ez
  | _ => cases ez
theorem so_none : PO X none (tXO X.K X.mg W .nopart) := po_none.weak fun σ H Q ⟨C, F, s, r, h⟩ => h.here r
theorem so_some (ha : PE X ea (tX X.K X.mg W a)) : PO X (some ea) (tXO X.K X.mg W (.acons a .anil)) := by
  refine (po_some ha).weak fun σ H Q ⟨C, F, s, r, h⟩ => ⟨C, F, s, r, ?_⟩
  refine (Post.dat h).imp fun u F1 s1 H1 l1 r1 ⟨x, e, h1⟩ v d1 => ?_
  subst e
  cases x with
  | int i =>
    cases d1
    exact ⟨i, rfl, h1.here r1⟩
  | _ => exact h1.elim
variable {lo hi : Option Expr} {tl th : T} {p2 : Pos}
theorem cut_whole {vs : List V} {xs : List PyData} {lo hi : Option Int} {K : PySem.W.Frag} {F : Hp} (d : DnAll K F vs xs) (h : HT.sIx vs.length 0 lo = 0 ∧ HT.sIx vs.length vs.length hi = vs.length) : cutD xs lo hi = xs := by
  unfold cutD
  rw [d.length] at h
  rw [h.1, h.2]
  simp
theorem sx_slc (ha : PE X ea (tX X.K X.mg W a)) (hl : PO X lo (tXO X.K X.mg W tl)) (hh : PO X hi (tXO X.K X.mg W th)) : PE X (.Subscript ea (.Slice lo hi none p2) pos) (tX X.K X.mg W (.slc a tl th)) := by
  refine (pe_slice (sl_tupA.or (sl_list.or sl_str)) ha hl hh).weak fun σ H Q ⟨C, F, s, r, h⟩ => ⟨C, F, s, r, ?_⟩
  refine (Post.dat h).imp fun u F1 s1 H1 l1 r1 ⟨x, e, h1⟩ v d1 => ⟨C, F1, s1, r1, ?_⟩
  subst e
  refine (Post.bind h1).imp fun o F2 s2 H2 l2 r2 h2 => ⟨C, F2, s2, r2, ?_⟩
  refine (Post.bind h2).imp fun o' F3 s3 H3 l3 r3 h3 => ?_
  obtain ⟨z, ez, h4⟩ := h3.lift
  have d3 := Dn.mono (l2.trans l3) _ _ d1
  cases x with
  | tuple xs =>
    cases ez
    cases d3 with
    | tup q1 q2 =>
      refine .inl ⟨_, _, rfl, q1.mono r3.le, fun hw => ?_, fun hw p hp => ?_⟩
      · rw [cut_whole q2 hw] at h4
        exact h4.fin r3 (.tup q1 q2)
      · obtain ⟨F', lF, r', d⟩ := r3.tup hp (q2.cut o o')
        exact h4 F' _ lF r' _ d
  | list xs =>
    cases ez
    cases d3 with
    | lst q1 q2 =>
      refine .inr (.inl ⟨_, _, rfl, .of (r3.le _ _ q1), fun p hp => ?_⟩)
      obtain ⟨F', lF, r', d⟩ := r3.lst hp (q2.cut o o')
      exact h4 F' _ lF r' _ d
  | str x =>
    cases d3
    have ez' : (if x.length ≤ big then some (PyData.str (cutS x o o')) else none) = some z := ez
    split at ez'
    · rename_i hl
      cases ez'
      exact .inr (.inr ⟨x, rfl, Nat.le_trans hl big_line, h4.fin r3 (.str _)⟩)
    · cases ez'
  | _ => cases ez
theorem sx_rev {k : Nat} {p1 p3 p4 : Pos} (ha : PE X ea (tX X.K X.mg W a)) : PE X (.Subscript ea (.Slice none none (some (.UnaryOp .USub (.Constant (.int 1) k p1) p3)) p4) pos) (tX X.K X.mg W (.rev a)) := by
  refine (pe_revA ha).weak fun σ H Q ⟨C, F, s, r, h⟩ => ⟨C, F, s, r, ?_⟩
  refine (Post.dat h).imp fun u F1 s1 H1 l1 r1 ⟨x, e, h1⟩ v d1 => ?_
  subst e
  cases x with
  | list xs =>
    cases d1 with
    | lst q1 q2 =>
      refine .inl ⟨_, _, rfl, .of (r1.le _ _ q1), fun p hp => ?_⟩
      obtain ⟨F', lF, r', d⟩ := r1.lst hp q2.reverse
      exact h1 F' _ lF r' _ d
  | tuple xs =>
    cases d1 with
    | tup q1 q2 =>
      refine .inr ⟨_, _, rfl, q1.mono r1.le, fun p hp => ?_⟩
      obtain ⟨F', lF, r', d⟩ := r1.tup hp q2.reverse
      exact h1 F' _ lF r' _ d
  | _ => exact h1.elim
/-! a dict's display, asked -/
def dkeys : List Str → List Int → List (Key × V)
  | k :: ks, v :: vs => (Sum.inr k, V.int v) :: dkeys ks vs
  | _, _ => []
def dtrs : List Str → List Int → List (TE × TE)
  | k :: ks, v :: vs => (tC (.str k), tC (.int v)) :: dtrs ks vs
  | _, _ => []
theorem dtrs_pairs : ∀ (ks : List Str) (vs : List Int) (σ : L2.St) (H : Hp) (Q : List (V × V) → Hp → Prop), Q ((dkeys ks vs).map fun kv => (kV kv.1, kv.2)) H → tPairs (dtrs ks vs) σ H Q
  | [], _, _, _, _, h => h
  | _ :: _, [], _, _, _, h => h
  | k :: ks, v :: vs, σ, H, Q, h => dtrs_pairs ks vs σ H _ h
theorem dkeys_val : ∀ (ks : List Str) (vs : List Int) (z : Str) (y : PyData), dsub ks vs z = some y → ∃ n, y = .int n ∧ valV (dkeys ks vs) (Sum.inr z : Key) = some (.int n)
  | [], _, _, _, h => by cases h
  | _ :: _, [], _, _, h => by cases h
  | k :: ks, v :: vs, z, y, h => by
    have h' : (if k = z then some (PyData.int v) else dsub ks vs z) = some y := h
    by_cases c : k = z
    · rw [if_pos c] at h'
      cases h'
      exact ⟨v, rfl, valV_pos (congrArg Sum.inr c)⟩
    · rw [if_neg c] at h'
      obtain ⟨n, e1, e2⟩ := dkeys_val ks vs z y h'
      refine ⟨n, e1, ?_⟩
      show (((Sum.inr k, V.int v) :: dkeys ks vs).find? fun kv => decide (kv.1 = (Sum.inr z : Key))).map (·.2) = _
      rw [List.find?_cons_of_neg]
      · exact e2
      · intro q
        have q1 : (Sum.inr k : Key) = Sum.inr z := of_decide_eq_true q
        cases q1
        exact c rfl
theorem dkeys_mem : ∀ (ks : List Str) (vs : List Int) (p : Key × V), p ∈ dkeys ks vs → ∃ k ∈ ks, p.1 = Sum.inr k
  | [], _, _, h => by cases h
  | _ :: _, [], _, h => by cases h
  | k :: ks, v :: vs, p, h => by
    cases h with
    | head => exact ⟨k, List.mem_cons_self .., rfl⟩
    | tail _ h =>
      obtain ⟨k', h1, h2⟩ := dkeys_mem ks vs p h
      exact ⟨k', List.mem_cons_of_mem _ h1, h2⟩
theorem dkeys_len : ∀ (ks : List Str) (vs : List Int), (dkeys ks vs).length ≤ ks.length
  | [], _ => Nat.le_refl _
  | _ :: _, [] => Nat.zero_le _
  | _ :: ks, _ :: vs => Nat.succ_le_succ (dkeys_len ks vs)
theorem dkeys_merge : ∀ (ks : List Str) (vs : List Int) (acc : List (Key × V)), ks.Nodup → (∀ p ∈ acc, ∀ k ∈ ks, p.1 ≠ Sum.inr k) → mergeK acc (dkeys ks vs) = acc ++ dkeys ks vs
  | [], _, acc, _, _ => (List.append_nil acc).symm
  | _ :: _, [], acc, _, _ => (List.append_nil acc).symm
  | k :: ks, v :: vs, acc, hn, ha => by
    have hn' := List.nodup_cons.mp hn
    have e1 : putK acc (Sum.inr k : Key) (V.int v) = acc ++ [(Sum.inr k, V.int v)] := by
      unfold putK
      rw [if_neg]
      intro q
      obtain ⟨p, hp, hq⟩ := List.any_eq_true.mp q
      exact ha p hp k (List.mem_cons_self ..) (of_decide_eq_true hq)
    show mergeK (putK acc (Sum.inr k : Key) (V.int v)) (dkeys ks vs) = _
    rw [e1, dkeys_merge ks vs _ hn'.2]
    · rw [List.append_assoc]
      rfl
    · intro p hp k' hk'
      rcases List.mem_append.mp hp with h | h
      · exact ha p h k' (List.mem_cons_of_mem _ hk')
      · cases List.mem_singleton.mp h
        intro z
        cases z
        exact hn'.1 hk'
def keysOk : List Str → List (Option Expr) → Bool
  | [], [] => true
  | k :: ks, some (.Constant (.str z) _ _) :: r => decide (k = z) && keysOk ks r
  | _, _ => false
def valOk : Int → Expr → Bool
  | v, .Constant (.int j) _ _ => decide (v = j)
  | v, .UnaryOp .USub (.Constant (.int j) _ _) _ => decide (v = -j)
  | _, _ => false
def valsOk : List Int → List Expr → Bool
  | [], [] => true
  | v :: vs, e :: es => valOk v e && valsOk vs es
  | _, _ => false
theorem pe_valOk {v : Int} {e : Expr} (h : valOk v e = true) : PE X e (tC (.int v)) := by
  cases e with
  | Constant c k p =>
    cases c with
    | int j =>
      have : v = j := of_decide_eq_true h
      subst this
      exact pe_int
    | _ => cases h
  | UnaryOp op e p =>
    cases op with
    | USub =>
      cases e with
      | Constant c k p =>
        cases c with
        | int j =>
          have : v = -j := of_decide_eq_true h
          subst this
          exact (pe_un un_neg pe_int).weak fun σ H Q q => ⟨j, rfl, q⟩
        | _ => cases h
      | _ => cases h
    | _ => cases h
  | _ => cases h
theorem pps_of : ∀ {ks : List Str} {vs : List Int} {keys : List (Option Expr)} {es : List Expr}, keysOk ks keys = true → valsOk vs es = true → ks.length = vs.length → PPs X pos keys es (dtrs ks vs) ∧ keys.all (·.isSome) = true ∧ keys.length = ks.length ∧ es.length = vs.length
  | [], [], [], [], _, _, _ => ⟨pps_nil, rfl, rfl, rfl⟩
  | k :: ks, v :: vs, some (.Constant (.str z) _ _) :: keys, e :: es, h1, h2, hl => by
    have h1' : (decide (k = z) && keysOk ks keys) = true := h1
    have h2' : (valOk v e && valsOk vs es) = true := h2
    rw [Bool.and_eq_true] at h1' h2'
    have e1 : k = z := of_decide_eq_true h1'.1
    subst e1
    obtain ⟨q1, q2, q3, q4⟩ := pps_of h1'.2 h2'.2 (Nat.succ.inj hl)
    exact ⟨pps_cons pe_str (pe_valOk h2'.1) q1, by rw [List.all_cons, q2]; rfl, congrArg Nat.succ q3, congrArg Nat.succ q4⟩
theorem sx_dix {ks : List Str} {vs : List Int} {keys : List (Option Expr)} {es : List Expr} {dp : Pos} (hu : X.A.units + 1 < cLine) (h1 : keysOk ks keys = true) (h2 : valsOk vs es = true) (hl : ks.length = vs.length) (hn : ks.Nodup) (h0 : ks ≠ []) (h15 : ks.length ≤ 15)
    (ha : PE X ea (tX X.K X.mg W a)) (hs : NoSl ea) : PE X (.Subscript (.Dict keys es dp) ea pos) (tX X.K X.mg W (.dix ks vs a)) := by
  obtain ⟨q1, q2, q3, q4⟩ := pps_of (X := X) (pos := dp) h1 h2 hl
  refine (pe_dget hu (pe_disp q1 q2 (by rw [q3, q4, hl]) (by
    intro z
    rw [z] at q3
    exact h0 (List.eq_nil_of_length_eq_zero q3.symm)) (by rw [q3]; exact h15)) ha hs).weak fun σ H Q ⟨C, F, s, r, h⟩ => ?_
  intro p hp
  refine dtrs_pairs ks vs σ _ _ ⟨upd_same, dkeys ks vs, rfl, Nat.le_trans (dkeys_len ks vs) h15, ?_⟩
  have em : mergeK [] (dkeys ks vs) = dkeys ks vs := by
    rw [dkeys_merge ks vs [] hn (fun p hp => by cases hp)]
    rfl
  have eu : upd (upd H p (.dK [])) p (.dK (mergeK [] (dkeys ks vs))) = upd H p (.dK (dkeys ks vs)) := by
    rw [em]
    funext b
    by_cases c : b = p
    · subst c
      rw [upd_same, upd_same]
    · rw [upd_ne c, upd_ne c, upd_ne c]
  rw [eu]
  have lF := Le.upd (F := F) (.dK (dkeys ks vs)) (r.freeF hp)
  refine ⟨C, _, s, r.alloc (.dK (dkeys ks vs)) hp, ?_⟩
  refine (Post.dat (Post.up h lF)).imp fun u F1 s1 H1 l1 r1 ⟨x, e, g⟩ v d1 => ?_
  subst e
  cases x with
  | str z =>
    cases d1
    obtain ⟨y, ey, g2⟩ := g.lift
    obtain ⟨n, e1, e2⟩ := dkeys_val ks vs z y ey
    subst e1
    refine ⟨p, .int n, rfl, ?_, g2.fin r1 (.int n)⟩
    have hd : H1 p = some (.dK (dkeys ks vs)) := r1.le _ _ (l1 _ _ upd_same)
    rw [← e2]
    exact DGet.k (k := Sum.inr z) hd
  | _ => exact g.elim
/-! list(range(a, b)) -/
theorem rg_dn {K : PySem.W.Frag} {F : Hp} (i j : Int) : DnAll K F (rgV i j) (rangeD i (j - i).toNat) := by
  unfold rgV rangeD
  generalize List.range (j - i).toNat = l
  induction l with
  | nil => exact .nil
  | cons a l ih => exact .cons (.int _) ih
theorem sx_lrg {p p2 pos2 : Pos} (hc : X.calm = true) (hg : Gl X "list") (hm : X.mg "list" = none) (hg2 : Gl X "range") (hm2 : X.mg "range" = none) (ha : PE X ea (tX X.K X.mg W a)) (hb : PE X eb (tX X.K X.mg W b)) (na : ∀ es, starEach (ea :: es) X.env = (false, eval ea X.env) :: starEach es X.env) (nb : ∀ es, starEach (eb :: es) X.env = (false, eval eb X.env) :: starEach es X.env) :
    PE X (.Call (.Name "list" p) [.Call (.Name "range" p2) [ea, eb] [] pos2] [] pos) (tX X.K X.mg W (.lrg a b)) := by
  refine (pe_listRg hc hg hm (prg_2 hg2 hm2 ha hb (na _) (nb _) (by rw [nb]; rfl))).weak fun σ H Q ⟨C, F, s, r, h⟩ => ⟨C, F, s, r, ?_⟩
  refine (Post.dat h).imp fun u F1 s1 H1 l1 r1 ⟨x, e, h1⟩ v d1 => ⟨C, F1, s1, r1, ?_⟩
  subst e
  refine (Post.dat h1).imp fun u F2 s2 H2 l2 r2 ⟨y, e, h2⟩ w d2 => ?_
  subst e
  cases x with
  | int i =>
    cases y with
    | int j =>
      cases d1
      cases d2
      have h3 : Post X.K X.mg W C F2 σ (if (-1000000 ≤ i ∧ i ≤ 1000000) ∧ -1000000 ≤ j ∧ j ≤ 1000000 then .ok (.d (.list (rangeD i (j - i).toNat))) s2 else .stuck) (fun u F' _ H' => ∀ v, DenU X.K C.b F' u v → Q v H') := h2
      split at h3
      · rename_i hh
        refine ⟨i, j, rfl, rfl, ⟨by omega, by omega, by omega, by omega, by omega⟩, fun q hq => ?_⟩
        obtain ⟨F', lF, r', d⟩ := r2.lst hq (rg_dn i j)
        exact h3 F' _ lF r' _ d
      · exact h3.elim
    | _ => exact h2.elim
  | _ => exact h2.elim
theorem sx_lr1 {p p2 pos2 : Pos} (hc : X.calm = true) (hg : Gl X "list") (hm : X.mg "list" = none) (hg2 : Gl X "range") (hm2 : X.mg "range" = none) (ha : PE X ea (tX X.K X.mg W a)) (na : ∀ es, starEach (ea :: es) X.env = (false, eval ea X.env) :: starEach es X.env) :
    PE X (.Call (.Name "list" p) [.Call (.Name "range" p2) [ea] [] pos2] [] pos) (tX X.K X.mg W (.lr1 a)) := by
  refine (pe_listRg hc hg hm (prg_1 hg2 hm2 ha (na _))).weak fun σ H Q ⟨C, F, s, r, h⟩ => ⟨C, F, s, r, ?_⟩
  refine (Post.dat h).imp fun u F1 s1 H1 l1 r1 ⟨x, e, h1⟩ v d1 => ?_
  subst e
  cases x with
  | int j =>
    cases d1
    have h3 : Post X.K X.mg W C F1 σ (if -1000000 ≤ j ∧ j ≤ 1000000 then .ok (.d (.list (rangeD 0 j.toNat))) s1 else .stuck) (fun u F' _ H' => ∀ v, DenU X.K C.b F' u v → Q v H') := h1
    split at h3
    · rename_i hh
      refine ⟨j, rfl, ⟨by omega, by omega, by omega, by omega, by omega⟩, fun q hq => ?_⟩
      have d0 := rg_dn (K := X.K) (F := F1) 0 j
      rw [show (j - 0).toNat = j.toNat by omega] at d0
      obtain ⟨F', lF, r', d⟩ := r1.lst hq d0
      exact h3 F' _ lF r' _ d
    · exact h3.elim
  | _ => exact h1.elim
end
end RD
set_option Elab.async false
set_option linter.all false
set_option maxRecDepth 100000
/-! RdSa: sets of nested tuples, over the heap: what a search and an adding do. -/
namespace SN
open PySem PySem.Spec PyProof.Rows L2

/-- where a key stands, and the key -/
abbrev Row := Addr × NestedKey
/-- the tuple that stands there is this key -/
def At (h : Heap) (k : NestedKey) (b : Addr) : Prop := NestedIs h k (.ref b) ∧ k.depth ≤ 8
theorem At.keep {h h' : Heap} {k : NestedKey} {b : Addr} (x : At h k b) (m : ∀ c o, h.get? c = some o → h'.get? c = some o) : At h' k b := ⟨NestedIs.at (fun c o _ _ e _ => m c o e) _ _ x.1, x.2⟩
theorem At.one {h : Heap} {k j : NestedKey} {b : Addr} (x : At h k b) (y : At h j b) : k = j := NestedIs.inj _ _ _ x.1 y.1
theorem At.but {h h' : Heap} {k : NestedKey} {a b : Addr} {ob : Obj} {es : Array (Int × Value)} {ep : Nat} {t : SetTable} (x : At h k b) (e : h.get? a = some ob) (d : ob.data = .set es ep t) (m : Heap.SameBut a h h') : At h' k b :=
  ⟨NestedIs.at (fun c o vs n e1 e2 => (m.2 c fun z => by rw [z, e] at e1; cases e1; rw [d] at e2; cases e2).trans e1) _ _ x.1, x.2⟩

section
variable {P : Program} {w : World} {s : Shared}
/-- no class statement's object -/
def NoOwn (P : Program) (w : World) (n : Nat) (s : Shared) (v : Value) : Prop := ∀ (A : Around) (E : Value → Shared → Prop) (Q : Bool → Shared → Prop), Q false s → wpAny (model P w) A (ofAClassStatement n v) Q E s
/-- the hash is asked, whatever it says -/
def ByV (P : Program) (w : World) (n : Nat) (s : Shared) (v : Value) : Prop := ∀ (A : Around) (E : Value → Shared → Prop) (Q : Bool → Shared → Prop), (∀ b, Q b s) → wpAny (model P w) A (hashByValue n v) Q E s
mutual
theorem no_own : ∀ (k : NestedKey) (v : Value) (n : Nat), NestedIs s.heap k v → k.depth ≤ n → NoOwn P w n s v
  | .none, _, n, x, _ => by cases x; intro A E Q q; cases n <;> exact wpAny_pure q
  | .num i, _, n, x, _ => by cases x <;> (intro A E Q q; cases n <;> exact wpAny_pure q)
  | .text y, _, n, x, _ => by cases x; intro A E Q q; cases n <;> exact wpAny_pure q
  | .tup ks, _, n, x, hn => by
    cases x with
    | @tup b ob vs m _ g1 g2 g3 g4 =>
      simp only [NestedKey.depth] at hn
      cases n with
      | zero => omega
      | succ n =>
        intro A E Q q
        have all := no_owns ks vs.toList n g4 (by omega)
        unfold ofAClassStatement
        refine wpAny_bind (wpAny_typeOf ⟨ob, g1, g2⟩ ?_)
        dsimp only
        rw [show (("tuple" : String) == "tuple") = true by decide]
        simp only [if_true, Bool.not_true, Bool.false_eq_true, if_false]
        try refine wpAny_bind (wpAny_pure ?_)
        try simp only [Bool.not_true, Bool.false_eq_true, if_false]
        refine wpAny_bind (wpAny_seqItems g1 g3 ?_)
        dsimp only
        refine wpAny_bind ?_
        show wpAny _ _ (forIn vs _ _) _ _ s
        rw [← Array.forIn_toList]
        refine wpAny_forIn_list _ (fun left r s1 => r.1 = none ∧ s1 = s ∧ ∀ v ∈ left, NoOwn P w n s v) _ (fun v left r s1 z => ?_) (fun r s1 z => ?_) _ _ ⟨rfl, rfl, all⟩
        · obtain ⟨z1, rfl, z3⟩ := z
          refine wpAny_bind (z3 v List.mem_cons_self _ _ _ ?_)
          simp only [Bool.false_eq_true, if_false]
          exact wpAny_pure ⟨rfl, rfl, fun u hu => z3 u (List.mem_cons_of_mem _ hu)⟩
        · obtain ⟨r1, r2⟩ := r
          obtain ⟨z1, rfl, _⟩ := z
          simp only at z1
          subst z1
          exact wpAny_pure q
theorem no_owns : ∀ (ks : List NestedKey) (vs : List Value) (n : Nat), NestedAll s.heap ks vs → NestedKey.depthAll ks ≤ n → ∀ v ∈ vs, NoOwn P w n s v
  | [], _, n, x, _, v, hv => by cases x; cases hv
  | k :: ks, _, n, x, hn, v, hv => by
    cases x with
    | cons x1 x2 =>
      simp only [NestedKey.depthAll] at hn
      rcases List.mem_cons.mp hv with e | hv
      · rw [e]
        exact no_own k _ n x1 (by omega)
      · exact no_owns ks _ n x2 (by omega) v hv
end
mutual
theorem by_v : ∀ (k : NestedKey) (v : Value) (n : Nat), NestedIs s.heap k v → k.depth ≤ n → ByV P w n s v
  | .none, _, n, x, _ => by cases x; intro A E Q q; cases n <;> exact wpAny_pure (q _)
  | .num i, _, n, x, _ => by cases x <;> (intro A E Q q; cases n <;> exact wpAny_pure (q _))
  | .text y, _, n, x, _ => by cases x; intro A E Q q; cases n <;> exact wpAny_pure (q _)
  | .tup ks, _, n, x, hn => by
    cases x with
    | @tup b ob vs m _ g1 g2 g3 g4 =>
      simp only [NestedKey.depth] at hn
      cases n with
      | zero => omega
      | succ n =>
        intro A E Q q
        have all := by_vs ks vs.toList n g4 (by omega)
        unfold hashByValue
        refine wpAny_bind (wpAny_specialOf ⟨ob, g1, g2⟩ F.slot_tuple_hash.lookup ?_)
        dsimp only
        refine wpAny_bind (wpAny_seqItems g1 g3 ?_)
        refine wpAny_bind ?_
        show wpAny _ _ (forIn vs _ _) _ _ s
        rw [← Array.forIn_toList]
        refine wpAny_forIn_list _ (fun left r s1 => r.1 = none ∧ s1 = s ∧ ∀ v ∈ left, ByV P w n s v) _ (fun v left r s1 z => ?_) (fun r s1 z => ?_) _ _ ⟨rfl, rfl, all⟩
        · obtain ⟨z1, rfl, z3⟩ := z
          refine wpAny_bind (z3 v List.mem_cons_self _ _ _ fun b => ?_)
          cases b
          · simp only [Bool.not_false, if_true]
            exact wpAny_pure (wpAny_pure (q _))
          · simp only [Bool.not_true, Bool.false_eq_true, if_false]
            exact wpAny_pure ⟨rfl, rfl, fun u hu => z3 u (List.mem_cons_of_mem _ hu)⟩
        · obtain ⟨r1, r2⟩ := r
          obtain ⟨z1, rfl, _⟩ := z
          simp only at z1
          subst z1
          exact wpAny_pure (q _)
theorem by_vs : ∀ (ks : List NestedKey) (vs : List Value) (n : Nat), NestedAll s.heap ks vs → NestedKey.depthAll ks ≤ n → ∀ v ∈ vs, ByV P w n s v
  | [], _, n, x, _, v, hv => by cases x; cases hv
  | k :: ks, _, n, x, hn, v, hv => by
    cases x with
    | cons x1 x2 =>
      simp only [NestedKey.depthAll] at hn
      rcases List.mem_cons.mp hv with e | hv
      · rw [e]
        exact by_v k _ n x1 (by omega)
      · exact by_vs ks _ n x2 (by omega) v hv
end
end
end SN
set_option Elab.async false
set_option linter.all false
set_option maxRecDepth 100000
/-! RdSb: the search in a set of nested tuples; adding one. -/
namespace SN
open PySem PySem.Spec PyProof.Rows L2
/-- the entries of such rows -/
def rows (w : World) (L : List Row) : List (Int × Value) := L.map fun r => (r.2.hash w, Value.ref r.1)
theorem rows_len (w : World) (L : List Row) : (rows w L).length = L.length := List.length_map ..
theorem rows_at {w : World} {L : List Row} {es : Array (Int × Value)} (e : es.toList = rows w L) {i : Nat} {r : Row} (h : L[i]? = some r) : es[i]? = some (r.2.hash w, Value.ref r.1) := by
  rw [← Array.getElem?_toList, e, rows, List.getElem?_map, h]
  rfl
theorem size_of {w : World} {L : List Row} {es : Array (Int × Value)} (e : es.toList = rows w L) : es.size = L.length := by
  rw [← Array.length_toList, e, rows_len]
/-- the set's object at a holds these rows -/
structure Is (w : World) (h : Heap) (a : Addr) (L : List Row) (es : Array (Int × Value)) (ep : Nat) (t : SetTable) : Prop where
  obj : ∃ o, h.get? a = some o ∧ o.ExactSet ∧ o.data = .set es ep t
  ent : es.toList = rows w L
  tab : TabOk t (L.map fun r => r.2.hash w)
  dif : (L.map (·.2)).Nodup
  key : ∀ r ∈ L, At h r.2 r.1
  led : w.params.followText "set-order" = true ∨ t.led = true
  gap : 5 * L.length < 3 * t.mask
  few : L.length < 64
theorem fits_of {w : World} {L : List Row} {es : Array (Int × Value)} {t : SetTable} (e : es.toList = rows w L) (T : TabOk t (L.map fun r => r.2.hash w)) (g : L.length ≤ t.mask) : t.fits es.size = true := by
  have n1 := T.sz
  rw [List.length_map] at n1
  have n2 := size_of e
  simp only [SetTable.fits, SetTable.fill, T.dm, Bool.and_eq_true, beq_iff_eq, decide_eq_true_eq]
  refine ⟨by omega, ?_⟩
  show t.place.size + 0 ≤ t.mask
  omega
/-- the steps of a search -/
def pr (m : Nat) (H : Int) (c : Nat) : SetTable.Probe := nth m (runAt m (SetTable.bits H % (m + 1)) (SetTable.bits H)) c
theorem pr_on (m : Nat) (H : Int) (c q : Nat) : nth m (pr m H c) q = pr m H (c + q) := (nth_add m c _ q).symm
theorem pr_j (m : Nat) (H : Int) (c q : Nat) : (nth m (pr m H c) q).j = way m H (c + q) := congrArg SetTable.Probe.j (pr_on m H c q)
theorem pr_dummy (m : Nat) (H : Int) (c : Nat) : (pr m H c).dummy = none := by
  have go : ∀ (c : Nat) (p : SetTable.Probe), p.dummy = none → (nth m p c).dummy = none := by
    intro c
    induction c with
    | zero => exact fun p e => e
    | succ c ih =>
      intro p e
      refine ih (adv m p) ?_
      unfold adv
      split <;> exact e
  exact go c _ rfl
section
variable {P : Program} {w : World} {A : Around} {E : Value → Shared → Prop} {s : Shared} {a : Addr} {L : List Row} {es : Array (Int × Value)} {ep : Nat} {t : SetTable}
theorem Is.fits (R : Is w s.heap a L es ep t) : t.fits es.size = true := fits_of R.ent R.tab (by have := R.gap; omega)
theorem Is.off (R : Is w s.heap a L es ep t) : ¬ t.gaveWay = true := by
  unfold SetTable.gaveWay
  rw [mask_odd R.tab.mok]
  decide
/-- looking among such tuples shows nothing -/
theorem hidden {k : NestedKey} {b : Addr} {Q : Bool → Shared → Prop} (x : At s.heap k b) {ys : List Value} (hy : ∀ y ∈ ys, ∃ j c, y = Value.ref c ∧ At s.heap j c) (q : Q false s) : wpAny (model P w) A (searchCouldBeSeen (.ref b) ys) Q E s := by
  unfold searchCouldBeSeen
  refine wpAny_bind (wpAny_forIn_list _ (fun left r s1 => r.1 = none ∧ s1 = s ∧ ∀ y ∈ left, ∃ j c, y = Value.ref c ∧ At s.heap j c) _ (fun v left r s1 z => ?_) (fun r s1 z => ?_) _ _ ⟨rfl, rfl, hy⟩)
  · obtain ⟨z1, rfl, z3⟩ := z
    obtain ⟨j, c, rfl, y⟩ := z3 v List.mem_cons_self
    have more : ∀ y ∈ left, ∃ j c, y = Value.ref c ∧ At s1.heap j c := fun u hu => z3 u (List.mem_cons_of_mem _ hu)
    dsimp only
    by_cases c0 : (b == c || (carriedByValue (.ref b) && carriedByValue (.ref c))) = true
    · exact wp_if_pos c0 (wpAny_pure ⟨rfl, rfl, more⟩)
    · refine wp_if_neg c0 (wpAny_bind (quiet_key _ _ 8 _ x.1 x.2 _ _ _ ?_))
      simp only [Bool.not_true, Bool.false_eq_true, if_false]
      refine wpAny_bind (quiet_key _ _ 8 _ y.1 y.2 _ _ _ ?_)
      simp only [Bool.not_true, Bool.false_eq_true, if_false]
      refine wpAny_bind (no_own _ _ 8 x.1 x.2 _ _ _ ?_)
      simp only [Bool.false_eq_true, if_false]
      refine wpAny_bind (no_own _ _ 8 y.1 y.2 _ _ _ ?_)
      simp only [Bool.false_eq_true, if_false]
      exact wpAny_pure ⟨rfl, rfl, more⟩
  · obtain ⟨r1, r2⟩ := r
    obtain ⟨z1, rfl, _⟩ := z
    simp only at z1
    subst z1
    exact wpAny_pure q

/-- from the c-th step on -/
theorem seek (R : Is w s.heap a L es ep t) {x : Addr} {k : NestedKey} (hx : At s.heap k x) (hu : A.units + 8 < cLine) {N : Nat} (n1 : N < 10 * SetTable.turns t.mask)
    (n2 : way t.mask (k.hash w) N ∉ t.place.toList) (n3 : ∀ c, c < N → way t.mask (k.hash w) c ∈ t.place.toList) {Q : SetFound → Shared → Prop}
    (yes : k ∈ L.map (·.2) → Q (.there none) s) (no : k ∉ L.map (·.2) → Q (.free (way t.mask (k.hash w) N) false) s) :
    ∀ (f c : Nat) (from_ : Option SetTable.Probe), from_.getD (t.probeStart (k.hash w)) = pr t.mask (k.hash w) c → c ≤ N → N < c + f →
      (∀ (i : Nat) r, L[i]? = some r → r.2 = k → ∃ d, c ≤ d ∧ d < N ∧ t.place.toList[i]? = some (way t.mask (k.hash w) d)) →
      wpAny (model P w) A (setSearchFrom a (.ref x) (k.hash w) true f from_) Q E s
  | 0, c, from_, _, c1, c2, _ => absurd c2 (by omega)
  | f + 1, c, from_, e0, c1, c2, ahead => by
    obtain ⟨o, o1, o2, o3⟩ := R.obj
    rw [setSearchFrom_succ]
    refine wpAny_bind (wpAny_setState_of o1 o3 R.fits ?_)
    dsimp only
    refine wp_if_neg R.off ?_
    try refine wpAny_bind (wpAny_pure ?_)
    have says := go_spec t R.tab.ris R.tab.dm (fun i => (es[i]?.map (·.1)).getD 0) (k.hash w) (10 * SetTable.turns t.mask) (N - c) (pr t.mask (k.hash w) c) (pr_dummy ..) (by omega)
      (fun q hq => by rw [pr_j]; exact n3 _ (by omega)) (by rw [pr_j, Nat.add_sub_cancel' c1]; exact n2)
    have hs : ∀ (i : Nat) r, L[i]? = some r → (es[i]?.map (·.1)).getD 0 = r.2.hash w := fun i r hr => by rw [rows_at R.ent hr]; rfl
    rcases says with ⟨q, i, q1, q2, q3, q4, q5⟩ | ⟨q4, q5⟩
    · have met : t.probe (fun i => (es[i]?.map (·.1)).getD 0) (k.hash w) (from_.getD (t.probeStart (k.hash w))) = some (.candidate (way t.mask (k.hash w) (c + q)) i (pr t.mask (k.hash w) (c + (q + 1)))) := by
        rw [e0, ← pr_j, ← pr_on]
        exact q5
      rw [met]
      dsimp only
      rw [pr_j] at q2
      have il : i < L.length := by
        have z1 := (List.getElem?_eq_some_iff.mp q2).1
        have z2 := R.tab.sz
        rw [List.length_map] at z2
        rw [Array.length_toList] at z1
        omega
      obtain ⟨r, hr⟩ : ∃ r, L[i]? = some r := ⟨_, List.getElem?_eq_getElem il⟩
      have hr' := List.mem_of_getElem? hr
      have live := slot_live R.tab.ris q2
      have go : wpAny (model P w) A (searchRest a (.ref x) (k.hash w) true f es t (way t.mask (k.hash w) (c + q)) i (pr t.mask (k.hash w) (c + (q + 1)))) Q E s := by
        unfold searchRest
        rw [rows_at R.ent hr]
        dsimp only
        refine wpAny_bind (wpAny_holding ((nestedKind P w).eqBool (x := r.2) (y := k) hu (R.key r hr') hx ?_))
        refine wpAny_bind (wpAny_setState_of o1 o3 R.fits ?_)
        dsimp only
        by_cases same : r.2 = k
        · exact wp_if_pos (by simp [same]) (wpAny_pure (yes (List.mem_map.mpr ⟨r, hr', same⟩)))
        · refine wp_if_neg (by simp [same]) ?_
          try refine wpAny_bind (wpAny_pure ?_)
          rw [sameMem]
          dsimp only
          simp only [if_true, live, rows_at R.ent hr]
          refine wpAny_bind (wpAny_isSame_ref_self (wpAny_bind (wpAny_pure ?_)))
          simp only [if_true]
          refine wp_if_neg (by simp [same]) ?_
          refine seek R hx hu n1 n2 n3 yes no f (c + (q + 1)) _ rfl (by omega) (by omega) fun j u h1 h2 => ?_
          obtain ⟨d, d1, d2, d3⟩ := ahead j u h1 h2
          refine ⟨d, ?_, d2, d3⟩
          rcases Nat.lt_trichotomy d (c + q) with z | z | z
          · exact absurd ((hs j u h1).trans (congrArg _ h2)) (q4 (d - c) j (by omega) (by rw [pr_j, Nat.add_sub_cancel' d1]; exact d3))
          · rw [z] at d3
            have l2 := slot_live R.tab.ris d3
            rw [live] at l2
            injection l2 with l2
            rw [← l2, hr] at h1
            cases h1
            exact absurd h2 same
          · omega
      by_cases hl : t.led = true
      · refine wp_if_neg (by simp [hl]) ?_
        try refine wpAny_bind (wpAny_pure ?_)
        exact go
      · refine wp_if_pos (by simp [hl]) (wpAny_bind (hidden hx (fun y hy => ?_) ?_))
        · obtain ⟨e, he, rfl⟩ := List.mem_map.mp hy
          have he2 : e ∈ es.toList := by
            have : e ∈ es ∧ e.1 = k.hash w := by simpa using he
            simpa using this.1
          rw [R.ent] at he2
          obtain ⟨u, hu2, rfl⟩ := List.mem_map.mp he2
          exact ⟨u.2, u.1, rfl, R.key u hu2⟩
        · refine wp_if_neg (by decide) ?_
          try refine wpAny_bind (wpAny_pure ?_)
          exact go
    · have met : t.probe (fun i => (es[i]?.map (·.1)).getD 0) (k.hash w) (from_.getD (t.probeStart (k.hash w))) = some (.empty (way t.mask (k.hash w) N) none) := by
        have e1 : way t.mask (k.hash w) N = (nth t.mask (pr t.mask (k.hash w) c) (N - c)).j := by rw [pr_j, Nat.add_sub_cancel' c1]
        rw [e0, e1]
        exact q5
      rw [met]
      dsimp only
      refine wpAny_pure (no fun z => ?_)
      obtain ⟨u, hu1, hu2⟩ := List.mem_map.mp z
      obtain ⟨j, hj, ej⟩ := List.getElem_of_mem hu1
      have h1 : L[j]? = some u := by rw [List.getElem?_eq_getElem hj, ej]
      obtain ⟨d, d1, d2, d3⟩ := ahead j u h1 hu2
      exact q4 (d - c) j (by omega) (by rw [pr_j, Nat.add_sub_cancel' d1]; exact d3) ((hs j u h1).trans (congrArg _ hu2))
/-- as adding asks -/
theorem seek0 (R : Is w s.heap a L es ep t) {x : Addr} {k : NestedKey} (hx : At s.heap k x) (hu : A.units + 8 < cLine) {Q : SetFound → Shared → Prop} (yes : k ∈ L.map (·.2) → Q (.there none) s)
    (no : ∀ N, k ∉ L.map (·.2) → way t.mask (k.hash w) N ∉ t.place.toList → (∀ c, c < N → way t.mask (k.hash w) c ∈ t.place.toList) → Q (.free (way t.mask (k.hash w) N) false) s) :
    wpAny (model P w) A (setSearch a (.ref x) (k.hash w) true) Q E s := by
  have g := R.gap
  obtain ⟨N, n1, n2, n3⟩ := R.tab.first (by rw [List.length_map]; omega) (k.hash w)
  have small : N < 100000 := by
    have : SetTable.turns t.mask ≤ 142 := by
      unfold SetTable.turns
      rcases R.tab.mok with e | e | e <;> omega
    omega
  unfold setSearch
  refine seek R hx hu n1 n2 n3 yes (fun z => no N z n2 n3) 100000 0 none rfl (Nat.zero_le _) (by omega) fun i r hr hk => ?_
  have hi : (L.map fun r => r.2.hash w)[i]? = some (k.hash w) := by rw [List.getElem?_map, hr, ← hk]; rfl
  have il : i < t.place.toList.length := by
    have z1 := (List.getElem?_eq_some_iff.mp hr).1
    have z2 := R.tab.sz
    rw [List.length_map] at z2
    rw [Array.length_toList]
    omega
  obtain ⟨c, c1, c2⟩ := R.tab.before n2 hi (List.getElem?_eq_getElem il)
  exact ⟨c, Nat.zero_le _, c1, by rw [List.getElem?_eq_getElem il, c2]⟩
end
end SN
set_option Elab.async false
set_option linter.all false
set_option maxRecDepth 100000
/-! RdSc: adding to a set of nested tuples; the table laid anew. -/
namespace SN
open PySem PySem.Spec PyProof.Rows L2
section
variable {P : Program} {w : World} {A : Around} {E : Value → Shared → Prop} {s : Shared} {a : Addr} {L : List Row} {es : Array (Int × Value)} {ep : Nat} {t : SetTable}
/-- entries picked in some order are rows again -/
theorem picked {order : Array Nat} (e : es.toList = rows w L) (p : order.toList.Perm (List.range L.length)) :
    ∃ M, (order.filterMap (es[·]?)).toList = rows w M ∧ M.Perm L ∧ (M.map fun r => r.2.hash w) = order.toList.map fun i => (es.map (·.1)).getD i 0 := by
  have n := size_of e
  have step : ∀ l : List Nat, (∀ i ∈ l, i < L.length) → ∃ M, l.filterMap (fun i => es[i]?) = rows w M ∧ M = l.filterMap (fun i => L[i]?) ∧ (M.map fun r => r.2.hash w) = l.map fun i => (es.map (·.1)).getD i 0 := by
    intro l
    induction l with
    | nil => exact fun _ => ⟨[], rfl, rfl, rfl⟩
    | cons i l ih =>
      intro hl
      have hi := hl i List.mem_cons_self
      have at_i := rows_at e (List.getElem?_eq_getElem hi)
      obtain ⟨M, m1, m2, m3⟩ := ih fun j hj => hl j (List.mem_cons_of_mem _ hj)
      refine ⟨L[i] :: M, ?_, ?_, ?_⟩
      · rw [List.filterMap_cons_some at_i, m1]
        rfl
      · rw [List.filterMap_cons_some (List.getElem?_eq_getElem hi), m2]
      · have : (es.map (·.1))[i]? = some ((L[i]).2.hash w) := by rw [Array.getElem?_map, at_i]; rfl
        rw [List.map_cons, List.map_cons, m3, show (es.map (·.1)).getD i 0 = (L[i]).2.hash w by simp [Array.getD_eq_getD_getElem?, this]]
  obtain ⟨M, m1, m2, m3⟩ := step order.toList fun i hi => List.mem_range.mp (p.mem_iff.mp hi)
  have all : ∀ n, n ≤ L.length → (List.range n).filterMap (fun i => L[i]?) = L.take n := by
    intro n
    induction n with
    | zero => exact fun _ => rfl
    | succ n ih =>
      intro hn
      rw [List.range_succ, List.filterMap_append, ih (Nat.le_of_lt hn), List.take_succ, List.getElem?_eq_getElem hn, List.filterMap_cons_some (List.getElem?_eq_getElem hn)]
      rfl
  refine ⟨M, by first | (rw [Array.toList_filterMap]; exact m1) | simpa using m1, ?_, m3⟩
  have q := p.filterMap fun i => L[i]?
  rw [← m2, all L.length (Nat.le_refl _), List.take_length] at q
  exact q
/-- laid anew -/
theorem anew {o : Obj} (o1 : s.heap.get? a = some o) (o2 : o.ExactSet) (o3 : o.data = .set es ep t) (e : es.toList = rows w L) (T : TabOk t (L.map fun r => r.2.hash w)) (g : L.length ≤ t.mask) (dif : (L.map (·.2)).Nodup) (key : ∀ r ∈ L, At s.heap r.2 r.1)
    (led : w.params.followText "set-order" = true ∨ t.led = true) (few : L.length < 64) {M n : Nat} (z1 : SetTable.sizeAbove n - 1 = M) (z2 : MaskOk M) (z3 : SetTable.sizeAbove n ≤ 128) (z4 : 5 * L.length < 3 * M) {Q : Unit → Shared → Prop}
    (q : ∀ h' L' es' ep' t', Heap.SameBut a s.heap h' → Is w h' a L' es' ep' t' → L'.Perm L → Q () { s with heap := h' }) : wpAny (model P w) A (setRelay a n) Q E s := by
  have sz := size_of e
  obtain ⟨t', order, r1, r2, r3, r4, r5, _, r7⟩ := relaid_ok t (hs := es.map (·.1)) z1 z2 (by rw [Array.size_map, sz]; omega)
  rw [Array.size_map, sz] at r2
  obtain ⟨L', p1, p2, p3⟩ := picked e r2
  rw [← p3] at r3
  have sz' : (order.filterMap (es[·]?)).size = es.size := by rw [size_of p1, p2.length_eq, sz]
  rw [setRelay_eq]
  refine wpAny_bind (wpAny_setState_of o1 o3 (fits_of e T g) ?_)
  dsimp only
  refine wp_if_neg (by rw [sizeLine_eq]; omega) ?_
  try refine wpAny_bind (wpAny_pure ?_)
  rw [r1]
  dsimp only
  refine wpAny_bind (wp_if_neg (by rw [sz']; simp) ?_)
  try refine wpAny_bind (wpAny_pure ?_)
  refine wpAny_pure ?_
  dsimp only
  refine wpAny_storeSet_of o1 o3 ?_ (by rw [sz', sz, sizeLine_eq]; omega)
  have b : Heap.SameBut a s.heap (s.heap.update a (Obj.putSet (order.filterMap (es[·]?)) t')) := Heap.SameBut.update ..
  refine q _ L' (order.filterMap (es[·]?)) (ep + 1) t' b ⟨⟨_, store_at o1 o3, ⟨o2.1, o2.2.1, o2.2.2⟩, rfl⟩, p1, r3, (p2.map (·.2)).nodup_iff.mpr dif, fun r hr => (key r (p2.mem_iff.mp hr)).but o1 o3 b, by rw [r5]; exact led, ?_, by rw [p2.length_eq]; exact few⟩ p2
  rw [p2.length_eq, r4]
  exact z4
/-- one is added -/
theorem add (R : Is w s.heap a L es ep t) {x : Addr} {k : NestedKey} (hx : At s.heap k x) (hu : A.units + 8 < cLine) (few : k ∉ L.map (·.2) → L.length + 1 < 64) {Q : Bool → Shared → Prop}
    (q : ∀ b h' L' es' ep' t', Heap.SameBut a s.heap h' → Is w h' a L' es' ep' t' → (k ∈ L.map (·.2) → L' = L) → (k ∉ L.map (·.2) → L'.Perm ((x, k) :: L)) → Q b { s with heap := h' }) :
    wpAny (model P w) A (setAddHashed a (.ref x) (k.hash w) ) Q E s := by
  obtain ⟨o, o1, o2, o3⟩ := R.obj
  have sz := size_of R.ent
  have g := R.gap
  unfold setAddHashed
  refine wpAny_holding ?_
  rw [show (100000 : Nat) = 99999 + 1 from rfl, setAddHashedIn_succ]
  refine wpAny_bind (wpAny_setState_of o1 o3 R.fits ?_)
  dsimp only
  refine wp_if_neg (by simp [byScan, Value.scannable]) ?_
  try refine wpAny_bind (wpAny_pure ?_)
  refine wpAny_bind (seek0 R hx hu (fun hm => ?_) fun N hm n2 n3 => ?_)
  · dsimp only
    exact wpAny_pure (q false s.heap L es ep t (Heap.SameBut.refl a s.heap) R (fun _ => rfl) fun z => absurd hm z)
  · dsimp only
    have few := few hm
    refine wpAny_bind (wpAny_setState_of o1 o3 R.fits ?_)
    dsimp only
    obtain ⟨p1, p2, p3, p4, p5, p6, p7, p8, p9⟩ := R.tab.put n2 n3
    generalize hpt : t.put (way t.mask (k.hash w) N) = pt at p1 p3 p4 p5 p6 p7 p8 p9 ⊢
    obtain ⟨t1, n⟩ := pt
    dsimp only at p1 p3 p4 p5 p6 p7 p8 p9 ⊢
    subst p1
    generalize hb : SetTable.below t.place (way t.mask (k.hash w) N) = n at p2 p3 ⊢
    have rest : ∀ t2 : SetTable, TabOk t2 ((L.map fun r => r.2.hash w).take n ++ k.hash w :: (L.map fun r => r.2.hash w).drop n) → t2.mask = t.mask → t2.led = t.led → t2.tooFull = t1.tooFull →
        wpAny (model P w) A (do
          storeSet a (SetTable.insertAt es n (k.hash w, .ref x)) t2
          if !false && t2.tooFull then setRelay a (SetTable.grown (es.size + 1))
          return true) Q E s := by
      intro t2 T2 m2 l2 f2
      have ent : (SetTable.insertAt es n (k.hash w, Value.ref x)).toList = rows w (L.take n ++ (x, k) :: L.drop n) := by
        rw [SetTable.toList_insertAt, R.ent, rows, rows, List.map_append, List.map_cons, List.map_take, List.map_drop]
      have pm := put_perm L n (x, k)
      have len : (L.take n ++ (x, k) :: L.drop n).length = L.length + 1 := pm.length_eq
      have hs : (L.take n ++ (x, k) :: L.drop n).map (fun r => r.2.hash w) = (L.map fun r => r.2.hash w).take n ++ k.hash w :: (L.map fun r => r.2.hash w).drop n := by
        rw [List.map_append, List.map_cons, List.map_take, List.map_drop]
      rw [← hs] at T2
      have dif : ((L.take n ++ (x, k) :: L.drop n).map (·.2)).Nodup := (pm.map (·.2)).nodup_iff.mpr (List.nodup_cons.mpr ⟨hm, R.dif⟩)
      generalize SetTable.insertAt es n (k.hash w, Value.ref x) = es1 at ent ⊢
      generalize L.take n ++ (x, k) :: L.drop n = L1 at ent pm len T2 dif
      have sz1 := size_of ent
      refine wpAny_bind (wpAny_storeSet_of o1 o3 ?_ (by rw [sz1, len, sizeLine_eq]; omega))
      have sb : Heap.SameBut a s.heap (s.heap.update a (Obj.putSet es1 t2)) := Heap.SameBut.update ..
      have o1' := store_at (es' := es1) (t' := t2) o1 o3
      generalize s.heap.update a (Obj.putSet es1 t2) = h1 at sb o1' ⊢
      have key : ∀ r ∈ L1, At h1 r.2 r.1 := fun r hr => by
        rcases List.mem_cons.mp (pm.mem_iff.mp hr) with e | hr
        · rw [e]
          exact hx.but o1 o3 sb
        · exact (R.key r hr).but o1 o3 sb
      have led : w.params.followText "set-order" = true ∨ t2.led = true := by rw [l2]; exact R.led
      have full : t2.tooFull = decide (3 * t.mask ≤ 5 * (L.length + 1)) := by
        have z1 : t1.tooFull = t2.tooFull := f2.symm
        have z2 := T2.sz
        rw [List.length_map, len] at z2
        unfold SetTable.tooFull SetTable.fill
        rw [T2.dm, m2]
        show decide ((t2.place.size + 0) * 5 ≥ t.mask * 3) = _
        rw [z2]
        exact decide_eq_decide.mpr (by omega)
      by_cases hf : 3 * t.mask ≤ 5 * (L.length + 1)
      · have hf' : t2.tooFull = true := by rw [full]; exact decide_eq_true hf
        first
          | (refine wpAny_bind ?_; refine wp_if_pos (by simp [hf']) ?_)
          | (refine wp_if_pos (by simp [hf']) ?_; refine wpAny_bind ?_)
        rw [sz]
        have two : (t.mask = 7 ∧ L.length = 4) ∨ (t.mask = 31 ∧ L.length = 18) := by
          rcases R.tab.mok with e | e | e
          · exact .inl ⟨e, by omega⟩
          · exact .inr ⟨e, by omega⟩
          · omega
        have go : ∀ M, SetTable.sizeAbove (SetTable.grown (L.length + 1)) - 1 = M → MaskOk M → SetTable.sizeAbove (SetTable.grown (L.length + 1)) ≤ 128 → 5 * (L.length + 1) < 3 * M →
            wpAny (model P w) A (setRelay a (SetTable.grown (L.length + 1))) (fun _ s' => wpAny (model P w) A (pure true) Q E s') E { s with heap := h1 } := fun M c1 c2 c3 c4 => by
          refine anew (s := { s with heap := h1 }) o1' ⟨o2.1, o2.2.1, o2.2.2⟩ rfl ent T2 (by rw [len, m2]; omega) dif key led (by rw [len]; exact few) c1 c2 c3 (by rw [len]; exact c4) ?_
          intro h2 L2 es2 ep2 t2 sb2 R2 pm2
          exact wpAny_pure (q true h2 L2 es2 ep2 t2 (sb.trans sb2) R2 (fun z => absurd z hm) fun _ => pm2.trans pm)
        rcases two with ⟨_, e2⟩ | ⟨_, e2⟩
        · exact go 31 (by rw [e2, size_20]) (.inr (.inl rfl)) (by rw [e2, size_20]; decide) (by omega)
        · exact go 127 (by rw [e2, size_76]) (.inr (.inr rfl)) (by rw [e2, size_76]; decide) (by omega)
      · have hf' : t2.tooFull = false := by rw [full]; exact decide_eq_false hf
        first
          | refine wp_if_neg (by simp [hf']) ?_
          | (refine wpAny_bind ?_; refine wp_if_neg (by simp [hf']) ?_; refine wpAny_pure ?_)
        exact wpAny_pure (q true h1 L1 es1 (ep + 1) t2 sb ⟨⟨_, o1', ⟨o2.1, o2.2.1, o2.2.2⟩, rfl⟩, ent, T2, dif, key, led, by rw [len, m2]; omega, by rw [len]; exact few⟩ (fun z => absurd z hm) fun _ => pm)
    have ask : ∀ b : Bool, wpAny (model P w) A (do
          storeSet a (SetTable.insertAt es n (k.hash w, .ref x)) (if b = true then t1 else { t1 with plain := false })
          if !false && (if b = true then t1 else { t1 with plain := false } : SetTable).tooFull then setRelay a (SetTable.grown (es.size + 1))
          return true) Q E s := fun b => by
      cases b
      · exact rest { t1 with plain := false } ⟨p3.ris, p3.dm, p3.sz, p3.mok, p3.bd, p3.reach⟩ p4 p5 rfl
      · exact rest t1 p3 p4 p5 rfl
    by_cases hp : t1.plain = true
    · first
        | (refine wpAny_bind ?_; refine wp_if_pos hp ?_; exact by_v _ _ 8 hx.1 hx.2 _ _ _ fun b => ask b)
        | exact wp_if_pos hp (wpAny_bind (by_v _ _ 8 hx.1 hx.2 _ _ _ fun b => ask b))
    · first
        | (refine wpAny_bind ?_; refine wp_if_neg hp ?_; exact wpAny_pure (ask true))
        | exact wp_if_neg hp (wpAny_bind (wpAny_pure (ask true)))
        | exact wp_if_neg hp (ask true)
end
end SN
set_option Elab.async false
set_option linter.all false
set_option maxRecDepth 100000
/-! RdSd: set(xs) of a list or a tuple of nested tuples; sorted(set). -/
namespace SN
open PySem PySem.Spec PyProof.Rows L2
/-- what the first n items have brought -/
structure Got (xs : List Row) (n : Nat) (L : List Row) : Prop where
  old : ∀ r ∈ L, r ∈ xs.take n
  met : ∀ r ∈ xs.take n, r.2 ∈ L.map (·.2)
theorem Got.nil (xs : List Row) : Got xs 0 [] := ⟨fun r h => (by cases h), fun r h => (by simp at h)⟩
theorem Got.again {xs L : List Row} {n : Nat} {r : Row} (g : Got xs n L) (e : xs[n]? = some r) (m : r.2 ∈ L.map (·.2)) : Got xs (n + 1) L := by
  have t := take_next e
  refine ⟨fun u hu => by rw [t]; exact List.mem_append_left _ (g.old u hu), fun u hu => ?_⟩
  rw [t] at hu
  rcases List.mem_append.mp hu with z | z
  · exact g.met u z
  · rwa [List.mem_singleton.mp z]
theorem Got.new {xs L M : List Row} {n : Nat} {r : Row} (g : Got xs n L) (e : xs[n]? = some r) (p : M.Perm (r :: L)) : Got xs (n + 1) M := by
  have t := take_next e
  refine ⟨fun u hu => ?_, fun u hu => ?_⟩
  · rw [t]
    rcases List.mem_cons.mp (p.mem_iff.mp hu) with z | z
    · exact List.mem_append_right _ (List.mem_singleton.mpr z)
    · exact List.mem_append_left _ (g.old u z)
  · rw [(p.map (·.2)).mem_iff]
    rw [t] at hu
    rcases List.mem_append.mp hu with z | z
    · exact List.mem_cons_of_mem _ (g.met u z)
    · rw [List.mem_singleton.mp z]
      exact List.mem_cons_self
/-- distinct members of a list -/
theorem len_sub {α : Type} : ∀ (l D : List α), l.Nodup → (∀ x ∈ l, x ∈ D) → l.length ≤ D.length
  | [], _, _, _ => Nat.zero_le _
  | x :: l, D, n, h => by
    obtain ⟨n1, n2⟩ := List.nodup_cons.mp n
    obtain ⟨p, q, rfl⟩ := List.append_of_mem (h x List.mem_cons_self)
    have := len_sub l (p ++ q) n2 fun y hy => by
      have hne : y ≠ x := fun e => n1 (e ▸ hy)
      have := h y (List.mem_cons_of_mem _ hy)
      simpa [hne] using this
    simp only [List.length_append, List.length_cons] at this ⊢
    omega
/-- an empty set -/
def nu (w : World) : Obj := { cls := .type "set", dict := none, data := .set #[] 0 (.fresh 0 0 (!w.params.followText "set-order")) }
theorem is_nu {w : World} {h : Heap} {a : Addr} (e : h.get? a = some (nu w)) : Is w h a [] #[] 0 (.fresh 0 0 (!w.params.followText "set-order")) where
  obj := ⟨_, e, ⟨rfl, rfl, rfl⟩, rfl⟩
  ent := rfl
  tab := ⟨List.Pairwise.nil, rfl, rfl, .inl rfl, fun x h => (by cases h), fun i h j e => (by simp at e)⟩
  dif := List.nodup_nil
  key := fun r h => by cases h
  led := by
    show _ ∨ (!w.params.followText "set-order") = true
    cases w.params.followText "set-order"
    · exact .inr rfl
    · exact .inl rfl
  gap := by
    show 5 * 0 < 3 * 7
    decide
  few := by
    show 0 < 64
    decide
theorem Is.at {w : World} {h h' : Heap} {a : Addr} {L : List Row} {es : Array (Int × Value)} {ep : Nat} {t : SetTable} (R : Is w h a L es ep t) (e : ∀ o, h.get? a = some o → h'.get? a = some o) (k : ∀ r ∈ L, At h' r.2 r.1) : Is w h' a L es ep t := by
  obtain ⟨o, o1, o2⟩ := R.obj
  exact ⟨⟨o, e o o1, o2⟩, R.ent, R.tab, R.dif, k, R.led, R.gap, R.few⟩
section
variable {P : Program} {w : World} {A : Around} {E : Value → Shared → Prop} {s : Shared}
/-- the items, one by one -/
theorem pour {I : Addr} {fp wr : List Addr} {G : Array GenState → Array GenState → Prop} {n : Nat} {Pv : Nat → Value → Prop} {St : Nat → Shared → Prop} {R : Result → Shared → Prop}
    (W : WalksS P w A.in1 I fp wr G n Pv St) (a : Addr) (out : a ∉ fp) (xs : List Row) (D : List NestedKey) (dl : D.length < 64) (dm : ∀ r ∈ xs, r.2 ∈ D) (val : ∀ i v, Pv i v → ∃ r, xs[i]? = some r ∧ v = .ref r.1)
    (h0 : Heap) (key : ∀ r ∈ xs, At h0 r.2 r.1) (ea : h0.get? a = none) (ew : ∀ b ∈ wr, h0.get? b = none) (hu : A.in1.units + 8 < cLine) :
    ∀ (k i : Nat) (s : Shared), n - i = k → i ≤ n → St i s → (∀ b o, h0.get? b = some o → s.heap.get? b = some o) → (∃ L es ep t, Is w s.heap a L es ep t ∧ Got xs i L) →
      (∀ s' L es ep t, Moved (a :: wr) G s s' → Is w s'.heap a L es ep t → Got xs n L → (∀ b o, h0.get? b = some o → s'.heap.get? b = some o) → R (.ok (.ret .none)) s') →
      codeAny (model P w) A (.builtin "set.update.loop" ⟨[.ref a, .ref I], []⟩) R s := by
  have aw : a ∉ wr := fun z => out (W.sub _ z)
  have sub : ∀ b ∈ wr, b ∈ a :: wr := fun b => List.mem_cons_of_mem _
  have on : ∀ {s s' : Shared}, Moved wr G s s' → (∀ b o, h0.get? b = some o → s.heap.get? b = some o) → ∀ b o, h0.get? b = some o → s'.heap.get? b = some o := fun m k b o e =>
    m.heap b o (fun z => by rw [ew b z] at e; cases e) (k b o e)
  intro k
  induction k with
  | zero =>
    intro i s e1 e2 st kp ⟨L, es, ep, t, S, g⟩ fin
    obtain rfl : i = n := by omega
    refine codeAny_builtin F.entry_set_update_loop ?_
    rw [Around.under_plainId F.plain_set_update_loop _]
    show wpAny _ A.in1 (pyNext (.ref I) >>= _) _ _ s
    refine wpAny_bind (W.done s _ _ st fun s' m => wpAny_pure (fin s' L es ep t (m.mono sub) (S.at (fun o e => m.heap a o aw e) fun r hr => ?_) g (on m kp)))
    exact (key r (List.mem_of_mem_take (g.old r hr))).keep (on m kp)
  | succ k ih =>
    intro i s e1 e2 st kp ⟨L, es, ep, t, S, g⟩ fin
    have lt : i < n := by omega
    refine codeAny_builtin F.entry_set_update_loop ?_
    rw [Around.under_plainId F.plain_set_update_loop _]
    show wpAny _ A.in1 (pyNext (.ref I) >>= _) _ _ s
    refine wpAny_bind (W.item i s _ _ lt st fun v s' hv st' m => ?_)
    obtain ⟨r, hr, rfl⟩ := val i v hv
    have kp' := on m kp
    have old : ∀ u ∈ L, u ∈ xs := fun u hu => List.mem_of_mem_take (g.old u hu)
    have S' : Is w s'.heap a L es ep t := S.at (fun o e => m.heap a o aw e) fun u hu => (key u (old u hu)).keep kp'
    have rx : r ∈ xs := List.mem_of_getElem? hr
    have hx : At s'.heap r.2 r.1 := (key r rx).keep kp'
    show wpAny _ A.in1 (holding [Value.ref r.1] (setAdd a (.ref r.1)) >>= _) _ _ s'
    refine wpAny_bind (wpAny_holding ?_)
    unfold setAdd
    refine wpAny_holding (wpAny_bind ((nestedKind P w).pyHash (k := r.2) hu hx ?_))
    refine add (s := { s' with toks := s'.toks + r.2.draws }) S' hx hu (fun nm => ?_) fun b h' L' es' ep' t' sb S2 c1 c2 => ?_
    · have := len_sub (r.2 :: L.map (·.2)) D (List.nodup_cons.mpr ⟨nm, S.dif⟩) fun z hz => by
        rcases List.mem_cons.mp hz with e | hz
        · rw [e]; exact dm r rx
        · obtain ⟨u, u1, rfl⟩ := List.mem_map.mp hz
          exact dm u (old u u1)
      rw [List.length_cons, List.length_map] at this
      omega
    have g' : Got xs (i + 1) L' := by
      by_cases c : r.2 ∈ L.map (·.2)
      · rw [c1 c]
        exact g.again hr c
      · exact g.new hr (c2 c)
    have kp2 : ∀ b o, h0.get? b = some o → h'.get? b = some o := fun b o e => (sb.2 b fun z => by rw [z, ea] at e; cases e).trans (kp' b o e)
    refine wpAny_pure ⟨plainId_quiet F.plain_set_update_loop _, ih (i + 1) _ (by omega) lt (W.frame _ s' _ _ st' (Nat.le_add_right _ _) fun b hb o e => ?_) kp2 ⟨L', es', ep', t', S2, g'⟩ fun s'' L2 es2 ep2 t2 m2 S3 g3 k3 => ?_⟩
    · rw [sb.2 b fun z => out (by rw [← z]; exact hb)]
      exact e
    · refine fin s'' L2 es2 ep2 t2 (Moved.trans W.gtrans ((m.mono sub).then_heap (Nat.le_add_right _ _) fun b o hb e => ?_) m2) S3 g3 k3
      rw [sb.2 b fun z => hb (by rw [z]; exact List.mem_cons_self)]
      exact e

set_option maxRecDepth 100000 in
set_option maxHeartbeats 3200000 in
/-- set(xs) of a List: what the loop leaves -/
theorem set_list {l : Addr} {its : Array Value} (Z : Heap → Prop) {Q : Value → Shared → Prop} (calm : A.handled = none) (hl : s.heap.IsList l its)
    (loop : ∀ (A' : Around), A'.in1.units ≤ A.units + 7 → ∀ {I : Addr} {fp wr : List Addr} {G : Array GenState → Array GenState → Prop} {St : Nat → Shared → Prop} {R : Result → Shared → Prop}, WalksS P w A'.in1 I fp wr G its.size (fun i v => its[i]? = some v) St →
      s.heap.objs.size ∉ fp → (∀ b ∈ wr, s.heap.get? b = none) → ∀ s1 : Shared, St 0 s1 → (∀ b o, s.heap.get? b = some o → s1.heap.get? b = some o) → s1.heap.get? s.heap.objs.size = some (nu w) →
      (∀ s', Moved (s.heap.objs.size :: wr) G s1 s' → Z s'.heap → (∀ b o, s.heap.get? b = some o → s'.heap.get? b = some o) → R (.ok (.ret .none)) s') → codeAny (model P w) A' (.builtin "set.update.loop" ⟨[.ref s.heap.objs.size, .ref I], []⟩) R s1)
    (q : ∀ (h' : Heap) (tk : Nat), Z h' → (∀ b o, s.heap.get? b = some o → h'.get? b = some o) → Q (.ref s.heap.objs.size) { s with heap := h', toks := tk }) :
    wpAny (model P w) A (call (.type "set") [.ref l]) Q E s := by
  have f1 := F.called_set
  obtain ⟨c, tl, f2⟩ := f1.mro
  have f3 := f1.made
  have f4 := f1.sub
  refine wpAny_call (codeAny_of_tree (show wpAny _ _ (callAny (.type "set") _) _ _ _ from wpAny_pure ⟨Code.quiet_builtin _ (by decide +kernel), codeAny_builtin F.entry_type_call ?_⟩))
  rw [Around.under_plain (weight_type_call_type "set" [.ref l] []) rfl]
  have f5 := f1.notType
  have f6 := f1.canCreate
  have f7 := F.typeCall_set_1 (.ref l)
  repeat any_goals (first | assumption | wp_step)
  refine codeAny_mono (code_set_led1 (.ref l) (E := E) (Q₁ := fun v s1 => v = .ref s.heap.objs.size ∧ s1 = { s with heap := s.heap.push (nu w) }) ⟨rfl, rfl⟩) fun r s1 hr => ?_
  cases r with
  | error e => exact hr
  | ok fl =>
    cases fl with
    | ret v =>
      obtain ⟨rfl, rfl⟩ := hr
      have e1 : (s.heap.push (nu w)).get? s.heap.objs.size = some (nu w) := Heap.get?_push_size _ rfl
      have ty : Shared.TypeIs { s with heap := s.heap.push (nu w) } (.ref s.heap.objs.size) "set" := ⟨_, e1, rfl⟩
      have f8 := f1.init.lookup
      have f9 := f1.init.bind (.ref s.heap.objs.size)
      repeat any_goals (first | assumption | wp_step)
      refine codeAny_mono (codeAny_call_builtin (R := wants (fun r s2 => r = .none ∧ ∃ h' tk, s2 = { s with heap := h', toks := tk } ∧ Z h' ∧ ∀ b o, s.heap.get? b = some o → h'.get? b = some o) E)
        f1.init.plain F.entry_set_init (check_set_init_1 ty ?_)) fun r2 s2 hr2 => ?_
      · obtain ⟨⟨oc, od, ot, ox⟩, l1, l2, nl, l3⟩ := hl
        simp only at l2 l3
        subst l2
        subst l3
        have l4 : (s.heap.push (nu w)).get? l = some { cls := .type "list", dict := od, data := .seq its nl, slots := ox } := Heap.get?_push_of_some _ l1
        have n1 := F.sub_list_set
        have n2 := F.sub_list_frozenset
        have n3 : (Value.type "list" == Value.type "dict") = false := by decide
        have l5 : (s.heap.push (nu w)).IsList l its := ⟨_, l4, rfl, nl, rfl⟩
        unfold Builtin.«set.__init__» noKeywords Builtin.Frozenset.updateFrom
        generalize hPI : pyIter = PI
        wp_walk
        subst hPI
        refine wpAny_pyIter_list l5 (wpAny_bind (wpAny_runValue ?_))
        have lt : l < s.heap.objs.size := Heap.lt_size l1
        have z1 : (s.heap.push (nu w)).objs.size = s.heap.objs.size + 1 := Heap.size_push ..
        have none_of : ∀ b, s.heap.objs.size ≤ b → s.heap.get? b = none := fun b hb => by
          cases q : s.heap.get? b with
          | none => rfl
          | some o => exact absurd (Heap.lt_size q) (Nat.not_lt.mpr hb)
        have e2 : ((s.heap.push (nu w)).push { cls := .type "list_iterator", data := .fields #[.ref l, .int 0 0] }).get? s.heap.objs.size = some (nu w) := Heap.get?_push_of_some _ e1
        have ne : l ≠ (s.heap.push (nu w)).objs.size := by rw [z1]; exact Nat.ne_of_lt (Nat.lt_succ_of_lt lt)
        have fo : s.heap.objs.size ∉ [(s.heap.push (nu w)).objs.size, l] := by
          rw [z1]
          simp only [List.mem_cons, List.not_mem_nil, or_false, not_or]
          exact ⟨Nat.ne_of_lt (Nat.lt_succ_self _), Nat.ne_of_gt lt⟩
        have cm : A.in1.in1.in1.handled = none := by simp [calm]
        refine loop _ (by simp only [Around.in1_units]; omega) ((Walks.list cm _ l ne its).toS) fo (fun b hb => none_of b (by rw [List.mem_singleton.mp hb, z1]; exact Nat.le_succ _)) _
          ⟨⟨_, Heap.get?_push_size _ rfl, rfl, rfl⟩, l5.push _⟩ (fun b o e => Heap.get?_push_of_some _ (Heap.get?_push_of_some _ e)) e2 fun s' m z k => ?_
        obtain ⟨h', g2, d', tk', os'⟩ := s'
        obtain rfl : g2 = s.gens := m.gens
        obtain rfl : d' = s.drawn := m.drawn
        obtain rfl : os' = s.os := m.os
        exact wpAny_pure (wpAny_pure ⟨rfl, h', tk', rfl, z, k⟩)
      · cases r2 with
        | error e => exact hr2
        | ok f =>
          cases f with
          | ret r =>
            obtain ⟨rfl, h', tk, rfl, z, k⟩ := hr2
            repeat any_goals (first | assumption | wp_step)
            exact q _ _ z k
          | _ => exact hr2.elim
    | _ => exact hr.elim

set_option maxRecDepth 100000 in
set_option maxHeartbeats 3200000 in
/-- set(xs) of a Tuple: what the loop leaves -/
theorem set_tuple {l : Addr} {its : Array Value} (Z : Heap → Prop) {Q : Value → Shared → Prop} (calm : A.handled = none) (hl : s.heap.IsTuple l its)
    (loop : ∀ (A' : Around), A'.in1.units ≤ A.units + 7 → ∀ {I : Addr} {fp wr : List Addr} {G : Array GenState → Array GenState → Prop} {St : Nat → Shared → Prop} {R : Result → Shared → Prop}, WalksS P w A'.in1 I fp wr G its.size (fun i v => its[i]? = some v) St →
      s.heap.objs.size ∉ fp → (∀ b ∈ wr, s.heap.get? b = none) → ∀ s1 : Shared, St 0 s1 → (∀ b o, s.heap.get? b = some o → s1.heap.get? b = some o) → s1.heap.get? s.heap.objs.size = some (nu w) →
      (∀ s', Moved (s.heap.objs.size :: wr) G s1 s' → Z s'.heap → (∀ b o, s.heap.get? b = some o → s'.heap.get? b = some o) → R (.ok (.ret .none)) s') → codeAny (model P w) A' (.builtin "set.update.loop" ⟨[.ref s.heap.objs.size, .ref I], []⟩) R s1)
    (q : ∀ (h' : Heap) (tk : Nat), Z h' → (∀ b o, s.heap.get? b = some o → h'.get? b = some o) → Q (.ref s.heap.objs.size) { s with heap := h', toks := tk }) :
    wpAny (model P w) A (call (.type "set") [.ref l]) Q E s := by
  have f1 := F.called_set
  obtain ⟨c, tl, f2⟩ := f1.mro
  have f3 := f1.made
  have f4 := f1.sub
  refine wpAny_call (codeAny_of_tree (show wpAny _ _ (callAny (.type "set") _) _ _ _ from wpAny_pure ⟨Code.quiet_builtin _ (by decide +kernel), codeAny_builtin F.entry_type_call ?_⟩))
  rw [Around.under_plain (weight_type_call_type "set" [.ref l] []) rfl]
  have f5 := f1.notType
  have f6 := f1.canCreate
  have f7 := F.typeCall_set_1 (.ref l)
  repeat any_goals (first | assumption | wp_step)
  refine codeAny_mono (code_set_led1 (.ref l) (E := E) (Q₁ := fun v s1 => v = .ref s.heap.objs.size ∧ s1 = { s with heap := s.heap.push (nu w) }) ⟨rfl, rfl⟩) fun r s1 hr => ?_
  cases r with
  | error e => exact hr
  | ok fl =>
    cases fl with
    | ret v =>
      obtain ⟨rfl, rfl⟩ := hr
      have e1 : (s.heap.push (nu w)).get? s.heap.objs.size = some (nu w) := Heap.get?_push_size _ rfl
      have ty : Shared.TypeIs { s with heap := s.heap.push (nu w) } (.ref s.heap.objs.size) "set" := ⟨_, e1, rfl⟩
      have f8 := f1.init.lookup
      have f9 := f1.init.bind (.ref s.heap.objs.size)
      repeat any_goals (first | assumption | wp_step)
      refine codeAny_mono (codeAny_call_builtin (R := wants (fun r s2 => r = .none ∧ ∃ h' tk, s2 = { s with heap := h', toks := tk } ∧ Z h' ∧ ∀ b o, s.heap.get? b = some o → h'.get? b = some o) E)
        f1.init.plain F.entry_set_init (check_set_init_1 ty ?_)) fun r2 s2 hr2 => ?_
      · obtain ⟨⟨oc, od, ot, ox⟩, l1, l2, nl, l3⟩ := hl
        simp only at l2 l3
        subst l2
        subst l3
        have l4 : (s.heap.push (nu w)).get? l = some { cls := .type "tuple", dict := od, data := .seq its nl, slots := ox } := Heap.get?_push_of_some _ l1
        have n1 := F.sub_tuple_set
        have n2 := F.sub_tuple_frozenset
        have n3 : (Value.type "tuple" == Value.type "dict") = false := by decide
        have l5 : (s.heap.push (nu w)).IsTuple l its := ⟨_, l4, rfl, nl, rfl⟩
        unfold Builtin.«set.__init__» noKeywords Builtin.Frozenset.updateFrom
        generalize hPI : pyIter = PI
        wp_walk
        subst hPI
        refine wpAny_pyIter_tuple l5 (wpAny_bind (wpAny_runValue ?_))
        have lt : l < s.heap.objs.size := Heap.lt_size l1
        have z1 : (s.heap.push (nu w)).objs.size = s.heap.objs.size + 1 := Heap.size_push ..
        have none_of : ∀ b, s.heap.objs.size ≤ b → s.heap.get? b = none := fun b hb => by
          cases q : s.heap.get? b with
          | none => rfl
          | some o => exact absurd (Heap.lt_size q) (Nat.not_lt.mpr hb)
        have e2 : ((s.heap.push (nu w)).push { cls := .type "tuple_iterator", data := .fields #[.ref l, .int 0 0] }).get? s.heap.objs.size = some (nu w) := Heap.get?_push_of_some _ e1
        have ne : l ≠ (s.heap.push (nu w)).objs.size := by rw [z1]; exact Nat.ne_of_lt (Nat.lt_succ_of_lt lt)
        have fo : s.heap.objs.size ∉ [(s.heap.push (nu w)).objs.size, l] := by
          rw [z1]
          simp only [List.mem_cons, List.not_mem_nil, or_false, not_or]
          exact ⟨Nat.ne_of_lt (Nat.lt_succ_self _), Nat.ne_of_gt lt⟩
        have cm : A.in1.in1.in1.handled = none := by simp [calm]
        refine loop _ (by simp only [Around.in1_units]; omega) ((Walks.tuple cm _ l ne its).toS) fo (fun b hb => none_of b (by rw [List.mem_singleton.mp hb, z1]; exact Nat.le_succ _)) _
          ⟨⟨_, Heap.get?_push_size _ rfl, rfl, rfl⟩, l5.push _⟩ (fun b o e => Heap.get?_push_of_some _ (Heap.get?_push_of_some _ e)) e2 fun s' m z k => ?_
        obtain ⟨h', g2, d', tk', os'⟩ := s'
        obtain rfl : g2 = s.gens := m.gens
        obtain rfl : d' = s.drawn := m.drawn
        obtain rfl : os' = s.os := m.os
        exact wpAny_pure (wpAny_pure ⟨rfl, h', tk', rfl, z, k⟩)
      · cases r2 with
        | error e => exact hr2
        | ok f =>
          cases f with
          | ret r =>
            obtain ⟨rfl, h', tk, rfl, z, k⟩ := hr2
            repeat any_goals (first | assumption | wp_step)
            exact q _ _ z k
          | _ => exact hr2.elim
    | _ => exact hr.elim

/-- the loop over rows -/
theorem pour0 {its : Array Value} (xs : List Row) (D : List NestedKey) (dl : D.length < 64) (dm : ∀ r ∈ xs, r.2 ∈ D) (hi : its.toList = xs.map fun r => Value.ref r.1) (key : ∀ r ∈ xs, At s.heap r.2 r.1) (hu : A.units + 16 < cLine) (A' : Around) (hA : A'.in1.units ≤ A.units + 7)
    {I : Addr} {fp wr : List Addr} {G : Array GenState → Array GenState → Prop} {St : Nat → Shared → Prop} {R : Result → Shared → Prop} (W : WalksS P w A'.in1 I fp wr G its.size (fun i v => its[i]? = some v) St)
    (out : s.heap.objs.size ∉ fp) (ew : ∀ b ∈ wr, s.heap.get? b = none) (s1 : Shared) (st : St 0 s1) (kp : ∀ b o, s.heap.get? b = some o → s1.heap.get? b = some o) (e : s1.heap.get? s.heap.objs.size = some (nu w))
    (fin : ∀ s', Moved (s.heap.objs.size :: wr) G s1 s' → (∃ L es ep t, Is w s'.heap s.heap.objs.size L es ep t ∧ Got xs xs.length L) → (∀ b o, s.heap.get? b = some o → s'.heap.get? b = some o) → R (.ok (.ret .none)) s') :
    codeAny (model P w) A' (.builtin "set.update.loop" ⟨[.ref s.heap.objs.size, .ref I], []⟩) R s1 := by
  have sz : its.size = xs.length := by rw [← Array.length_toList, hi, List.length_map]
  have val : ∀ (i : Nat) (v : Value), its[i]? = some v → ∃ r, xs[i]? = some r ∧ v = .ref r.1 := fun i v hv => by
    rw [← Array.getElem?_toList, hi, List.getElem?_map] at hv
    cases hq : xs[i]? with
    | none => rw [hq] at hv; cases hv
    | some r =>
      rw [hq] at hv
      exact ⟨r, rfl, (Option.some.inj hv).symm⟩
  have na : s.heap.get? s.heap.objs.size = none := by
    cases q : s.heap.get? s.heap.objs.size with
    | none => rfl
    | some o => exact absurd (Heap.lt_size q) (Nat.lt_irrefl _)
  refine pour W s.heap.objs.size out xs D dl dm val s.heap key na ew (by omega) (its.size - 0) 0 s1 rfl (Nat.zero_le _) st kp ⟨[], #[], 0, _, is_nu e, Got.nil xs⟩ fun s' L es ep t m S g k => fin s' m ⟨L, es, ep, t, S, ?_⟩ k
  rw [← sz]
  exact g
/-- the loop over numbers -/
theorem pourI {its : Array Value} (ns : List Int) (hb : ns.length + 1 < scanBound) (hi : PyProof.Rows.IntsAre its.toList ns) (A' : Around) {I : Addr} {fp wr : List Addr} {G : Array GenState → Array GenState → Prop} {St : Nat → Shared → Prop} {R : Result → Shared → Prop}
    (W : WalksS P w A'.in1 I fp wr G its.size (fun i v => its[i]? = some v) St) (out : s.heap.objs.size ∉ fp) (ew : ∀ b ∈ wr, s.heap.get? b = none) (s1 : Shared) (st : St 0 s1) (kp : ∀ b o, s.heap.get? b = some o → s1.heap.get? b = some o)
    (e : s1.heap.get? s.heap.objs.size = some (nu w))
    (fin : ∀ s', Moved (s.heap.objs.size :: wr) G s1 s' → (∃ c, SetR w s'.heap s.heap.objs.size (fun j => decide (j ∈ ns)) c ∧ c ≤ ns.length) → (∀ b o, s.heap.get? b = some o → s'.heap.get? b = some o) → R (.ok (.ret .none)) s') :
    codeAny (model P w) A' (.builtin "set.update.loop" ⟨[.ref s.heap.objs.size, .ref I], []⟩) R s1 := by
  have sz : its.size = ns.length := by rw [← Array.length_toList, PyProof.Rows.IntsAre.length hi]
  have val : ∀ (i : Nat) (v : Value), its[i]? = some v → ∃ k t, ns[i]? = some k ∧ v = .int k t := fun i v hv => by
    have lt : i < ns.length := by rw [← sz]; exact (Array.getElem?_eq_some_iff.mp hv).1
    obtain ⟨t, e⟩ := PyProof.Rows.IntsAre.int_at hi i v (by rw [Array.getElem?_toList]; exact hv)
    refine ⟨ns[i], t, List.getElem?_eq_getElem lt, ?_⟩
    rw [e, List.getD_eq_getElem?_getD, List.getElem?_eq_getElem lt]
    rfl
  refine set_update_ints W s.heap.objs.size out ns sz hb val (its.size - 0) 0 s1 rfl (Nat.zero_le _) st ⟨0, Nat.le_refl 0, setR_new_at e⟩ fun s' c m hc S => fin s' m ⟨c, S, by rw [← sz]; exact hc⟩ fun b o eb => ?_
  refine m.heap b o (fun z => ?_) (kp b o eb)
  rcases List.mem_cons.mp z with z | z
  · rw [z] at eb
    exact absurd (Heap.lt_size eb) (Nat.lt_irrefl _)
  · rw [ew b z] at eb
    cases eb
end
end SN
set_option Elab.async false
set_option linter.all false
set_option maxRecDepth 100000
set_option maxHeartbeats 1000000
/-! RdSf: set(xs), sorted(set), len(set), sorted(list) over data, as rules by values. -/
namespace RD
open PySem L2
mutual
theorem key_data : ∀ d : PyData, plainK d = true → (keyK d).data = d
  | .none, _ => rfl
  | .int _, _ => rfl
  | .str _, _ => rfl
  | .tuple ds, h => by
    rw [keyK, NestedKey.data, keys_data ds (by simpa [plainK] using h)]
  | .bool _, h => by simp [plainK] at h
  | .list _, h => by simp [plainK] at h
  | .dict _, h => by simp [plainK] at h
theorem keys_data : ∀ ds : List PyData, plainKs ds = true → NestedKey.datas (keyKs ds) = ds
  | [], _ => rfl
  | d :: r, h => by
    rw [plainKs, Bool.and_eq_true] at h
    rw [keyKs, NestedKey.datas, key_data d h.1, keys_data r h.2]
end
theorem key_inj {d e : PyData} (hd : plainK d = true) (he : plainK e = true) (h : keyK d = keyK e) : d = e := by
  rw [← key_data d hd, h, key_data e he]
mutual
theorem key_is {h : Heap} : ∀ (d : PyData) (v : Value) (as : List Addr), plainK d = true → Reads h v d as → NestedIs h (keyK d) v
  | .none, _, _, _, r => by cases r; exact .none
  | .int i, _, _, _, r => by cases r; exact .int _ _
  | .str x, _, _, _, r => by cases r; exact .text _ _
  | .tuple ds, _, _, p, r => by
    cases r with
    | tuple h1 h2 h3 h4 => exact .tup h1 h2 h3 (keys_is ds _ _ (by simpa [plainK] using p) h4)
  | .bool _, _, _, p, _ => by simp [plainK] at p
  | .list _, _, _, p, _ => by simp [plainK] at p
  | .dict _, _, _, p, _ => by simp [plainK] at p
theorem keys_is {h : Heap} : ∀ (ds : List PyData) (vs : List Value) (as : List Addr), plainKs ds = true → ReadsAll h vs ds as → NestedAll h (keyKs ds) vs
  | [], _, _, _, r => by cases r; exact .nil
  | d :: ds, _, _, p, r => by
    rw [plainKs, Bool.and_eq_true] at p
    cases r with
    | cons h1 h2 => exact .cons (key_is d _ _ p.1 h1) (keys_is ds _ _ p.2 h2)
end
theorem alikeB_all {ds : List PyData} (h : alikeB ds = true) : PySem.W.AllAlike ds := fun x hx y hy => List.all_eq_true.mp (List.all_eq_true.mp h x hx) y hy
theorem ints_eq : ∀ {ds : List PyData}, ds.all isIntD = true → ∃ ns : List Int, ds = ns.map PyData.int
  | [], _ => ⟨[], rfl⟩
  | d :: ds, h => by
    rw [List.all_cons, Bool.and_eq_true] at h
    obtain ⟨ns, rfl⟩ := ints_eq h.2
    cases d with
    | int i => exact ⟨i :: ns, rfl⟩
    | _ => cases h.1
theorem ints_alike (ns : List Int) : PySem.W.AllAlike (ns.map PyData.int) := fun x hx y hy => by
  obtain ⟨i, _, rfl⟩ := List.mem_map.mp hx
  obtain ⟨j, _, rfl⟩ := List.mem_map.mp hy
  rfl
theorem int_lt (i j : Int) : PySem.W.dataLt (.int i) (.int j) = decide (i < j) := PySem.W.dataLt_int i j
theorem uniq_ints {ns ms : List Int} (u : ms.Pairwise (· < ·)) (m : ∀ k, k ∈ ms ↔ k ∈ ns) : uniqD (ns.map PyData.int) = ms.map PyData.int := by
  refine uniq_eq (ints_alike ns) ?_ fun z => ?_
  · refine List.pairwise_map.mpr (u.imp fun {a b} h => ?_)
    rw [int_lt]
    exact decide_eq_true h
  · constructor
    · intro h
      obtain ⟨k, hk, rfl⟩ := List.mem_map.mp h
      exact List.mem_map_of_mem ((m k).mp hk)
    · intro h
      obtain ⟨k, hk, rfl⟩ := List.mem_map.mp h
      exact List.mem_map_of_mem ((m k).mpr hk)
/-! ### the set's object -/
def SetU (w : World) (a : Addr) (L : List SN.Row) : HO := .ext fun h => ∃ es ep t, (∃ o, h.get? a = some o ∧ o.ExactSet ∧ o.data = .set es ep t) ∧ es.toList = SN.rows w L ∧ TabOk t (L.map fun r => r.2.hash w) ∧ (L.map (·.2)).Nodup ∧
  (w.params.followText "set-order" = true ∨ t.led = true) ∧ 5 * L.length < 3 * t.mask ∧ L.length < 64
theorem setU_new {P : Program} {w : World} {H : Hp} {h : Heap} {a : Addr} {L : List SN.Row} {es : Array (Int × Value)} {ep : Nat} {t : SetTable} (R : SN.Is w h a L es ep t) : ObjOk P w H h a (SetU w a L) := by
  obtain ⟨o, o1, o2⟩ := R.obj
  refine ⟨⟨es, ep, t, ⟨o, o1, o2⟩, R.ent, R.tab, R.dif, R.led, R.gap, R.few⟩, ⟨o, o1⟩, fun h1 h2 p k => ?_⟩
  obtain ⟨es', ep', t', ⟨o', q1, q2⟩, q⟩ := p
  exact ⟨es', ep', t', ⟨o', k o' q1, q2⟩, q⟩
/-- how a set of data stands: D tells how the items stand -/
def SetIs (w : World) (D : V → PyData → Prop) (ds : List PyData) (p : Addr) (o : HO) : Prop :=
  (∃ (ns : List Int) (c : Nat), ds = ns.map PyData.int ∧ ns.length < 64 ∧ o = SetO w p (fun j => decide (j ∈ ns)) c ∧ c ≤ ns.length) ∨
  ∃ L, o = SetU w p L ∧ ds.all isTupD = true ∧ ds.all nestB = true ∧ alikeB ds = true ∧ (∀ r ∈ L, ∃ d ∈ ds, r.2 = keyK d ∧ D (.ref r.1) d) ∧ ∀ d ∈ ds, keyK d ∈ L.map (·.2)
section
variable {X : Cx} {pins : List (Addr × Obj)} {σ : L2.St} {H : Hp} {s : Shared}
theorem dp_at (I : Inv X pins σ H s) {a : Addr} {d : PyData} (dp : Dp X.K H (.ref a) d) (n : nestB d = true) : SN.At s.heap (keyK d) a := by
  unfold nestB at n
  rw [Bool.and_eq_true, Bool.and_eq_true] at n
  obtain ⟨as, r⟩ := Dp.reads I d _ (.ref a) dp rfl
  exact ⟨key_is d _ as n.1.1 r, of_decide_eq_true n.2⟩
/-- set(xs) -/
def rSetA (K : PySem.W.Frag) (w : World) : List V → Hp → VK → Prop := fun vs H Q => ∃ (a : Addr) (ys : List V) (ds : List PyData) (D : V → PyData → Prop), vs = [.ref a] ∧ (SqL K H a ys ∨ SqT K H a ys) ∧ (∀ v d, D v d → Dp K H v d) ∧ Paired D ys ds ∧ setOk ds = true ∧
  ∀ p o, H p = none → SetIs w D ds p o → Q (.ref p) (upd H p o)
theorem refs_rows {H : Hp} {K : PySem.W.Frag} {D : V → PyData → Prop} (hD : ∀ v d, D v d → Dp K H v d) : ∀ {ys : List V} {ds : List PyData}, Paired D ys ds → ds.all isTupD = true → ∃ L : List SN.Row, ys = L.map (fun r => V.ref r.1) ∧ (∀ r ∈ L, ∃ d ∈ ds, r.2 = keyK d ∧ D (.ref r.1) d) ∧ ∀ d ∈ ds, ∃ r ∈ L, r.2 = keyK d
  | _, _, .nil, _ => ⟨[], rfl, fun r h => (by cases h), fun d h => (by cases h)⟩
  | _, _, .cons (a := y) (b := d) h t, e => by
    rw [List.all_cons, Bool.and_eq_true] at e
    obtain ⟨L, e1, e2, e3⟩ := refs_rows hD t e.2
    have dp := hD _ _ h
    cases d with
    | tuple xs =>
      cases dp with
      | @tup a _ _ q1 q2 =>
        refine ⟨(a, keyK (.tuple xs)) :: L, by rw [e1]; rfl, fun r hr => ?_, fun d hd => ?_⟩
        · rcases List.mem_cons.mp hr with rfl | hr
          · exact ⟨_, List.mem_cons_self, rfl, h⟩
          · obtain ⟨d, d1, d2⟩ := e2 r hr
            exact ⟨d, List.mem_cons_of_mem _ d1, d2⟩
        · rcases List.mem_cons.mp hd with rfl | hd
          · exact ⟨_, List.mem_cons_self, rfl⟩
          · obtain ⟨r, r1, r2⟩ := e3 d hd
            exact ⟨r, List.mem_cons_of_mem _ r1, r2⟩
    | _ => exact absurd e.1 (by simp [isTupD])
theorem ints_vals {H : Hp} {K : PySem.W.Frag} {D : V → PyData → Prop} (hD : ∀ v d, D v d → Dp K H v d) : ∀ {ys : List V} (ns : List Int), Paired D ys (ns.map PyData.int) → ys = ns.map V.int
  | _, [], .nil => rfl
  | _, n :: ns, .cons h t => by
    have dp := hD _ _ h
    cases dp
    rw [ints_vals hD ns t]
    rfl
theorem cr_setA (hc : X.calm = true) (hu : X.A.units + 64 < cLine) : CallR X (.type "set") (rSetA X.K X.w) := by
  intro pins s σ H vs us Q I r h
  obtain ⟨a, ys, ds, D, rfl, hq, hD, hp, ok, q⟩ := h
  rw [Vals.ref1 r]
  have hn : H s.heap.objs.size = none := I.hok.fresh (Nat.le_refl _)
  have cm := I.ok.hd hc
  have list_or : ∃ its : List Value, Vals ys its ∧ (s.heap.IsList a its.toArray ∨ s.heap.IsTuple a its.toArray) := by
    rcases hq with hq | hq
    · obtain ⟨its, rv, pl, _⟩ := I.list hq
      exact ⟨its, rv, .inl pl.isList⟩
    · obtain ⟨its, rv, pl, _⟩ := I.tuple hq
      exact ⟨its, rv, .inr pl⟩
  obtain ⟨its, rv, hl⟩ := list_or
  unfold setOk at ok
  rw [Bool.or_eq_true] at ok
  rcases ok with ok | ok
  · rw [Bool.and_eq_true] at ok
    obtain ⟨ns, rfl⟩ := ints_eq ok.1
    have few : ns.length < 64 := by
      have := of_decide_eq_true ok.2
      rwa [List.length_map] at this
    have ey := ints_vals hD ns hp
    subst ey
    have fin : ∀ (h' : Heap) (tk : Nat), (∃ c, SetR X.w h' s.heap.objs.size (fun j => decide (j ∈ ns)) c ∧ c ≤ ns.length) → (∀ b o, s.heap.get? b = some o → h'.get? b = some o) →
        EP X pins σ Q (.ref s.heap.objs.size) { s with heap := h', toks := tk } := fun h' tk ⟨c, R, le⟩ k =>
      ⟨.ref s.heap.objs.size, upd H s.heap.objs.size (SetO X.w s.heap.objs.size (fun j => decide (j ∈ ns)) c), I.laid (t' := tk) k (Nat.le_refl _) (setO_new R), rfl, q _ _ hn (.inl ⟨ns, c, rfl, few, rfl, le⟩)⟩
    have hi : PyProof.Rows.IntsAre its.toArray.toList ns := by simpa using rv.ints
    rcases hl with hl | hl
    · exact SN.set_list (P := X.prog) (w := X.w) (fun h' => ∃ c, SetR X.w h' s.heap.objs.size (fun j => decide (j ∈ ns)) c ∧ c ≤ ns.length) cm hl (fun A' _ I fp wr G St R W o1 o2 s1 st kp e f => SN.pourI ns (by unfold scanBound; omega) hi A' W o1 o2 s1 st kp e f) fin
    · exact SN.set_tuple (P := X.prog) (w := X.w) (fun h' => ∃ c, SetR X.w h' s.heap.objs.size (fun j => decide (j ∈ ns)) c ∧ c ≤ ns.length) cm hl (fun A' _ I fp wr G St R W o1 o2 s1 st kp e f => SN.pourI ns (by unfold scanBound; omega) hi A' W o1 o2 s1 st kp e f) fin
  · rw [Bool.and_eq_true, Bool.and_eq_true, Bool.and_eq_true] at ok
    obtain ⟨⟨⟨k1, k2⟩, k3⟩, k4⟩ := ok
    have nest := List.all_eq_true.mp k2
    have pl : ∀ d ∈ ds, plainK d = true := fun d hd => by
      have := nest d hd
      unfold nestB at this
      rw [Bool.and_eq_true, Bool.and_eq_true] at this
      exact this.1.1
    obtain ⟨L0, ey, b1, b2⟩ := refs_rows hD hp k1
    subst ey
    have hi : its.toArray.toList = L0.map fun r => Value.ref r.1 := by
      have : ∀ {L : List SN.Row} {us : List Value}, Vals (L.map fun r => V.ref r.1) us → us = L.map fun r => Value.ref r.1 := by
        intro L
        induction L with
        | nil => intro us h; cases h; rfl
        | cons r L ih => intro us h; cases h with | cons h t => rw [ih t]; cases h; rfl
      simpa using this rv
    have key : ∀ r ∈ L0, SN.At s.heap r.2 r.1 := fun r hr => by
      obtain ⟨d, d1, d2, d3⟩ := b1 r hr
      rw [d2]
      exact dp_at I (hD _ _ d3) (nest d d1)
    have dm : ∀ r ∈ L0, r.2 ∈ (uniqD ds).map keyK := fun r hr => by
      obtain ⟨d, d1, d2, _⟩ := b1 r hr
      rw [d2]
      exact List.mem_map_of_mem ((uniq_mem (alikeB_all k3) d).mpr d1)
    have dl : ((uniqD ds).map keyK).length < 64 := by rw [List.length_map]; exact of_decide_eq_true k4
    have fin : ∀ (h' : Heap) (tk : Nat), (∃ L es ep t, SN.Is X.w h' s.heap.objs.size L es ep t ∧ SN.Got L0 L0.length L) → (∀ b o, s.heap.get? b = some o → h'.get? b = some o) →
        EP X pins σ Q (.ref s.heap.objs.size) { s with heap := h', toks := tk } := fun h' tk ⟨L, es, ep, t, R, g⟩ k => by
      have gt : ∀ r, r ∈ L0.take L0.length ↔ r ∈ L0 := fun r => by rw [List.take_length]
      refine ⟨.ref s.heap.objs.size, upd H s.heap.objs.size (SetU X.w s.heap.objs.size L), I.laid (t' := tk) k (Nat.le_refl _) (setU_new R), rfl, q _ _ hn (.inr ⟨L, rfl, k1, k2, k3, fun r hr => b1 r ((gt r).mp (g.old r hr)), fun d hd => ?_⟩)⟩
      obtain ⟨r, r1, r2⟩ := b2 d hd
      rw [← r2]
      exact g.met r ((gt r).mpr r1)
    have room : X.A.units + 16 < cLine := by omega
    rcases hl with hl | hl
    · exact SN.set_list (P := X.prog) (w := X.w) (fun h' => ∃ L es ep t, SN.Is X.w h' s.heap.objs.size L es ep t ∧ SN.Got L0 L0.length L) cm hl (fun A' hA I fp wr G St R W o1 o2 s1 st kp e f => SN.pour0 L0 _ dl dm hi key room A' hA W o1 o2 s1 st kp e f) fin
    · exact SN.set_tuple (P := X.prog) (w := X.w) (fun h' => ∃ L es ep t, SN.Is X.w h' s.heap.objs.size L es ep t ∧ SN.Got L0 L0.length L) cm hl (fun A' hA I fp wr G St R W o1 o2 s1 st kp e f => SN.pour0 L0 _ dl dm hi key room A' hA W o1 o2 s1 st kp e f) fin

/-! ### sorted -/
end
mutual
theorem plain_data : ∀ k : NestedKey, plainK k.data = true
  | .none => rfl
  | .num _ => rfl
  | .text _ => rfl
  | .tup ks => by rw [NestedKey.data, plainK]; exact plain_datas ks
theorem plain_datas : ∀ ks : List NestedKey, plainKs (NestedKey.datas ks) = true
  | [] => rfl
  | k :: ks => by rw [NestedKey.datas, plainKs, plain_data k, plain_datas ks]; rfl
end
mutual
theorem no_adrs {h : Heap} : ∀ (d : PyData) (v : Value) (as : List Addr), plainK d = true → Reads h v d as → as = []
  | .none, _, _, _, r => by cases r; rfl
  | .int _, _, _, _, r => by cases r; rfl
  | .str _, _, _, _, r => by cases r; rfl
  | .tuple ds, _, _, p, r => by
    cases r with
    | tuple _ _ _ h4 => exact no_adrs_all ds _ _ (by simpa [plainK] using p) h4
  | .bool _, _, _, p, _ => by simp [plainK] at p
  | .list _, _, _, p, _ => by simp [plainK] at p
  | .dict _, _, _, p, _ => by simp [plainK] at p
theorem no_adrs_all {h : Heap} : ∀ (ds : List PyData) (vs : List Value) (as : List Addr), plainKs ds = true → ReadsAll h vs ds as → as = []
  | [], _, _, _, r => by cases r; rfl
  | d :: ds, _, _, p, r => by
    rw [plainKs, Bool.and_eq_true] at p
    cases r with
    | cons h1 h2 => rw [no_adrs d _ _ p.1 h1, no_adrs_all ds _ _ p.2 h2]; rfl
end
section
open PySem.Spec PyProof.Rows
variable {X : Cx} {pins : List (Addr × Obj)} {σ : L2.St} {H : Hp} {s : Shared}
theorem setU_full (I : Inv X pins σ H s) {D : V → PyData → Prop} (hD : ∀ v d, D v d → Dp X.K H v d) {a : Addr} {L : List SN.Row} {ds : List PyData} (ha : H a = some (SetU X.w a L)) (n : ds.all nestB = true) (b : ∀ r ∈ L, ∃ d ∈ ds, r.2 = keyK d ∧ D (.ref r.1) d) :
    ∃ es ep t, SN.Is X.w s.heap a L es ep t := by
  obtain ⟨es, ep, t, h1, h2, h3, h4, h5, h6, h7⟩ := (I.hok a _ ha).1
  refine ⟨es, ep, t, h1, h2, h3, h4, fun r hr => ?_, h5, h6, h7⟩
  obtain ⟨d, d1, d2, d3⟩ := b r hr
  rw [d2]
  exact dp_at I (hD _ _ d3) (List.all_eq_true.mp n d d1)
/-- a list of rows put in order by their data -/
theorem sort_rows {prog : Program} {w : World} {A : Around} {E : Value → Shared → Prop} {s : Shared} {a : Addr} {L : List SN.Row} {es : Array (Int × Value)} {ep : Nat} {t : SetTable} {Q : Value → Shared → Prop} (R : SN.Is w s.heap a L es ep t) (calm : A.handled = none)
    (rd : ∀ r ∈ L, ∃ as, Reads s.heap (.ref r.1) r.2.data as) (hal : PySem.W.AllAlike (L.map fun r => r.2.data)) (hk : PySem.W.Sortable (L.map fun r => r.2.data)) (hu : ∀ r ∈ L, A.units + 4 + r.2.data.depth < cLine)
    (q : ∀ s' p (out : Array Value) (c : Nat) (M : List SN.Row), (∀ b o, s.heap.get? b = some o → s'.heap.get? b = some o) → s'.gens = s.gens → s'.os = s.os → s.heap.objs.size ≤ p → s'.heap.get? p = some (seqObj "list" out c) → out.toList = M.map (fun r => Value.ref r.1) → M.Perm L →
      M.Pairwise (fun r u => PySem.W.dataLt u.2.data r.2.data = false) → Q (.ref p) s') : wpAny (model prog w) A (call (.builtin "sorted") [.ref a]) Q E s := by
  obtain ⟨o, o1, o2, o3⟩ := R.obj
  have sz := SN.size_of R.ent
  have few := R.few
  refine Calls.call_function_entry kind_sorted plain_sorted entry_sorted (args_sorted1 _) ?_
  unfold Builtin.«sorted»
  refine wpAny_bind (m := checkCount "sorted" 1 1 _) (wpAny_pure (wpAny_bind (collect_set (A := A.in1) calm ⟨o, o1, o2.1, o3⟩ R.fits (by unfold scanBound; omega) R.tab.ris R.led fun s1 vs k1 z1 g1 w1 pm => ?_)))
  have ev : es.toList.map (·.2) = L.map fun r => Value.ref r.1 := by
    rw [R.ent, SN.rows, List.map_map]
    rfl
  rw [ev] at pm
  obtain ⟨M, rfl, pL⟩ : ∃ M : List SN.Row, vs = M.map (fun r => Value.ref r.1) ∧ M.Perm L := by
    have back : ∀ vs : List Value, (∀ v ∈ vs, ∃ r ∈ L, v = Value.ref r.1) → ∃ M : List SN.Row, vs = M.map (fun r => Value.ref r.1) ∧ ∀ r ∈ M, r ∈ L := by
      intro vs
      induction vs with
      | nil => exact fun _ => ⟨[], rfl, fun r h => (by cases h)⟩
      | cons v vs ih =>
        intro h
        obtain ⟨r, r1, r2⟩ := h v List.mem_cons_self
        obtain ⟨M, m1, m2⟩ := ih fun u hu => h u (List.mem_cons_of_mem _ hu)
        refine ⟨r :: M, by rw [m1, r2]; rfl, fun u hu => ?_⟩
        rcases List.mem_cons.mp hu with rfl | hu
        · exact r1
        · exact m2 u hu
    obtain ⟨M, m1, m2⟩ := back vs fun v hv => by
      obtain ⟨r, r1, r2⟩ := List.mem_map.mp (pm.mem_iff.mp hv)
      exact ⟨r, r1, r2.symm⟩
    refine ⟨M, m1, ?_⟩
    rw [m1] at pm
    have dL : (L.map fun r => Value.ref r.1).Nodup := by
      have n2 : L.Nodup := nodup_of_map R.dif
      refine List.pairwise_map.mpr (List.Pairwise.imp_of_mem (fun {r u} hr hu2 ne e => ne ?_) n2)
      injection e with e
      have k1 := R.key r hr
      rw [e] at k1
      exact Prod.ext e (k1.one (R.key u hu2))
    have dM : (M.map fun r => Value.ref r.1).Nodup := pm.nodup_iff.mpr dL
    refine (List.perm_ext_iff_of_nodup (nodup_of_map dM) (nodup_of_map R.dif)).mpr fun r => ⟨m2 r, fun hr => ?_⟩
    obtain ⟨u, u1, u2⟩ := List.mem_map.mp (pm.mem_iff.mpr (List.mem_map_of_mem (f := fun r : SN.Row => Value.ref r.1) hr))
    injection u2 with u2
    have k1 := R.key u (m2 u u1)
    rw [u2] at k1
    have e2 : u = r := Prod.ext u2 (k1.one (R.key r hr))
    rw [← e2]
    exact u1
  have few2 : M.length < 64 := by rw [pL.length_eq]; exact few
  refine wpAny_bind (wpAny_newList ?_ (by rw [List.length_map, sizeLine_eq]; omega))
  have ho : (s1.heap.push (seqObj "list" (M.map fun r => Value.ref r.1).toArray 0)).get? s1.heap.objs.size = some (seqObj "list" (M.map fun r => Value.ref r.1).toArray 0) := Heap.get?_push_size _ rfl
  have nL : ∀ b o, s.heap.get? b = some o → b ≠ s1.heap.objs.size := fun b o e => Nat.ne_of_lt (Heap.lt_size (k1 b o e))
  have rdM : PySem.W.EachIs (fun v (r : SN.Row) => v = Value.ref r.1) (M.map fun r => Value.ref r.1) M := by
    have : ∀ M : List SN.Row, PySem.W.EachIs (fun v (r : SN.Row) => v = Value.ref r.1) (M.map fun r => Value.ref r.1) M := by
      intro M
      induction M with
      | nil => exact .nil
      | cons r M ih => exact .cons rfl ih
    exact this M
  have rds : PySem.W.EachIs (fun v (r : SN.Row) => ∃ as, Reads (s1.heap.push (seqObj "list" (M.map fun r => Value.ref r.1).toArray 0)) v r.2.data as ∧ s1.heap.objs.size ∉ as) (M.map fun r => Value.ref r.1) M := by
    have : ∀ N : List SN.Row, (∀ r ∈ N, r ∈ L) → PySem.W.EachIs (fun v (r : SN.Row) => ∃ as, Reads (s1.heap.push (seqObj "list" (M.map fun r => Value.ref r.1).toArray 0)) v r.2.data as ∧ s1.heap.objs.size ∉ as) (N.map fun r => Value.ref r.1) N := by
      intro N
      induction N with
      | nil => exact fun _ => .nil
      | cons r N ih =>
        intro hN
        obtain ⟨as, ra⟩ := rd r (hN r List.mem_cons_self)
        refine .cons ⟨as, PyProof.Rows.Reads.keeps (fun b o e => Heap.get?_push_of_some _ (k1 b o e)) ra, fun z => ?_⟩ (ih fun u hu => hN u (List.mem_cons_of_mem _ hu))
        rw [no_adrs _ _ _ (plain_data _) ra] at z
        cases z
    exact this M fun r hr => pL.mem_iff.mp hr
  refine wpAny_bind (wpAny_holding (PySem.W.list_sort_data (enc := fun r : SN.Row => r.2.data) (R := fun v (r : SN.Row) => v = Value.ref r.1) ho rdM rds (fun d hd e he => ?_) ?_ (by rw [sizeLine_eq]; omega) (fun r hr => ?_) fun out l1 l2 => ?_))
  · obtain ⟨r, r1, rfl⟩ := List.mem_map.mp hd
    obtain ⟨u, u1, rfl⟩ := List.mem_map.mp he
    exact hal _ (List.mem_map_of_mem (pL.mem_iff.mp r1)) _ (List.mem_map_of_mem (pL.mem_iff.mp u1))
  · rcases hk with hk | hk
    · exact .inl fun d hd => hk d ((pL.map _).mem_iff.mp hd)
    · exact .inr fun d hd => hk d ((pL.map _).mem_iff.mp hd)
  · have := hu r (pL.mem_iff.mp hr)
    simp only [Around.in1_units]
    omega
  · obtain ⟨c, hc⟩ := sortedHeap_at (vs := M.map fun r => Value.ref r.1) (out := out.toArray) ho
    have eo : out = (M.mergeSort (PySem.W.dataLe false fun r : SN.Row => r.2.data)).map fun r => Value.ref r.1 := by
      have : ∀ {us : List Value} {N : List SN.Row}, PySem.W.EachIs (fun v (r : SN.Row) => v = Value.ref r.1) us N → us = N.map fun r => Value.ref r.1 := by
        intro us N h
        induction h with
        | nil => rfl
        | cons e _ ih => rw [e, ih]; rfl
      exact this l2
    refine wpAny_pure ⟨_, rfl, q _ s1.heap.objs.size out.toArray c (M.mergeSort (PySem.W.dataLe false fun r : SN.Row => r.2.data)) (fun b u e => ?_) g1 w1 z1 hc (by simpa using eo) ((List.mergeSort_perm _ _).trans pL) ?_⟩
    · have e1 := k1 b u e
      have lt := Heap.lt_size e1
      show (sortedHeap _ _ _ _).get? b = some u
      rw [sortedHeap_old (Nat.ne_of_lt lt) (by rw [size_push']; exact Nat.lt_succ_of_lt lt)]
      exact Heap.get?_push_of_some _ e1
    · have pw : (M.mergeSort (PySem.W.dataLe false fun r : SN.Row => r.2.data)).Pairwise (fun a b => PySem.W.dataLe false (fun r : SN.Row => r.2.data) a b = true) := PySem.W.sort_pairwise (PySem.W.sortLe_total _ false _) M
      refine pw.imp fun {r u} h => ?_
      rw [PySem.W.dataLe_eq] at h
      simp only [cond_false] at h
      simpa using h
end
end RD
set_option Elab.async false
set_option linter.all false
set_option maxRecDepth 100000
set_option maxHeartbeats 1000000
/-! RdSg: sorted(set(xs)), len(set(xs)), sorted(xs) by values. -/
namespace RD
open PySem L2 PySem.Spec PyProof.Rows
theorem le_of (x y : PyData) : PySem.W.dataLe false (fun d : PyData => d) x y = !PySem.W.dataLt y x := by rw [PySem.W.dataLe_eq]; rfl
theorem neg_tr {x y z : PyData} (h : PySem.W.dataLt x z = true) : PySem.W.dataLt x y = true ∨ PySem.W.dataLt y z = true := lex_negTrans _ _ _ h
theorem mem_insS {x z : PyData} : ∀ {l : List PyData}, z ∈ insS x l ↔ z = x ∨ z ∈ l
  | [] => by simp [insS]
  | y :: r => by
    unfold insS
    split
    · rw [List.mem_cons, mem_insS, List.mem_cons]
      constructor
      · rintro (e | e | e)
        · exact .inr (.inl e)
        · exact .inl e
        · exact .inr (.inr e)
      · rintro (e | e | e)
        · exact .inr (.inl e)
        · exact .inl e
        · exact .inr (.inr e)
    · simp
theorem insS_pw {x : PyData} : ∀ {l : List PyData}, l.Pairwise (fun a b => PySem.W.dataLe false (fun d : PyData => d) a b = true) → (insS x l).Pairwise (fun a b => PySem.W.dataLe false (fun d : PyData => d) a b = true)
  | [], _ => by simp [insS]
  | y :: r, h => by
    obtain ⟨h1, h2⟩ := List.pairwise_cons.mp h
    unfold insS
    split
    · rename_i c
      refine List.pairwise_cons.mpr ⟨fun z hz => ?_, insS_pw h2⟩
      rcases mem_insS.mp hz with rfl | hz
      · rw [le_of]
        cases q : PySem.W.dataLt z y with
        | false => rfl
        | true =>
          have := lt_tr c q
          rw [lt_irr] at this
          cases this
      · exact h1 z hz
    · rename_i c
      have c' : PySem.W.dataLt y x = false := by simpa using c
      refine List.pairwise_cons.mpr ⟨fun z hz => ?_, h⟩
      rw [le_of]
      rcases List.mem_cons.mp hz with rfl | hz
      · rw [c']; rfl
      · have q1 := h1 z hz
        rw [le_of] at q1
        cases q : PySem.W.dataLt z x with
        | false => rfl
        | true =>
          rcases neg_tr (y := y) q with k | k
          · rw [k] at q1; cases q1
          · rw [c'] at k; cases k
theorem insS_filter {x c : PyData} : ∀ {l : List PyData}, (insS x l).filter (PySem.W.sameRank (PySem.W.dataLe false (fun d : PyData => d)) c) = (x :: l).filter (PySem.W.sameRank (PySem.W.dataLe false (fun d : PyData => d)) c)
  | [] => rfl
  | y :: r => by
    unfold insS
    split
    · rename_i k
      rw [List.filter_cons, insS_filter, List.filter_cons, List.filter_cons, List.filter_cons]
      cases hx : PySem.W.sameRank (PySem.W.dataLe false (fun d : PyData => d)) c x <;> cases hy : PySem.W.sameRank (PySem.W.dataLe false (fun d : PyData => d)) c y <;> simp
      unfold PySem.W.sameRank at hx hy
      rw [le_of, le_of, Bool.and_eq_true] at hx hy
      rcases neg_tr (y := c) k with q | q
      · rw [q] at hy; cases hy.1
      · rw [q] at hx; cases hx.2
    · rfl
theorem sortD_pw : ∀ ds : List PyData, (sortD ds).Pairwise (fun a b => PySem.W.dataLe false (fun d : PyData => d) a b = true)
  | [] => .nil
  | x :: r => insS_pw (sortD_pw r)
theorem sortD_filter (c : PyData) : ∀ ds : List PyData, (sortD ds).filter (PySem.W.sameRank (PySem.W.dataLe false (fun d : PyData => d)) c) = ds.filter (PySem.W.sameRank (PySem.W.dataLe false (fun d : PyData => d)) c)
  | [] => rfl
  | x :: r => by
    show (insS x (sortD r)).filter _ = _
    rw [insS_filter, List.filter_cons, List.filter_cons, sortD_filter c r]
theorem sortD_eq (ds : List PyData) : sortD ds = ds.mergeSort (PySem.W.dataLe false (fun d : PyData => d)) := PySem.W.sort_unique (PySem.W.sortLe_total _ false _) (sortD_pw ds) (fun c => sortD_filter c ds)
theorem nest_of {ds : List PyData} (h : ds.all nestB = true) {d : PyData} (hd : d ∈ ds) : plainK d = true ∧ d.depth ≤ 8 := by
  have := List.all_eq_true.mp h d hd
  unfold nestB at this
  rw [Bool.and_eq_true, Bool.and_eq_true] at this
  exact ⟨this.1.1, of_decide_eq_true this.1.2⟩
theorem pair_map {α : Type} {D : V → PyData → Prop} {f : α → V} {g : α → PyData} : ∀ {l : List α}, (∀ x ∈ l, D (f x) (g x)) → Paired D (l.map f) (l.map g)
  | [], _ => .nil
  | x :: l, h => .cons (h x List.mem_cons_self) (pair_map fun y hy => h y (List.mem_cons_of_mem _ hy))
section
variable {X : Cx}
/-- sorted(set) -/
def rSortA (K : PySem.W.Frag) (w : World) : List V → Hp → VK → Prop := fun vs H Q => ∃ (p : Addr) (o : HO) (ds : List PyData) (D : V → PyData → Prop), vs = [.ref p] ∧ H p = some o ∧ SetIs w D ds p o ∧ (∀ v d, D v d → Dp K H v d) ∧ (∀ i, D (.int i) (.int i)) ∧ uniqOk ds = true ∧
  ∀ q ys, H q = none → Paired D ys (uniqD ds) → Q (.ref q) (upd H q (.lst ys))
theorem cr_sortA (hc : X.calm = true) (hu : X.A.units + 65 < cLine) : CallR X (.builtin "sorted") (rSortA X.K X.w) := by
  intro pins s σ H vs us Q I r h
  obtain ⟨p, o, ds, D, rfl, hp, hs, hD, hI, ok, q⟩ := h
  rcases hs with ⟨ns, c, rfl, few, rfl, hcl⟩ | ⟨L, rfl, k1, k2, k3, b1, b2⟩
  · refine cr_sortedSet hc pins s σ H _ us Q I r ⟨p, _, c, rfl, hp, by omega, fun ms a up mem _ ha => q a _ ha ?_⟩
    rw [uniq_ints up fun k => by rw [mem]; simp]
    exact pair_map fun i _ => hI i
  · obtain ⟨es, ep, t, R⟩ := setU_full I hD hp k2 b1
    have cm := I.ok.hd hc
    have dat : ∀ r ∈ L, ∃ d ∈ ds, r.2 = keyK d ∧ r.2.data = d ∧ D (.ref r.1) d := fun r hr => by
      obtain ⟨d, d1, d2, d3⟩ := b1 r hr
      exact ⟨d, d1, d2, by rw [d2, key_data d (nest_of k2 d1).1], d3⟩
    have rd : ∀ r ∈ L, ∃ as, Reads s.heap (.ref r.1) r.2.data as := fun r hr => by
      obtain ⟨d, _, _, d3, d4⟩ := dat r hr
      rw [d3]
      exact Dp.reads I d _ _ (hD _ _ d4) rfl
    rw [Vals.ref1 r]
    refine sort_rows R cm rd (fun x hx y hy => ?_) ?_ (fun r hr => ?_) fun s' a out c M k g w1 ha hg ho pm pw => ?_
    · obtain ⟨r, r1, rfl⟩ := List.mem_map.mp hx
      obtain ⟨u, u1, rfl⟩ := List.mem_map.mp hy
      obtain ⟨d, d1, _, d3, _⟩ := dat r r1
      obtain ⟨e, e1, _, e3, _⟩ := dat u u1
      rw [d3, e3]
      exact alikeB_all k3 d d1 e e1
    · refine .inl fun x hx => ?_
      obtain ⟨r, r1, rfl⟩ := List.mem_map.mp hx
      obtain ⟨d, d1, _, d3, _⟩ := dat r r1
      rw [d3]
      unfold uniqOk at ok
      rw [Bool.and_eq_true, Bool.or_eq_true] at ok
      have ht := List.all_eq_true.mp k1 d d1
      rcases ok.2 with z | z
      · have := List.all_eq_true.mp z d d1
        exfalso
        cases d <;> first | (cases this; done) | (cases ht; done)
      · have := List.all_eq_true.mp z d d1
        cases d with
        | tuple xs =>
          cases xs with
          | nil => cases this
          | cons x xs => exact ⟨x, xs, rfl⟩
        | _ => cases this
    · obtain ⟨d, d1, _, d3, _⟩ := dat r hr
      have := (nest_of k2 d1).2
      rw [d3]
      omega
    · have len : M.length < 64 := by rw [pm.length_eq]; exact R.few
      have hn : H a = none := I.hok.fresh ha
      have hv : Vals (M.map fun r => V.ref r.1) out.toList := by
        rw [ho]
        have : ∀ N : List SN.Row, Vals (N.map fun r => V.ref r.1) (N.map fun r => Value.ref r.1) := by
          intro N
          induction N with
          | nil => exact .nil
          | cons r N ih => exact .cons rfl ih
        exact this M
      have J : Inv X pins σ (upd H a (.lst (M.map fun r => V.ref r.1))) { s with heap := s'.heap, gens := s'.gens, drawn := s'.drawn, toks := s'.toks } :=
        I.call (ch := []) (Un.laid k ha hn) (I.hok.laid k ha ⟨by rw [List.length_map, sizeLine_eq]; omega, out.toList, c, hv, hg⟩) (by rw [g]; exact I.bare) (fun _ z => nomatch z)
      have es' : s' = { s with heap := s'.heap, gens := s'.gens, drawn := s'.drawn, toks := s'.toks } := by
        cases s'
        cases s
        cases w1
        rfl
      rw [es']
      refine ⟨.ref a, _, J, rfl, q a _ hn ?_⟩
      have eu : uniqD ds = M.map fun r => r.2.data := by
        refine uniq_eq (alikeB_all k3) ?_ fun z => ?_
        · refine List.pairwise_map.mpr (List.Pairwise.imp_of_mem (fun {r u} hr hu2 hh => ?_) (pw.and (List.pairwise_map.mp ((pm.map (·.2)).nodup_iff.mpr R.dif))))
          obtain ⟨h1, h2⟩ := hh
          cases q : PySem.W.dataLt r.2.data u.2.data with
          | true => rfl
          | false =>
            obtain ⟨d, d1, d2, d3, _⟩ := dat r (pm.mem_iff.mp hr)
            obtain ⟨e, e1, e2, e3, _⟩ := dat u (pm.mem_iff.mp hu2)
            rw [d3, e3] at q h1
            have := lt_tri (alikeB_all k3 d d1 e e1) q h1
            exact absurd (by rw [d2, e2, this]) h2
        · constructor
          · intro h
            obtain ⟨r, r1, rfl⟩ := List.mem_map.mp h
            obtain ⟨d, d1, _, d3, _⟩ := dat r (pm.mem_iff.mp r1)
            rw [d3]
            exact d1
          · intro h
            obtain ⟨r, r1, r2⟩ := List.mem_map.mp (b2 z h)
            refine List.mem_map.mpr ⟨r, pm.mem_iff.mpr r1, ?_⟩
            rw [r2, key_data z (nest_of k2 h).1]
      rw [eu]
      exact pair_map fun r hr => by
        obtain ⟨d, _, _, d3, d4⟩ := dat r (pm.mem_iff.mp hr)
        rw [d3]
        exact d4
/-- len(set) -/
def rLenA (K : PySem.W.Frag) (w : World) : List V → Hp → VK → Prop := fun vs H Q => ∃ (p : Addr) (o : HO) (ds : List PyData) (D : V → PyData → Prop), vs = [.ref p] ∧ H p = some o ∧ SetIs w D ds p o ∧ (∀ v d, D v d → Dp K H v d) ∧ Q (.int (uniqD ds).length) H
theorem up_nodup {l : List PyData} (u : Up l) : l.Nodup := u.imp fun {a b} h e => by rw [e, lt_irr] at h; cases h
theorem cr_lenA : CallR X (.builtin "len") (rLenA X.K X.w) := by
  intro pins s σ H vs us Q I r h
  obtain ⟨p, o, ds, D, rfl, hp, hs, hD, q⟩ := h
  rw [Vals.ref1 r]
  rcases hs with ⟨ns, c, rfl, few, rfl, hcl⟩ | ⟨L, rfl, k1, k2, k3, b1, b2⟩
  · obtain ⟨o, es, ep, t, ho, hex, hd, g, nd, hm, hb, hf, hn, _⟩ := setO_get I hp
    have e1 : (uniqD (ns.map PyData.int)).length = c := by
      have p1 : (uniqD (ns.map PyData.int)).Perm ((es.toList.map L2.keyOf).map PyData.int) := by
        refine (List.perm_ext_iff_of_nodup (up_nodup (uniq_up (ints_alike ns))) ?_).mpr fun z => ?_
        · exact List.pairwise_map.mpr (nd.imp fun {a b} h e => h (PyData.int.inj e))
        · rw [uniq_mem (ints_alike ns)]
          constructor
          · intro h
            obtain ⟨k, hk, rfl⟩ := List.mem_map.mp h
            exact List.mem_map_of_mem ((hm k).mp (decide_eq_true hk))
          · intro h
            obtain ⟨k, hk, rfl⟩ := List.mem_map.mp h
            exact List.mem_map_of_mem (of_decide_eq_true ((hm k).mpr hk))
      rw [p1.length_eq, List.length_map, List.length_map, Array.length_toList, hn]
    refine call_len_set ho hex hd hf (by rw [hn]; omega) ⟨.int (uniqD (ns.map PyData.int)).length, H, I.tok _, ⟨_, by rw [hn, e1]⟩, q⟩
  · obtain ⟨es, ep, t, R⟩ := setU_full I hD hp k2 b1
    obtain ⟨o, o1, o2, o3⟩ := R.obj
    have sz := SN.size_of R.ent
    have few := R.few
    have e1 : (uniqD ds).length = es.size := by
      have p1 : ((uniqD ds).map keyK).Perm (L.map (·.2)) := by
        refine (List.perm_ext_iff_of_nodup ?_ R.dif).mpr fun z => ?_
        · refine List.pairwise_map.mpr (List.Pairwise.imp_of_mem (fun {a b} ha hb ne e => ne ?_) (up_nodup (uniq_up (alikeB_all k3))))
          exact key_inj (nest_of k2 ((uniq_mem (alikeB_all k3) a).mp ha)).1 (nest_of k2 ((uniq_mem (alikeB_all k3) b).mp hb)).1 e
        · constructor
          · intro h
            obtain ⟨d, hd, rfl⟩ := List.mem_map.mp h
            exact b2 d ((uniq_mem (alikeB_all k3) d).mp hd)
          · intro h
            obtain ⟨r, hr, rfl⟩ := List.mem_map.mp h
            obtain ⟨d, d1, d2, _⟩ := b1 r hr
            exact List.mem_map.mpr ⟨d, (uniq_mem (alikeB_all k3) d).mpr d1, d2.symm⟩
      rw [sz, ← List.length_map (f := fun r : SN.Row => r.2), ← p1.length_eq, List.length_map]
    refine call_len_set o1 o2 o3 R.fits (by omega) ⟨.int (uniqD ds).length, H, I.tok _, ⟨_, by rw [e1]⟩, q⟩
/-- sorted(list) -/
def rSortL (K : PySem.W.Frag) : List V → Hp → VK → Prop := fun vs H Q => ∃ (a : Addr) (ys : List V) (ds : List PyData) (D : V → PyData → Prop), vs = [.ref a] ∧ SqL K H a ys ∧ Paired D ys ds ∧ (∀ v d, D v d → Dp K H v d) ∧ srtOk ds = true ∧
  ∀ q zs, H q = none → Paired D zs (sortD ds) → Q (.ref q) (upd H q (.lst zs))
theorem each_split {D : V → PyData → Prop} : ∀ {ys : List V} {us : List Value} {ds : List PyData}, Vals ys us → Paired D ys ds → PySem.W.EachIs (fun u d => ∃ v, RelV v u ∧ D v d) us ds
  | _, _, _, .nil, .nil => .nil
  | _, _, _, .cons r rs, .cons h hs => .cons ⟨_, r, h⟩ (each_split rs hs)
theorem each_join {D : V → PyData → Prop} : ∀ {us : List Value} {ds : List PyData}, PySem.W.EachIs (fun u d => ∃ v, RelV v u ∧ D v d) us ds → ∃ ys, Vals ys us ∧ Paired D ys ds
  | _, _, .nil => ⟨[], .nil, .nil⟩
  | _, _, .cons ⟨v, r, h⟩ t => by
    obtain ⟨ys, y1, y2⟩ := each_join t
    exact ⟨v :: ys, .cons r y1, .cons h y2⟩
theorem cr_sortL (hu : X.A.units + 65 < cLine) : CallR X (.builtin "sorted") (rSortL X.K) := by
  intro pins s σ H vs us Q I r h
  obtain ⟨a, ys, ds, D, rfl, hq, hp, hD, ok, q⟩ := h
  rw [Vals.ref1 r]
  obtain ⟨its, rv, pl, hz⟩ := I.list hq
  unfold srtOk at ok
  rw [Bool.and_eq_true, Bool.and_eq_true, Bool.and_eq_true] at ok
  obtain ⟨⟨⟨k1, k2⟩, k3⟩, k4⟩ := ok
  have len := of_decide_eq_true k4
  have ei := each_split rv hp
  have hl : ds.length ≤ sizeLine := by rw [sizeLine_eq]; omega
  refine PySem.W.sorted_data (bs := ds) (enc := fun d => d) (R := fun u d => ∃ v, RelV v u ∧ D v d) pl.isList ei (ei.mono fun u d ⟨v, e1, e2⟩ => Dp.reads I d v u (hD v d e2) e1) (by rw [List.map_id']; exact alikeB_all k1) ?_ hl (fun d hd => ?_) fun out l1 l2 => ?_
  · rw [List.map_id']
    rw [Bool.or_eq_true] at k2
    rcases k2 with k2 | k2
    · refine .inl fun d hd => ?_
      have := List.all_eq_true.mp k2 d hd
      cases d with
      | tuple xs =>
        cases xs with
        | nil => cases this
        | cons x xs => exact ⟨x, xs, rfl⟩
      | _ => cases this
    · refine .inr fun d hd => ?_
      have := List.all_eq_true.mp k2 d hd
      rw [Bool.and_eq_true] at this
      refine ⟨fun e => ?_, fun xs e => ?_⟩
      · rw [e] at this; cases this.2
      · rw [e] at this; cases this.1
  · have := of_decide_eq_true (List.all_eq_true.mp k3 d hd)
    show X.A.units + 2 + d.depth < cLine
    omega
  · rw [← sortD_eq] at l2
    obtain ⟨zs, z1, z2⟩ := each_join l2
    obtain ⟨c, hc⟩ := sortedAll_at s.heap its out.toArray
    have hn : H (s.heap.objs.size + 1) = none := I.hok.fresh (Nat.le_succ _)
    have lz : zs.length ≤ sizeLine := by rw [z1.length, l1]; exact hl
    exact ⟨.ref (s.heap.objs.size + 1), upd H (s.heap.objs.size + 1) (.lst zs), I.laid (t' := s.toks) (fun b o e => sortedAll_old e) (Nat.le_succ _) ⟨lz, out, c, z1, hc⟩, rfl, q _ zs hn z2⟩
end
end RD
set_option Elab.async false
set_option linter.all false
set_option maxRecDepth 100000
/-! RdF: calls, built-ins, walks, targets, comprehensions. -/
namespace RD
open PySem L2

def BagAt (F H : Hp) (b : Addr) (q : Bag) : Prop := ∀ x y, q = some (x, y) → H b = some (.lst [.int x, .int y]) ∧ F b = none
/-- behind a call: what is frozen, the heap -/
structure After (K : PySem.W.Frag) (b : Addr) (F H : Hp) (q : Bag) (F' H' : Hp) (q' : Bag) : Prop where
  leF : Le F F'
  le : Le F' H'
  new : ∀ a o, F' a = some o → F a = some o ∨ H a = none
  keep : ∀ a o, H a = some o → (q.isSome = false ∨ a ≠ b) → H' a = some o
  isb : q'.isSome = q.isSome
  bag : BagAt F' H' b q'
/-- a def's promise: it hands back what g says -/
def spG (K : PySem.W.Frag) (mg : Str → Option Value) (n : Nat) (g : G) : Sp := fun vs H Q E => ∃ (F : Hp) (b : Addr) (us : List U) (q : Bag), Le F H ∧ us.length = n ∧ Paired (DenU K b F) us vs ∧ BagAt F H b q ∧
  match g us q with
  | .ok u q' => ∀ v F' H', After K b F H q F' H' q' → DenU K b F' u v → Q v H'
  | .exn c p q' => ∀ cls d F' H', After K b F H q F' H' q' → ErrIs K mg F' H' c p cls d → E cls d H'
  | .stuck => False
theorem spG.len {K : PySem.W.Frag} {mg : Str → Option Value} {n : Nat} {g : G} {vs : List V} {H : Hp} {Q : VK} {E : XK} (h : spG K mg n g vs H Q E) : vs.length = n := by
  obtain ⟨F, b, us, q, _, h1, h2, _⟩ := h
  rw [← h1]
  exact (Paired.length h2).symm
/-- a def of the module keeps its promise, at a level -/
def GF (P : Program) (w : World) (K : PySem.W.Frag) (mg : Str → Option Value) (base : Heap) (lv n : Nat) (x : Str) (g : G) : Prop := ∃ (f : Addr) (fd : FuncData) (ps : List Str) (k : Nat), k ≤ lv ∧ ps.length = n ∧ mg x = some (.ref f) ∧ PySem.W.keepIn K (.ref f) = true ∧ Binds K fd ps [] ∧
  FnOk P w K mg base (L2.CX P w) k f fd ps (spG K mg ps.length g)
theorem GF.mono {P : Program} {w : World} {K : PySem.W.Frag} {mg : Str → Option Value} {base : Heap} {lv lv' n : Nat} {x : Str} {g : G} (h : GF P w K mg base lv n x g) (l : lv ≤ lv') : GF P w K mg base lv' n x g := by
  obtain ⟨f, fd, ps, k, h1, r⟩ := h
  exact ⟨f, fd, ps, k, Nat.le_trans h1 l, r⟩
/-- a weaker promise -/
theorem GF.imp {P : Program} {w : World} {K : PySem.W.Frag} {mg : Str → Option Value} {base : Heap} {lv n : Nat} {x : Str} {g g' : G} (h : GF P w K mg base lv n x g) (i : ∀ us q, g' us q ≠ .stuck → g us q = g' us q) : GF P w K mg base lv n x g' := by
  obtain ⟨f, fd, ps, k, h1, h1', h2, h3, h4, h5⟩ := h
  refine ⟨f, fd, ps, k, h1, h1', h2, h3, h4, h5.imp fun vs H Q E ⟨F, b, us, q, q1, q2, q3, q4, q5⟩ => ⟨F, b, us, q, q1, q2, q3, q4, ?_⟩⟩
  rw [i us q (by intro z; rw [z] at q5; exact q5)]
  exact q5

section
variable {X : Cx} {W : WX} {C : Ct} {F : Hp} {s : S} {σ : L2.St} {H : Hp}
/-- behind a call the relation stands again -/
theorem Rel.after {K : PySem.W.Frag} (r : Rel K C F s σ H) {F' H' : Hp} {q' : Bag} (a : After K C.b F H s.bag F' H' q') : Rel K C F' ⟨s.rho, q'⟩ σ H' where
  le := a.le
  ge := r.ge.trans a.leF
  new := fun b o e => by
    rcases a.new b o e with h | h
    · exact r.new b o h
    · exact .inr (r.fresh0 h)
  keep := fun b o e n => by
    have h1 := r.keep b o e n
    refine a.keep b o h1 ?_
    rw [r.hbag]
    exact n
  hbag := a.isb.trans r.hbag
  bag := a.bag
  len := r.len
  val := fun i u e => by
    obtain ⟨v, h1, h2⟩ := r.val i u e
    exact ⟨v, h1, h2.mono a.leF⟩
  own := fun i ds e => by
    obtain ⟨p, vs, h1, h2, h3, h4, h5, h6⟩ := r.own i ds e
    refine ⟨p, vs, h1, a.keep p _ h2 (by rw [r.hbag]; exact h5), ?_, h4, h5, Dn.monoAll a.leF _ _ h6⟩
    cases z : F' p with
    | none => rfl
    | some o =>
      rcases a.new p o z with h | h
      · rw [h3] at h; cases h
      · rw [h2] at h; cases h
  apart := r.apart
theorem sx_call {f : Addr} {fd : FuncData} {ps : List Str} {k : Nat} {x : Str} {g : G} {e : Expr} {es : List Expr} {l : T} {p pos : Pos} (G0 : FnOk X.prog X.w X.K X.mg X.base (L2.CX X.prog X.w) k f fd ps (spG X.K X.mg ps.length g)) (hr : Room k X.A) (hg : Gl X x) (hm : X.mg x = some (.ref f))
    (hk : PySem.W.keepIn X.K (.ref f) = true) (hb : Binds X.K fd ps []) (tk : Takes X W) (ha : PA X (e :: es) (tXA X.K X.mg W l)) (hdb : (x == ("__debug__" : Str)) = false) (he : starEach (e :: es) X.env = (false, eval e X.env) :: starEach es X.env)
    (hpl : (backTo pos (starEach es X.env)).any (·.1) = false) (hlen : (e :: es).length = ps.length) (hlA : ∀ s us s', evA l s = .ok us s' → us.length = (e :: es).length) : PE X (.Call (.Name x p) (e :: es) [] pos) (tX X.K X.mg W (.call x g l)) := by
  refine (pe_callS G0 hr hg hm hk hb (fun σ => passAt tk σ) ha hdb he hpl).weak fun σ H Q ⟨C, F, s, r, h⟩ => ⟨C, F, s, r, ?_⟩
  have h' : Post X.K X.mg W C F σ ((evA l s).bind fun us s => (g us s.bag).lift s) (fun u F' _ H' => ∀ v, DenU X.K C.b F' u v → Q v H') := h
  have hL := hlA s
  revert h' hL
  generalize evA l s = m
  intro h' hL
  cases m with
  | exn c p s1 => exact h'
  | stuck => exact h'.elim
  | ok us s1 =>
    intro F1 H1 l1 r1 vs d1
    have h1 : Post X.K X.mg W C F1 σ ((g us s1.bag).lift s1) (fun u F' _ H' => ∀ v, DenU X.K C.b F' u v → Q v H') := Post.up h' l1
    refine ⟨F1, C.b, us, s1.bag, r1.le, by rw [← hlen]; exact hL us s1 rfl, d1, r1.bag, ?_⟩
    cases e1 : g us s1.bag with
    | stuck => rw [e1] at h1; exact h1.elim
    | ok u q' =>
      rw [e1] at h1
      intro v F2 H2 a d2
      exact h1 F2 H2 a.leF (r1.after a) v d2
    | exn c p q' =>
      rw [e1] at h1
      intro cls d F2 H2 a er
      exact h1 F2 H2 cls d a.leF (r1.after a) er
/-- f(): no argument -/
theorem sx_call0 {f : Addr} {fd : FuncData} {ps : List Str} {k : Nat} {x : Str} {g : G} {p pos : Pos} (G0 : FnOk X.prog X.w X.K X.mg X.base (L2.CX X.prog X.w) k f fd ps (spG X.K X.mg ps.length g)) (hr : Room k X.A) (hg : Gl X x) (hm : X.mg x = some (.ref f))
    (hk : PySem.W.keepIn X.K (.ref f) = true) (hb : Binds X.K fd ps []) (tk : Takes X W) (hdb : (x == ("__debug__" : Str)) = false) (hlen : ps.length = 0) : PE X (.Call (.Name x p) [] [] pos) (tX X.K X.mg W (.call x g .anil)) := by
  refine ⟨fun pins s0 σ H Q I ⟨C, F, s, r, h⟩ => wpAny_Call_Name_kw (ld_glob I hg hm (PySem.W.callWith_K0 I.kIn hk (run_fnS (us := []) G0 hr hb (passAt tk σ) I .nil ?_)) hdb)⟩
  have h1 : Post X.K X.mg W C F σ ((g [] s.bag).lift s) (fun u F' _ H' => ∀ v, DenU X.K C.b F' u v → Q v H') := h
  refine ⟨F, C.b, [], s.bag, r.le, hlen.symm, .nil, r.bag, ?_⟩
  cases e1 : g [] s.bag with
  | stuck => rw [e1] at h1; exact h1.elim
  | ok u q' =>
    rw [e1] at h1
    intro v F2 H2 a d2
    exact h1 F2 H2 a.leF (r.after a) v d2
  | exn c p q' =>
    rw [e1] at h1
    intro cls d F2 H2 a er
    exact h1 F2 H2 cls d a.leF (r.after a) er
end

/-! ### built-ins -/
def BF.name : BF → Str
  | .len => "len" | .int => "int" | .str => "str" | .bool => "bool" | .abs => "abs" | .max2 => "max" | .min2 => "min" | .max1 => "max" | .min1 => "min" | .sorted => "sorted" | .tuple => "tuple" | .list => "list" | .all => "all"
  | .isInt => "isinstance" | .isBool => "isinstance" | .isStr => "isinstance" | .isTuple => "isinstance" | .isList => "isinstance"
def BF.cls : BF → String
  | .isInt => "int" | .isBool => "bool" | .isStr => "str" | .isTuple => "tuple" | .isList => "list" | _ => ""
def BF.isI : BF → Bool
  | .isInt => true | .isBool => true | .isStr => true | .isTuple => true | .isList => true | _ => false
/-- the names that are taken for the built-ins they are -/
def bltNames : List Str := ["len", "int", "str", "bool", "abs", "max", "min", "tuple", "list", "all", "isinstance", "range", "sorted", "set", "zip"]
def BltOk (mg : Str → Option Value) : Prop := ∀ x ∈ bltNames, mg x = none

theorem bi_len : bootBuiltins "len" = some (.builtin "len") := by decide +kernel
theorem bi_int : bootBuiltins "int" = some (.type "int") := by decide +kernel
theorem bi_str : bootBuiltins "str" = some (.type "str") := by decide +kernel
theorem bi_bool : bootBuiltins "bool" = some (.type "bool") := by decide +kernel
theorem bi_abs : bootBuiltins "abs" = some (.builtin "abs") := by decide +kernel
theorem bi_max : bootBuiltins "max" = some (.builtin "max") := by decide +kernel
theorem bi_min : bootBuiltins "min" = some (.builtin "min") := by decide +kernel
theorem bi_tuple : bootBuiltins "tuple" = some (.type "tuple") := by decide +kernel
theorem bi_list : bootBuiltins "list" = some (.type "list") := by decide +kernel
theorem bi_all : bootBuiltins "all" = some (.builtin "all") := by decide +kernel
theorem bi_sorted : bootBuiltins "sorted" = some (.builtin "sorted") := by decide +kernel
theorem bi_isinstance : bootBuiltins "isinstance" = some (.builtin "isinstance") := by decide +kernel

section
variable {K : PySem.W.Frag} {C : Ct} {F : Hp} {s : S} {σ : L2.St} {H : Hp} {vs : List V} {xs : List PyData} {z : PyData} {Q : VK}
theorem dn1 {vs : List V} {x : PyData} (d : DnAll K F vs [x]) : ∃ v, vs = [v] ∧ Dn K F v x := by
  cases d with
  | cons h t => cases t; exact ⟨_, rfl, h⟩
theorem dn2 {vs : List V} {x y : PyData} (d : DnAll K F vs [x, y]) : ∃ v w, vs = [v, w] ∧ Dn K F v x ∧ Dn K F w y := by
  cases d with
  | cons h t => cases t with | cons h2 t2 => cases t2; exact ⟨_, _, rfl, h, h2⟩
theorem allB_dn : ∀ {vs : List V} {xs : List PyData} {b : Bool}, DnAll K F vs xs → allB xs = some b → ∃ bs : List Bool, vs = bs.map V.bl ∧ bs.all id = b
  | _, [], b, .nil, e => by cases e; exact ⟨[], rfl, rfl⟩
  | _, x :: xs, b, .cons h t, e => by
    cases x with
    | bool k =>
      have e' : (allB xs).map (fun c => k && c) = some b := e
      cases q : allB xs with
      | none => rw [q] at e'; cases e'
      | some c =>
        rw [q] at e'
        cases e'
        cases h
        obtain ⟨bs, h1, h2⟩ := allB_dn t q
        subst h1
        exact ⟨k :: bs, rfl, by simp [h2]⟩
    | _ => cases e
/-- what isinstance may be asked of -/
def tyD : PyData → String
  | .none => "NoneType" | .bool _ => "bool" | .int _ => "int" | .str _ => "str" | .list _ => "list" | .tuple _ => "tuple" | .dict _ => "dict"
theorem tyX_dn {v : V} {x : PyData} (le : Le F H) (d : Dn K F v x) : TyX K H v (.type (tyD x)) := by
  cases d with
  | non => exact .base .non
  | bl b => exact .base (.bl b)
  | int i => exact .base (.int i)
  | str x => exact .base (.str x)
  | lst h _ => exact .base (.lst (le _ _ h))
  | tup h _ =>
    rcases h.mono le with (q | ⟨o, q⟩) | ⟨o, its, n, q, qc, _⟩
    · exact .base (.tup q)
    · exact .fTuple q
    · exact .kTuple q qc
theorem kit_all (f : BF) (hf : f.isI = true) (x : PyData) {b : Bool} (e : isiD f x = some b) : PySem.W.kitOne K (.type (tyD x)) (.type f.cls) = some b := by
  refine kit_ty ?_
  cases f <;> first | (exact absurd hf (by decide)) | skip
  all_goals (cases x <;> first | (cases e; dsimp only [tyD, BF.cls]; decide +kernel) | cases e)
end

section
variable {K : PySem.W.Frag} {F : Hp}
theorem intsD_dn : ∀ {vs : List V} {xs : List PyData} {ns : List Int}, DnAll K F vs xs → intsD xs = some ns → vs = ns.map V.int
  | _, [], ns, .nil, e => by cases e; rfl
  | _, x :: xs, ns, .cons h t, e => by
    cases x with
    | int i =>
      have e' : (intsD xs).map (i :: ·) = some ns := e
      cases q : intsD xs with
      | none => rw [q] at e'; cases e'
      | some ms =>
        rw [q] at e'
        cases e'
        cases h
        rw [intsD_dn t q]
        rfl
    | _ => cases e
theorem maxI_is : ∀ (ns : List Int), ns ≠ [] → maxI ns ∈ ns ∧ ∀ y ∈ ns, y ≤ maxI ns
  | [], h => absurd rfl h
  | [x], _ => ⟨List.mem_cons_self, fun y hy => by rw [List.mem_singleton.mp hy]; exact Int.le_refl _⟩
  | x :: z :: r, _ => by
    obtain ⟨h1, h2⟩ := maxI_is (z :: r) (by intro e; cases e)
    show (if maxI (z :: r) > x then maxI (z :: r) else x) ∈ _ ∧ ∀ y ∈ x :: z :: r, y ≤ if maxI (z :: r) > x then maxI (z :: r) else x
    split
    · refine ⟨List.mem_cons_of_mem _ h1, fun y hy => ?_⟩
      rcases List.mem_cons.mp hy with rfl | hy
      · omega
      · exact h2 y hy
    · refine ⟨List.mem_cons_self, fun y hy => ?_⟩
      rcases List.mem_cons.mp hy with rfl | hy
      · exact Int.le_refl _
      · have := h2 y hy
        omega
theorem minI_is : ∀ (ns : List Int), ns ≠ [] → minI ns ∈ ns ∧ ∀ y ∈ ns, minI ns ≤ y
  | [], h => absurd rfl h
  | [x], _ => ⟨List.mem_cons_self, fun y hy => by rw [List.mem_singleton.mp hy]; exact Int.le_refl _⟩
  | x :: z :: r, _ => by
    obtain ⟨h1, h2⟩ := minI_is (z :: r) (by intro e; cases e)
    show (if minI (z :: r) < x then minI (z :: r) else x) ∈ _ ∧ ∀ y ∈ x :: z :: r, (if minI (z :: r) < x then minI (z :: r) else x) ≤ y
    split
    · refine ⟨List.mem_cons_of_mem _ h1, fun y hy => ?_⟩
      rcases List.mem_cons.mp hy with rfl | hy
      · omega
      · exact h2 y hy
    · refine ⟨List.mem_cons_self, fun y hy => ?_⟩
      rcases List.mem_cons.mp hy with rfl | hy
      · exact Int.le_refl _
      · have := h2 y hy
        omega
theorem dn_paired : ∀ {vs : List V} {xs : List PyData}, DnAll K F vs xs → Paired (Dn K F) vs xs
  | _, _, .nil => .nil
  | _, _, .cons h t => .cons h (dn_paired t)
theorem paired_dn : ∀ {vs : List V} {xs : List PyData}, Paired (Dn K F) vs xs → DnAll K F vs xs
  | _, _, .nil => .nil
  | _, _, .cons h t => .cons h (paired_dn t)
end
section
variable {X : Cx} {W : WX} {e : Expr} {es : List Expr} {l : T} {p pos : Pos}
/-- a built-in function or type over data: its rule, and that it does what bltop says -/
theorem sx_bltR {f : BF} {r : List V → Hp → VK → Prop} {t : TA} (hpe : PE X (.Call (.Name f.name p) (e :: es) [] pos) (tCB r (tXA X.K X.mg W l)))
    (leaf : ∀ (C : Ct) (F : Hp) (s : S) (σ : L2.St) (H : Hp) (vs : List V) (xs : List PyData) (z : PyData) (Q : VK), bltop f xs = some z → Rel X.K C F s σ H → DnAll X.K F vs xs → (∀ F' H', Le F F' → Rel X.K C F' s σ H' → ∀ u, Dn X.K F' u z → Q u H') → r vs H Q) :
    PE X (.Call (.Name f.name p) (e :: es) [] pos) (tX X.K X.mg W (.blt f l)) := by
  refine hpe.weak fun σ H Q ⟨C, F, s, r, h⟩ => ⟨C, F, s, r, ?_⟩
  refine (Post.bind h).imp fun us F1 s1 H1 l1 r1 h1 vs d1 => ?_
  cases e : datas us with
  | none => rw [e] at h1; exact h1.elim
  | some xs =>
    rw [e] at h1
    obtain ⟨z, ez, h3⟩ := h1.lift
    exact leaf C F1 s1 σ H1 vs xs z Q ez r1 (datas_dn d1 e) fun F' H' l r u d => h3 F' H' l r u d
theorem sx_len (hB : BltOk X.mg) (hg : Gl X "len") (ha : PA X (e :: es) (tXA X.K X.mg W l)) (he : starEach (e :: es) X.env = (false, eval e X.env) :: starEach es X.env) (hpl : (backTo pos (starEach es X.env)).any (·.1) = false) :
    PE X (.Call (.Name "len" p) (e :: es) [] pos) (tX X.K X.mg W (.blt .len l)) := by
  refine sx_bltR (f := .len) (t := tXA X.K X.mg W l) (pe_callB (call_len_seq.or call_len_str) hg (hB _ (by decide +kernel)) bi_len ha (by decide) (by decide) he hpl) fun C F s σ H vs xs z Q ez r d q => ?_
  cases xs with
  | nil => cases ez
  | cons x xs =>
    cases xs with
    | cons y ys => cases x <;> cases ez
    | nil =>
      obtain ⟨v, rfl, dv⟩ := dn1 d
      cases x with
      | tuple ds =>
        cases ez
        cases dv with
        | tup h1 h2 =>
          refine .inl ⟨_, _, rfl, .inr (h1.mono r.le), ?_⟩
          rw [h2.length]
          exact q F H (Le.refl _) r _ (.int _)
      | list ds =>
        cases ez
        cases dv with
        | lst h1 h2 =>
          refine .inl ⟨_, _, rfl, .inl (.of (r.le _ _ h1)), ?_⟩
          rw [h2.length]
          exact q F H (Le.refl _) r _ (.int _)
      | str x =>
        cases dv
        have ez' : (if x.length ≤ big then some (PyData.int x.length) else none) = some z := ez
        split at ez'
        · rename_i hl
          cases ez'
          exact .inr ⟨x, rfl, Nat.le_trans hl big_line, q F H (Le.refl _) r _ (.int _)⟩
        · cases ez'
      | _ => cases ez
theorem sx_intF (hB : BltOk X.mg) (hg : Gl X "int") (ha : PA X (e :: es) (tXA X.K X.mg W l)) (he : starEach (e :: es) X.env = (false, eval e X.env) :: starEach es X.env) (hpl : (backTo pos (starEach es X.env)).any (·.1) = false) :
    PE X (.Call (.Name "int" p) (e :: es) [] pos) (tX X.K X.mg W (.blt .int l)) := by
  refine sx_bltR (f := .int) (t := tXA X.K X.mg W l) (pe_callTy call_int1 hg (hB _ (by decide +kernel)) bi_int ha (by decide) (by decide) he hpl) fun C F s σ H vs xs z Q ez r d q => ?_
  cases xs with
  | nil => cases ez
  | cons x xs =>
    cases xs with
    | cons y ys => cases x <;> cases ez
    | nil =>
      obtain ⟨v, rfl, dv⟩ := dn1 d
      cases x with
      | int i => cases ez; cases dv; exact .inl ⟨i, rfl, q F H (Le.refl _) r _ (.int _)⟩
      | bool b => cases ez; cases dv; exact .inr ⟨b, rfl, q F H (Le.refl _) r _ (.int _)⟩
      | _ => cases ez
theorem sx_strF (hB : BltOk X.mg) (hg : Gl X "str") (ha : PA X (e :: es) (tXA X.K X.mg W l)) (he : starEach (e :: es) X.env = (false, eval e X.env) :: starEach es X.env) (hpl : (backTo pos (starEach es X.env)).any (·.1) = false) :
    PE X (.Call (.Name "str" p) (e :: es) [] pos) (tX X.K X.mg W (.blt .str l)) := by
  refine sx_bltR (f := .str) (t := tXA X.K X.mg W l) (pe_callTy call_str_int hg (hB _ (by decide +kernel)) bi_str ha (by decide) (by decide) he hpl) fun C F s σ H vs xs z Q ez r d q => ?_
  cases xs with
  | nil => cases ez
  | cons x xs =>
    cases xs with
    | cons y ys => cases x <;> cases ez
    | nil =>
      obtain ⟨v, rfl, dv⟩ := dn1 d
      cases x with
      | int i =>
        cases dv
        simp only [bltop] at ez
        split at ez
        · rename_i hs
          cases ez
          exact ⟨i, rfl, hs, q F H (Le.refl _) r _ (.str _)⟩
        · cases ez
      | _ => cases ez
theorem sx_boolF (hB : BltOk X.mg) (hg : Gl X "bool") (ha : PA X (e :: es) (tXA X.K X.mg W l)) (he : starEach (e :: es) X.env = (false, eval e X.env) :: starEach es X.env) (hpl : (backTo pos (starEach es X.env)).any (·.1) = false) :
    PE X (.Call (.Name "bool" p) (e :: es) [] pos) (tX X.K X.mg W (.blt .bool l)) := by
  refine sx_bltR (f := .bool) (t := tXA X.K X.mg W l) (pe_callTy call_bool1 hg (hB _ (by decide +kernel)) bi_bool ha (by decide) (by decide) he hpl) fun C F s σ H vs xs z Q ez r d q => ?_
  cases xs with
  | nil => cases ez
  | cons x xs =>
    cases xs with
    | cons y ys => cases x <;> cases ez
    | nil =>
      obtain ⟨v, rfl, dv⟩ := dn1 d
      cases x with
      | bool b => cases ez; cases dv; exact .inr ⟨b, rfl, q F H (Le.refl _) r _ (.bl _)⟩
      | _ => cases ez
theorem sx_absF (hB : BltOk X.mg) (hg : Gl X "abs") (ha : PA X (e :: es) (tXA X.K X.mg W l)) (he : starEach (e :: es) X.env = (false, eval e X.env) :: starEach es X.env) (hpl : (backTo pos (starEach es X.env)).any (·.1) = false) :
    PE X (.Call (.Name "abs" p) (e :: es) [] pos) (tX X.K X.mg W (.blt .abs l)) := by
  refine sx_bltR (f := .abs) (t := tXA X.K X.mg W l) (pe_callB call_abs hg (hB _ (by decide +kernel)) bi_abs ha (by decide) (by decide) he hpl) fun C F s σ H vs xs z Q ez r d q => ?_
  cases xs with
  | nil => cases ez
  | cons x xs =>
    cases xs with
    | cons y ys => cases x <;> cases ez
    | nil =>
      obtain ⟨v, rfl, dv⟩ := dn1 d
      cases x with
      | int i => cases ez; cases dv; exact ⟨i, rfl, q F H (Le.refl _) r _ (.int _)⟩
      | _ => cases ez
theorem sx_max2 (hc : X.calm = true) (hB : BltOk X.mg) (hg : Gl X "max") (ha : PA X (e :: es) (tXA X.K X.mg W l)) (he : starEach (e :: es) X.env = (false, eval e X.env) :: starEach es X.env) (hpl : (backTo pos (starEach es X.env)).any (·.1) = false) :
    PE X (.Call (.Name "max" p) (e :: es) [] pos) (tX X.K X.mg W (.blt .max2 l)) := by
  refine sx_bltR (f := .max2) (t := tXA X.K X.mg W l) (pe_callB (call_max2 hc) hg (hB _ (by decide +kernel)) bi_max ha (by decide) (by decide) he hpl) fun C F s σ H vs xs z Q ez r d q => ?_
  cases xs with
  | nil => cases ez
  | cons x xs =>
    cases xs with
    | nil => cases x <;> cases ez
    | cons y xs =>
      cases xs with
      | cons t ys => cases x <;> cases y <;> cases ez
      | nil =>
        obtain ⟨v, w, rfl, dv, dw⟩ := dn2 d
        cases x with
        | int i =>
          cases y with
          | int j => cases ez; cases dv; cases dw; exact ⟨i, j, rfl, q F H (Le.refl _) r _ (.int _)⟩
          | _ => cases ez
        | _ => cases ez
theorem sx_min2 (hc : X.calm = true) (hB : BltOk X.mg) (hg : Gl X "min") (ha : PA X (e :: es) (tXA X.K X.mg W l)) (he : starEach (e :: es) X.env = (false, eval e X.env) :: starEach es X.env) (hpl : (backTo pos (starEach es X.env)).any (·.1) = false) :
    PE X (.Call (.Name "min" p) (e :: es) [] pos) (tX X.K X.mg W (.blt .min2 l)) := by
  refine sx_bltR (f := .min2) (t := tXA X.K X.mg W l) (pe_callB (call_min2 hc) hg (hB _ (by decide +kernel)) bi_min ha (by decide) (by decide) he hpl) fun C F s σ H vs xs z Q ez r d q => ?_
  cases xs with
  | nil => cases ez
  | cons x xs =>
    cases xs with
    | nil => cases x <;> cases ez
    | cons y xs =>
      cases xs with
      | cons t ys => cases x <;> cases y <;> cases ez
      | nil =>
        obtain ⟨v, w, rfl, dv, dw⟩ := dn2 d
        cases x with
        | int i =>
          cases y with
          | int j => cases ez; cases dv; cases dw; exact ⟨i, j, rfl, q F H (Le.refl _) r _ (.int _)⟩
          | _ => cases ez
        | _ => cases ez
theorem sx_max1 (hc : X.calm = true) (hB : BltOk X.mg) (hg : Gl X "max") (ha : PA X (e :: es) (tXA X.K X.mg W l)) (he : starEach (e :: es) X.env = (false, eval e X.env) :: starEach es X.env) (hpl : (backTo pos (starEach es X.env)).any (·.1) = false) :
    PE X (.Call (.Name "max" p) (e :: es) [] pos) (tX X.K X.mg W (.blt .max1 l)) := by
  refine sx_bltR (f := .max1) (t := tXA X.K X.mg W l) (pe_callB (cr_max hc) hg (hB _ (by decide +kernel)) bi_max ha (by decide) (by decide) he hpl) fun C F s σ H vs xs z Q ez r d q => ?_
  cases xs with
  | nil => cases ez
  | cons x xs =>
    cases xs with
    | cons y ys => cases x <;> cases ez
    | nil =>
      obtain ⟨v, rfl, dv⟩ := dn1 d
      cases x with
      | list ds =>
        cases dv with
        | lst h1 h2 =>
          have ez' : (match intsD ds with | some (n :: ns) => some (PyData.int (maxI (n :: ns))) | _ => none) = some z := ez
          split at ez'
          · rename_i n ns e1
            cases ez'
            have e2 := intsD_dn h2 e1
            subst e2
            refine ⟨_, n :: ns, rfl, .of (r.le _ _ h1), Nat.succ_pos _, fun m m1 m2 => ?_⟩
            obtain ⟨k1, k2⟩ := maxI_is (n :: ns) (by intro z; cases z)
            have e3 : m = maxI (n :: ns) := by
              have a1 := m2 _ k1
              have a2 := k2 _ m1
              omega
            rw [e3]
            exact q F H (Le.refl _) r _ (.int _)
          · cases ez'
      | _ => cases ez
theorem sx_min1 (hc : X.calm = true) (hB : BltOk X.mg) (hg : Gl X "min") (ha : PA X (e :: es) (tXA X.K X.mg W l)) (he : starEach (e :: es) X.env = (false, eval e X.env) :: starEach es X.env) (hpl : (backTo pos (starEach es X.env)).any (·.1) = false) :
    PE X (.Call (.Name "min" p) (e :: es) [] pos) (tX X.K X.mg W (.blt .min1 l)) := by
  refine sx_bltR (f := .min1) (t := tXA X.K X.mg W l) (pe_callB (cr_min hc) hg (hB _ (by decide +kernel)) bi_min ha (by decide) (by decide) he hpl) fun C F s σ H vs xs z Q ez r d q => ?_
  cases xs with
  | nil => cases ez
  | cons x xs =>
    cases xs with
    | cons y ys => cases x <;> cases ez
    | nil =>
      obtain ⟨v, rfl, dv⟩ := dn1 d
      cases x with
      | list ds =>
        cases dv with
        | lst h1 h2 =>
          have ez' : (match intsD ds with | some (n :: ns) => some (PyData.int (minI (n :: ns))) | _ => none) = some z := ez
          split at ez'
          · rename_i n ns e1
            cases ez'
            have e2 := intsD_dn h2 e1
            subst e2
            refine ⟨_, n :: ns, rfl, .of (r.le _ _ h1), Nat.succ_pos _, fun m m1 m2 => ?_⟩
            obtain ⟨k1, k2⟩ := minI_is (n :: ns) (by intro z; cases z)
            have e3 : m = minI (n :: ns) := by
              have a1 := m2 _ k1
              have a2 := k2 _ m1
              omega
            rw [e3]
            exact q F H (Le.refl _) r _ (.int _)
          · cases ez'
      | _ => cases ez
theorem sx_sorted (hu : X.A.units + 65 < cLine) (hB : BltOk X.mg) (hg : Gl X "sorted") (ha : PA X (e :: es) (tXA X.K X.mg W l)) (he : starEach (e :: es) X.env = (false, eval e X.env) :: starEach es X.env) (hpl : (backTo pos (starEach es X.env)).any (·.1) = false) :
    PE X (.Call (.Name "sorted" p) (e :: es) [] pos) (tX X.K X.mg W (.blt .sorted l)) := by
  refine sx_bltR (f := .sorted) (t := tXA X.K X.mg W l) (pe_callB (cr_sortL hu) hg (hB _ (by decide +kernel)) bi_sorted ha (by decide) (by decide) he hpl) fun C F s σ H vs xs z Q ez r d q => ?_
  cases xs with
  | nil => cases ez
  | cons x xs =>
    cases xs with
    | cons y ys => cases x <;> cases ez
    | nil =>
      obtain ⟨v, rfl, dv⟩ := dn1 d
      cases x with
      | list ds =>
        cases dv with
        | lst h1 h2 =>
          have ez' : (if srtOk ds = true then some (PyData.list (sortD ds)) else none) = some z := ez
          split at ez'
          · rename_i ok
            cases ez'
            refine ⟨_, _, ds, Dn X.K F, rfl, .of (r.le _ _ h1), dn_paired h2, fun v d dn => (Dn.mono r.le _ _ dn).dp, ok, fun a zs ha hp => ?_⟩
            obtain ⟨F', lF, r', d'⟩ := r.lst ha (paired_dn hp)
            exact q F' _ lF r' _ d'
          · cases ez'
      | _ => cases ez
theorem bi_set : bootBuiltins "set" = some (.type "set") := by decide +kernel
/-- how the set of a value's items comes to be -/
theorem set_reads {C : Ct} {F1 : Hp} {s1 : S} {σ : L2.St} {H1 : Hp} {v : V} {x : PyData} {xs : List PyData} (hx : x = .list xs ∨ x = .tuple xs) (ok : setOk xs = true) (r1 : Rel X.K C F1 s1 σ H1) (d : Dn X.K F1 v x) {Q : VK}
    (q : ∀ p o, H1 p = none → SetIs X.w (Dn X.K F1) xs p o → Rel X.K C F1 s1 σ (upd H1 p o) → Q (.ref p) (upd H1 p o)) : rSetA X.K X.w [v] H1 Q := by
  rcases hx with rfl | rfl
  · cases d with
    | lst h1 h2 => exact ⟨_, _, xs, Dn X.K F1, rfl, .inl (.of (r1.le _ _ h1)), fun v d dn => (Dn.mono r1.le _ _ dn).dp, dn_paired h2, ok, fun p o hp hs => q p o hp hs (r1.lay o hp)⟩
  · cases d with
    | tup h1 h2 => exact ⟨_, _, xs, Dn X.K F1, rfl, .inr (h1.mono r1.le), fun v d dn => (Dn.mono r1.le _ _ dn).dp, dn_paired h2, ok, fun p o hp hs => q p o hp hs (r1.lay o hp)⟩
theorem sx_uniq {a : T} {p2 pos2 : Pos} (hc : X.calm = true) (hu : X.A.units + 65 < cLine) (hB : BltOk X.mg) (hg : Gl X "sorted") (hg2 : Gl X "set") (ha : PE X e (tX X.K X.mg W a)) (na : starEach [e] X.env = [(false, eval e X.env)]) :
    PE X (.Call (.Name "sorted" p) [.Call (.Name "set" p2) [e] [] pos2] [] pos) (tX X.K X.mg W (.uniq a)) := by
  refine (pe_callB (cr_sortA hc hu) hg (hB _ (by decide +kernel)) bi_sorted (pa_cons (pe_callTy (cr_setA hc (by omega)) hg2 (hB _ (by decide +kernel)) bi_set (pa_cons ha pa_nil na) (by decide) (by decide) na rfl) pa_nil) (by decide) (by decide)).weak fun σ H Q ⟨C, F, s, r, h⟩ => ⟨C, F, s, r, ?_⟩
  refine (Post.dat h).imp fun u F1 s1 H1 l1 r1 ⟨x, e, h1⟩ v d1 => ?_
  subst e
  obtain ⟨z, ez, h2⟩ := h1.lift
  have key : ∃ xs, (x = .list xs ∨ x = .tuple xs) ∧ uniqOk xs = true ∧ z = .list (uniqD xs) := by
    cases x with
    | list xs =>
      have ez' : (if uniqOk xs = true then some (PyData.list (uniqD xs)) else none) = some z := ez
      split at ez'
      · rename_i ok; cases ez'; exact ⟨xs, .inl rfl, ok, rfl⟩
      · cases ez'
    | tuple xs =>
      have ez' : (if uniqOk xs = true then some (PyData.list (uniqD xs)) else none) = some z := ez
      split at ez'
      · rename_i ok; cases ez'; exact ⟨xs, .inr rfl, ok, rfl⟩
      · cases ez'
    | _ => cases ez
  obtain ⟨xs, hx, ok, rfl⟩ := key
  have ok1 : setOk xs = true := by
    unfold uniqOk at ok
    rw [Bool.and_eq_true] at ok
    exact ok.1
  show rSetA X.K X.w [v] H1 (fun w H2 => rSortA X.K X.w [w] H2 Q)
  refine set_reads hx ok1 r1 d1 fun p o hp hs r2 => ⟨p, o, xs, Dn X.K F1, rfl, upd_same, hs, fun v d dn => (Dn.mono r2.le _ _ dn).dp, fun i => .int i, ok, fun a ys ha hp => ?_⟩
  obtain ⟨F', lF, r', d'⟩ := r2.lst ha (paired_dn hp)
  exact h2 F' _ lF r' _ d'
theorem sx_lenset {a : T} {p2 pos2 : Pos} (hc : X.calm = true) (hu : X.A.units + 65 < cLine) (hB : BltOk X.mg) (hg : Gl X "len") (hg2 : Gl X "set") (ha : PE X e (tX X.K X.mg W a)) (na : starEach [e] X.env = [(false, eval e X.env)]) :
    PE X (.Call (.Name "len" p) [.Call (.Name "set" p2) [e] [] pos2] [] pos) (tX X.K X.mg W (.lenset a)) := by
  refine (pe_callB cr_lenA hg (hB _ (by decide +kernel)) bi_len (pa_cons (pe_callTy (cr_setA hc (by omega)) hg2 (hB _ (by decide +kernel)) bi_set (pa_cons ha pa_nil na) (by decide) (by decide) na rfl) pa_nil) (by decide) (by decide)).weak fun σ H Q ⟨C, F, s, r, h⟩ => ⟨C, F, s, r, ?_⟩
  refine (Post.dat h).imp fun u F1 s1 H1 l1 r1 ⟨x, e, h1⟩ v d1 => ?_
  subst e
  obtain ⟨z, ez, h2⟩ := h1.lift
  have key : ∃ xs, (x = .list xs ∨ x = .tuple xs) ∧ setOk xs = true ∧ z = .int (uniqD xs).length := by
    cases x with
    | list xs =>
      have ez' : (if setOk xs = true then some (PyData.int (uniqD xs).length) else none) = some z := ez
      split at ez'
      · rename_i ok; cases ez'; exact ⟨xs, .inl rfl, ok, rfl⟩
      · cases ez'
    | tuple xs =>
      have ez' : (if setOk xs = true then some (PyData.int (uniqD xs).length) else none) = some z := ez
      split at ez'
      · rename_i ok; cases ez'; exact ⟨xs, .inr rfl, ok, rfl⟩
      · cases ez'
    | _ => cases ez
  obtain ⟨xs, hx, ok, rfl⟩ := key
  show rSetA X.K X.w [v] H1 (fun w H2 => rLenA X.K X.w [w] H2 Q)
  exact set_reads hx ok r1 d1 fun p o hp hs r2 => ⟨p, o, xs, Dn X.K F1, rfl, upd_same, hs, fun v d dn => (Dn.mono r2.le _ _ dn).dp, h2 F1 _ (Le.refl _) r2 _ (.int _)⟩
theorem sx_tupF (hB : BltOk X.mg) (hg : Gl X "tuple") (ha : PA X (e :: es) (tXA X.K X.mg W l)) (he : starEach (e :: es) X.env = (false, eval e X.env) :: starEach es X.env) (hpl : (backTo pos (starEach es X.env)).any (·.1) = false) :
    PE X (.Call (.Name "tuple" p) (e :: es) [] pos) (tX X.K X.mg W (.blt .tuple l)) := by
  refine sx_bltR (f := .tuple) (t := tXA X.K X.mg W l) (pe_callTy call_tuple_of hg (hB _ (by decide +kernel)) bi_tuple ha (by decide) (by decide) he hpl) fun C F s σ H vs xs z Q ez r d q => ?_
  cases xs with
  | nil => cases ez
  | cons x xs =>
    cases xs with
    | cons y ys => cases x <;> cases ez
    | nil =>
      obtain ⟨v, rfl, dv⟩ := dn1 d
      cases x with
      | tuple ds =>
        cases ez
        cases dv with
        | tup h1 h2 => exact ⟨_, _, rfl, .inr ⟨h1.mono r.le, q F H (Le.refl _) r _ (.tup h1 h2)⟩⟩
      | list ds =>
        cases ez
        cases dv with
        | lst h1 h2 =>
          refine ⟨_, _, rfl, .inl ⟨.of (r.le _ _ h1), fun p hp => ?_⟩⟩
          obtain ⟨F', lF, r', d'⟩ := r.tup hp h2
          exact q F' _ lF r' _ d'
      | _ => cases ez
theorem sx_lstF (hB : BltOk X.mg) (hg : Gl X "list") (ha : PA X (e :: es) (tXA X.K X.mg W l)) (he : starEach (e :: es) X.env = (false, eval e X.env) :: starEach es X.env) (hpl : (backTo pos (starEach es X.env)).any (·.1) = false) :
    PE X (.Call (.Name "list" p) (e :: es) [] pos) (tX X.K X.mg W (.blt .list l)) := by
  refine sx_bltR (f := .list) (t := tXA X.K X.mg W l) (pe_callTy call_list_of hg (hB _ (by decide +kernel)) bi_list ha (by decide) (by decide) he hpl) fun C F s σ H vs xs z Q ez r d q => ?_
  cases xs with
  | nil => cases ez
  | cons x xs =>
    cases xs with
    | cons y ys => cases x <;> cases ez
    | nil =>
      obtain ⟨v, rfl, dv⟩ := dn1 d
      cases x with
      | tuple ds =>
        cases ez
        cases dv with
        | tup h1 h2 =>
          refine ⟨_, _, rfl, .inr (h1.mono r.le), fun p hp => ?_⟩
          obtain ⟨F', lF, r', d'⟩ := r.lst hp h2
          exact q F' _ lF r' _ d'
      | list ds =>
        cases ez
        cases dv with
        | lst h1 h2 =>
          refine ⟨_, _, rfl, .inl (.of (r.le _ _ h1)), fun p hp => ?_⟩
          obtain ⟨F', lF, r', d'⟩ := r.lst hp h2
          exact q F' _ lF r' _ d'
      | _ => cases ez
theorem sx_all (hc : X.calm = true) (hB : BltOk X.mg) (hg : Gl X "all") (ha : PA X (e :: es) (tXA X.K X.mg W l)) (he : starEach (e :: es) X.env = (false, eval e X.env) :: starEach es X.env) (hpl : (backTo pos (starEach es X.env)).any (·.1) = false) :
    PE X (.Call (.Name "all" p) (e :: es) [] pos) (tX X.K X.mg W (.blt .all l)) := by
  refine sx_bltR (f := .all) (t := tXA X.K X.mg W l) (pe_callB (cr_all hc) hg (hB _ (by decide +kernel)) bi_all ha (by decide) (by decide) he hpl) fun C F s σ H vs xs z Q ez r d q => ?_
  cases xs with
  | nil => cases ez
  | cons x xs =>
    cases xs with
    | cons y ys => cases x <;> cases ez
    | nil =>
      obtain ⟨v, rfl, dv⟩ := dn1 d
      cases x with
      | list ds =>
        have ez' : (allB ds).map PyData.bool = some z := ez
        cases q2 : allB ds with
        | none => rw [q2] at ez'; cases ez'
        | some b =>
          rw [q2] at ez'
          cases ez'
          cases dv with
          | lst h1 h2 =>
            obtain ⟨bs, e1, e2⟩ := allB_dn h2 q2
            subst e1
            refine ⟨_, bs, rfl, .of (r.le _ _ h1), ?_⟩
            rw [e2]
            exact q F H (Le.refl _) r _ (.bl _)
      | _ => cases ez
/-- isinstance(x, T) -/
theorem sx_isi (f : BF) (hf : f.isI = true) {a : T} {p2 : Pos} {cn : Str} (hB : BltOk X.mg) (hg : Gl X "isinstance") (hgc : Gl X cn) (hn : X.mg cn = none) (hcn : bootBuiltins cn = some (.type f.cls)) (hne : cn ≠ "__name__") (hdb : (cn == ("__debug__" : Str)) = false)
    (ha : PE X e (tX X.K X.mg W a)) (hs : starEach [e, .Name cn p2] X.env = (false, eval e X.env) :: starEach [.Name cn p2] X.env) (hpl : (backTo pos (starEach [.Name cn p2] X.env)).any (·.1) = false) :
    PE X (.Call (.Name "isinstance" p) [e, .Name cn p2] [] pos) (tX X.K X.mg W (.isi f a)) := by
  have hA : PA X [e, .Name cn p2] (tCons (tX X.K X.mg W a) (tCons (tC (.ty f.cls)) tNil)) := pa_cons ha (pa_cons (pe_bltn hgc hn hcn rfl hne hdb) pa_nil) hs
  refine (pe_callB call_isi hg (hB _ (by decide +kernel)) bi_isinstance hA (by decide) (by decide) hs hpl).weak fun σ H Q ⟨C, F, s, r, h⟩ => ⟨C, F, s, r, ?_⟩
  refine (Post.dat h).imp fun u F1 s1 H1 l1 r1 ⟨x, e, h1⟩ v d1 => ?_
  subst e
  obtain ⟨b, eb, h2⟩ := h1.liftB
  exact ⟨v, .ty f.cls, _, _, b, rfl, .ty _, tyX_dn r1.le d1, kit_all f hf x eb, h2.fin r1 (.bl b)⟩
/-- len(script) -/
theorem sx_lenS {i : Nat} {x : Str} {p2 : Pos} (hB : BltOk X.mg) (hg : Gl X "len") (hN : X.N[i]? = some x) (hv : Vis X.env.scope x) (hd : (x == ("__debug__" : Str)) = false) (hcd : (x == ("__classdict__" : Str)) = false) :
    PE X (.Call (.Name "len" p) [.Name x p2] [] pos) (tX X.K X.mg W (.lenS i)) := by
  refine (pe_callB call_len_seq hg (hB _ (by decide +kernel)) bi_len (pa_cons (pe_var hN hv hd hcd) pa_nil)).weak fun σ H Q ⟨C, F, s, r, h⟩ => ?_
  have h' : Post X.K X.mg W C F σ (match s.rho[i]? with
    | some (.val (.scr ns)) => .ok (.d (.int ns.length)) s
    | _ => .stuck) (fun u F' _ H' => ∀ v, DenU X.K C.b F' u v → Q v H') := h
  split at h'
  · rename_i ns e
    obtain ⟨v, h1, a, h2, h3⟩ := r.val i _ e
    subst h2
    refine ⟨_, h1, a, _, rfl, .inl (h3.mono r.le), ?_⟩
    rw [List.length_map]
    exact h'.fin r (.int _)
  · exact h'.elim
end
end RD
set_option Elab.async false
set_option linter.all false
set_option maxRecDepth 100000
/-! RdG: walks, targets, comprehensions. -/
namespace RD
open PySem L2

section
variable {X : Cx} {W : WX} {e : Expr} {es : List Expr} {a b l : T} {p pos : Pos} {tg : Expr}
/-! ### what is walked -/
theorem si_l (ha : PE X e (tX X.K X.mg W a)) : PI X tg e (tXI X.K X.mg W (.itl a)) := by
  refine (pi_list ha).weak fun σ H R ⟨C, F, s, r, h⟩ => ⟨C, F, s, r, ?_⟩
  refine (Post.dat h).imp fun u F1 s1 H1 l1 r1 ⟨x, e, h1⟩ v d1 => ?_
  subst e
  cases x with
  | list ds =>
    cases d1 with
    | lst q1 q2 =>
      rename_i ad vs
      refine ⟨ad, rfl, ⟨vs, .of (r1.le _ _ q1)⟩, h1.here r1 _ fun i H2 le => ⟨fun d hd => ?_, fun hi => ?_⟩⟩
      · obtain ⟨v, e1, e2⟩ := q2.get hd
        exact ⟨⟨vs, v, .of (le _ _ q1), e1⟩, fun x H' ⟨eH, hx⟩ => .inl ⟨eH, by
          have := hx vs (.of (le _ _ q1))
          rw [e1] at this
          cases this
          exact e2⟩⟩
      · exact ⟨vs, .of (le _ _ q1), by rw [q2.length]; exact hi⟩
  | _ => exact h1.elim
theorem si_t (ha : PE X e (tX X.K X.mg W a)) : PI X tg e (tXI X.K X.mg W (.itt a)) := by
  refine (pi_tup ha).weak fun σ H R ⟨C, F, s, r, h⟩ => ⟨C, F, s, r, ?_⟩
  refine (Post.dat h).imp fun u F1 s1 H1 l1 r1 ⟨x, e, h1⟩ v d1 => ?_
  subst e
  cases x with
  | tuple ds =>
    cases d1 with
    | tup q1 q2 =>
      rename_i ad vs
      refine ⟨ad, rfl, ⟨vs, q1.mono r1.le⟩, h1.here r1 _ fun i H2 le => ⟨fun d hd => ?_, fun hi => ?_⟩⟩
      · obtain ⟨v, e1, e2⟩ := q2.get hd
        exact ⟨⟨vs, v, q1.mono le, e1⟩, fun x H' ⟨eH, hx⟩ => .inl ⟨eH, by
          have := hx vs (q1.mono le)
          rw [e1] at this
          cases this
          exact e2⟩⟩
      · exact ⟨vs, q1.mono le, by rw [q2.length]; exact hi⟩
  | _ => exact h1.elim
theorem walk_range {K : PySem.W.Frag} {F : Hp} (lo : Int) (n : Nat) : Walk K F (Itr lo n) (rangeD lo n) := fun i H le => by
  have hl : (rangeD lo n).length = n := by simp [rangeD]
  refine ⟨fun d hd => ?_, fun hi => by rw [hl] at hi; exact hi⟩
  have hi : i < n := by
    have := (List.getElem?_eq_some_iff.mp hd).1
    rw [hl] at this
    exact this
  have e : d = .int (lo + i) := by
    unfold rangeD at hd
    rw [List.getElem?_map, List.getElem?_range hi] at hd
    exact (Option.some.inj hd).symm
  subst e
  exact ⟨hi, fun x H' ⟨e1, e2⟩ => .inl ⟨e1, by rw [e2]; exact .int _⟩⟩
theorem si_r1 (hB : BltOk X.mg) (hg : Gl X "range") (ha : PE X e (tX X.K X.mg W a)) (hs : starEach [e] X.env = [(false, eval e X.env)]) : PI X tg (.Call (.Name "range" p) [e] [] pos) (tXI X.K X.mg W (.itr1 a)) := by
  refine (pi_range1 hg (hB _ (by decide +kernel)) (pa_cons ha pa_nil hs) hs).weak fun σ H R ⟨C, F, s, r, h⟩ => ⟨C, F, s, r, ?_⟩
  refine (Post.dat h).imp fun u F1 s1 H1 l1 r1 ⟨x, e, h1⟩ v d1 => ?_
  subst e
  cases x with
  | int j =>
    dsimp only at h1
    split at h1
    · rename_i hj
      cases d1
      exact ⟨j, rfl, by omega, by omega, h1.here r1 _ (walk_range 0 j.toNat)⟩
    · exact h1.elim
  | _ => exact h1.elim
theorem si_r2 {e2 : Expr} (hB : BltOk X.mg) (hg : Gl X "range") (ha : PE X e (tX X.K X.mg W a)) (hb : PE X e2 (tX X.K X.mg W b)) (hs : starEach [e, e2] X.env = [(false, eval e X.env), (false, eval e2 X.env)]) (hs2 : starEach [e2] X.env = [(false, eval e2 X.env)]) :
    PI X tg (.Call (.Name "range" p) [e, e2] [] pos) (tXI X.K X.mg W (.itr2 a b)) := by
  refine (pi_range2 hg (hB _ (by decide +kernel)) (pa_cons ha (pa_cons hb pa_nil hs2) (by rw [hs, hs2])) hs hs2).weak fun σ H R ⟨C, F, s, r, h⟩ => ⟨C, F, s, r, ?_⟩
  refine (Post.dat h).imp fun u F1 s1 H1 l1 r1 ⟨x, e, h1⟩ v d1 => ⟨C, F1, s1, r1, ?_⟩
  subst e
  refine (Post.dat h1).imp fun u F2 s2 H2 l2 r2 ⟨y, e, h2⟩ w d2 => ?_
  subst e
  cases x with
  | int i =>
    cases y with
    | int j =>
      dsimp only at h2
      split at h2
      · rename_i hj
        cases d1
        cases d2
        exact ⟨i, j, rfl, by omega, h2.here r2 _ (walk_range i (j - i).toNat)⟩
      · exact h2.elim
    | _ => exact h2.elim
  | _ => cases y <;> exact h2.elim

theorem zipD_get : ∀ {xs ys : List PyData} {i : Nat} {d : PyData}, (zipD xs ys)[i]? = some d → ∃ x y, d = .tuple [x, y] ∧ xs[i]? = some x ∧ ys[i]? = some y
  | [], _, _, _, h => by simp [zipD] at h
  | _ :: _, [], _, _, h => by simp [zipD] at h
  | x :: xs, y :: ys, 0, d, h => ⟨x, y, by simpa [zipD] using h.symm, rfl, rfl⟩
  | x :: xs, y :: ys, i + 1, d, h => by
    obtain ⟨u, v, h1, h2, h3⟩ := zipD_get (xs := xs) (ys := ys) (i := i) (by simpa [zipD] using h)
    exact ⟨u, v, h1, by simpa using h2, by simpa using h3⟩
theorem zipD_len : ∀ xs ys : List PyData, (zipD xs ys).length = min xs.length ys.length
  | [], _ => by simp [zipD]
  | _ :: _, [] => by simp [zipD]
  | x :: xs, y :: ys => by
    show (zipD xs ys).length + 1 = _
    rw [zipD_len xs ys]
    simp only [List.length_cons]
    omega
theorem walk_zipL {K : PySem.W.Frag} {F : Hp} {a b : Addr} {vs ws : List V} {xs ys : List PyData} (ha : F a = some (.lst vs)) (hb : F b = some (.lst ws)) (dx : DnAll K F vs xs) (dy : DnAll K F ws ys) : Walk K F (Itz K a b) (zipD xs ys) := fun i H le => by
  have qa : SqL K H a vs := .of (le _ _ ha)
  have qb : SqL K H b ws := .of (le _ _ hb)
  refine ⟨fun d hd => ?_, fun hi => ⟨vs, ws, qa, qb, ?_⟩⟩
  · obtain ⟨x, y, rfl, hx, hy⟩ := zipD_get hd
    obtain ⟨v, v1, v2⟩ := dx.get hx
    obtain ⟨w, w1, w2⟩ := dy.get hy
    refine ⟨⟨vs, ws, v, w, qa, qb, v1, w1⟩, fun u H' ⟨T, v', w', e1, e2, e3, e4, e5⟩ => .inr ⟨T, [v', w'], [x, y], e2, e3, e1, rfl, ?_⟩⟩
    have ev := e4 _ qa
    have ew := e5 _ qb
    rw [v1] at ev
    rw [w1] at ew
    cases ev
    cases ew
    exact .cons v2 (.cons w2 .nil)
  · rw [zipD_len] at hi
    rw [dx.length, dy.length]
    omega
theorem walk_zipT {K : PySem.W.Frag} {F : Hp} {a b : Addr} {vs ws : List V} {xs ys : List PyData} (ha : SqT K F a vs) (hb : SqT K F b ws) (dx : DnAll K F vs xs) (dy : DnAll K F ws ys) : Walk K F (RZ.ItzT K a b) (zipD xs ys) := fun i H le => by
  have qa : SqT K H a vs := ha.mono le
  have qb : SqT K H b ws := hb.mono le
  refine ⟨fun d hd => ?_, fun hi => ⟨vs, ws, qa, qb, ?_⟩⟩
  · obtain ⟨x, y, rfl, hx, hy⟩ := zipD_get hd
    obtain ⟨v, v1, v2⟩ := dx.get hx
    obtain ⟨w, w1, w2⟩ := dy.get hy
    refine ⟨⟨vs, ws, v, w, qa, qb, v1, w1⟩, fun u H' ⟨T, v', w', e1, e2, e3, e4, e5⟩ => .inr ⟨T, [v', w'], [x, y], e2, e3, e1, rfl, ?_⟩⟩
    have ev := e4 _ qa
    have ew := e5 _ qb
    rw [v1] at ev
    rw [w1] at ew
    cases ev
    cases ew
    exact .cons v2 (.cons w2 .nil)
  · rw [zipD_len] at hi
    rw [dx.length, dy.length]
    omega
theorem si_z {e2 : Expr} {elts : List Expr} {kk : Nat} {tpos : Pos} (hB : BltOk X.mg) (hg : Gl X "zip") (ha : PE X e (tX X.K X.mg W a)) (hb : PE X e2 (tX X.K X.mg W b)) (hs : starEach [e, e2] X.env = [(false, eval e X.env), (false, eval e2 X.env)]) (hs2 : starEach [e2] X.env = [(false, eval e2 X.env)]) :
    PI X (.Tuple elts kk tpos) (.Call (.Name "zip" p) [e, e2] [] pos) (tXI X.K X.mg W (.itz a b)) := by
  refine (RZ.pi_zipA hg (hB _ (by decide +kernel)) (pa_cons ha (pa_cons hb pa_nil hs2) (by rw [hs, hs2])) (by rw [hs, hs2]) (by rw [hs2]; rfl)).weak fun σ H R ⟨C, F, s, r, h⟩ => ⟨C, F, s, r, ?_⟩
  refine (Post.dat h).imp fun u F1 s1 H1 l1 r1 ⟨x, e, h1⟩ v d1 => ⟨C, F1, s1, r1, ?_⟩
  subst e
  refine (Post.dat h1).imp fun u F2 s2 H2 l2 r2 ⟨y, e, h2⟩ w d2 => ?_
  subst e
  have d1' := Dn.mono l2 _ _ d1
  cases x with
  | list xs =>
    cases y with
    | list ys =>
      cases d1' with
      | lst p1 p2 =>
        cases d2 with
        | lst q1 q2 => exact ⟨_, _, _, _, rfl, .inl ⟨.of (r2.le _ _ p1), .of (r2.le _ _ q1), h2.here r2 _ (walk_zipL p1 q1 p2 q2)⟩⟩
    | _ => exact h2.elim
  | tuple xs =>
    cases y with
    | tuple ys =>
      cases d1' with
      | tup p1 p2 =>
        cases d2 with
        | tup q1 q2 => exact ⟨_, _, _, _, rfl, .inr ⟨p1.mono r2.le, q1.mono r2.le, h2.here r2 _ (walk_zipT p1 q1 p2 q2)⟩⟩
    | _ => exact h2.elim
  | _ => cases y <;> exact h2.elim

/-! ### targets -/
theorem sg_name {i : Nat} {x : Str} (hN : X.N.Nodup) (hi : X.N[i]? = some x) (hx : Loc X.env.scope x) (hf : X.fn x = true ∨ X.env.scope.names.lookup x = some .local) : PG X (.Name x p) (tXG X.K (.tname i)) := by
  refine (pg_name hN hi hx hf).weak fun v σ H Q ⟨C, F, s, x, r, d, s', e, h⟩ => ?_
  cases e
  refine h _ (fun j hj => ?_) (by simp) (r.setD i d)
  rw [List.getElem?_set_ne (fun z => hj (by simp [slotsT, z]))]
theorem sgs_nil : PGs X [] (tXGs X.K .anil) := pgs_nil.weak fun vs σ H Q ⟨C, F, s, xs, r, d, s', e, h⟩ => by
  cases d with
  | nil =>
    cases e
    exact ⟨rfl, h σ (fun _ _ => rfl) rfl r⟩
  | cons _ _ => cases e
theorem sgs_cons (h1 : PG X e (tXG X.K a)) (h2 : PGs X es (tXGs X.K l)) (hs : (assignEach (e :: es) X.env).map (·.2) = assign e X.env :: (assignEach es X.env).map (·.2)) : PGs X (e :: es) (tXGs X.K (.acons a l)) := by
  refine (pgs_cons h1 h2 hs).weak fun vs σ H Q ⟨C, F, s, xs, r, d, s', e, h⟩ => ?_
  cases d with
  | nil => cases e
  | @cons v vs x xs d1 d2 =>
    have e' : ((asgT a x s).bind fun s => asgT.asgTs l xs s) = some s' := e
    cases q : asgT a x s with
    | some s1 =>
      rw [q] at e'
      refine ⟨v, vs, rfl, C, F, s, x, r, d1, s1, q, fun σ1 hσ hl r1 => ⟨C, F, s1, xs, r1, d2, s', e', fun σ2 hσ2 hl2 r2 => h σ2 (fun i hi => ?_) (hl2.trans hl) r2⟩⟩
      have hi' : i ∉ slotsT a ∧ i ∉ slotsT l := by
        have : i ∉ slotsT a ++ slotsT l := hi
        rw [List.mem_append] at this
        exact ⟨fun z => this (.inl z), fun z => this (.inr z)⟩
      rw [hσ2 i hi'.2, hσ i hi'.1]
    | none => rw [q] at e'; cases e'
theorem sg_tup {k n : Nat} (hc : X.calm = true) (h : PGs X es (tXGs X.K l)) (hn : (assignEach es X.env).length = n) (hst : (assignEach es X.env).findIdx? (·.1) = none) (hlen : ∀ xs s s', asgT.asgTs l xs s = some s' → xs.length = n) : PG X (.Tuple es k p) (tXG X.K (.ttup l)) := by
  refine (pg_tup hc h hn hst).weak fun v σ H Q ⟨C, F, s, x, r, d, s', e, h⟩ => ?_
  cases x with
  | tuple ds =>
    have e' : asgT.asgTs l ds s = some s' := e
    cases d with
    | @tup ad vs _ q1 q2 =>
      exact ⟨ad, vs, rfl, q1.mono r.le, by rw [q2.length]; exact hlen _ _ _ e', C, F, s, ds, r, q2, s', e', h⟩
  | _ => cases e
/-- a target's length -/
def lenT : T → Nat
  | .acons _ r => lenT r + 1
  | _ => 0
theorem asgTs_len : ∀ (l : T) (xs : List PyData) (s s' : S), asgT.asgTs l xs s = some s' → xs.length = lenT l := by
  intro l
  induction l with
  | anil =>
    intro xs s s' e
    cases xs with
    | nil => rfl
    | cons _ _ => cases e
  | acons a r _ ih =>
    intro xs s s' e
    cases xs with
    | nil => cases e
    | cons x xs =>
      have e' : ((asgT a x s).bind fun s => asgT.asgTs r xs s) = some s' := e
      cases q : asgT a x s with
      | some s1 =>
        rw [q] at e'
        have := ih xs s1 s' e'
        show xs.length + 1 = lenT r + 1
        rw [this]
      | none => rw [q] at e'; cases e'
  | _ => intro xs s s' e; cases xs <;> cases e
end

/-! ### comprehensions -/
theorem wipeS_len (r : List Slot) : ∀ vs : List Nat, (wipeS r vs).length = r.length
  | [] => rfl
  | v :: vs => by unfold wipeS; rw [List.length_set, wipeS_len r vs]
theorem wipeS_get {r : List Slot} {i : Nat} {w : Slot} (hw : w ≠ .un) : ∀ {vs : List Nat}, (wipeS r vs)[i]? = some w → r[i]? = some w ∧ i ∉ vs
  | [], h => ⟨h, by simp⟩
  | v :: vs, h => by
    unfold wipeS at h
    by_cases hi : v = i
    · subst hi
      have hv : v < (wipeS r vs).length := by
        have := (List.getElem?_eq_some_iff.mp h).1
        simpa using this
      rw [List.getElem?_set_self hv] at h
      cases h
      exact absurd rfl hw
    · rw [List.getElem?_set_ne hi] at h
      obtain ⟨h1, h2⟩ := wipeS_get hw h
      exact ⟨h1, by simp only [List.mem_cons, not_or]; exact ⟨fun e => hi e.symm, h2⟩⟩
theorem wipe_not {σ : L2.St} {i : Nat} : ∀ {vs : List Nat}, i ∉ vs → (wipe σ vs)[i]? = σ[i]?
  | [], _ => rfl
  | v :: vs, h => by
    simp only [List.mem_cons, not_or] at h
    unfold wipe
    rw [List.getElem?_set_ne (Ne.symm h.1)]
    exact wipe_not h.2
theorem wipe_in {σ : L2.St} {i : Nat} (hi : i < σ.length) : ∀ {vs : List Nat}, i ∈ vs → (wipe σ vs)[i]? = some none
  | v :: vs, h => by
    unfold wipe
    by_cases hv : v = i
    · subst hv
      rw [List.getElem?_set_self (by rw [wipe_length]; exact hi)]
    · rw [List.getElem?_set_ne hv]
      exact wipe_in hi ((List.mem_cons.mp h).resolve_left fun e => hv e.symm)
theorem wipe_ext {σ τ : L2.St} {vs : List Nat} (hl : τ.length = σ.length) (h : ∀ i, i ∉ vs → τ[i]? = σ[i]?) : wipe τ vs = wipe σ vs := by
  refine List.ext_getElem? fun i => ?_
  by_cases hi : i ∈ vs
  · by_cases hlt : i < σ.length
    · rw [wipe_in hlt hi, wipe_in (by rw [hl]; exact hlt) hi]
    · rw [List.getElem?_eq_none (by rw [wipe_length]; omega), List.getElem?_eq_none (by rw [wipe_length]; omega)]
  · rw [wipe_not hi, wipe_not hi, h i hi]
section
variable {K : PySem.W.Frag} {C : Ct} {F : Hp} {s : S} {σ : L2.St} {H : Hp}
/-- slots forgotten; where they are, the slots themselves may be any -/
theorem Rel.wiped (r : Rel K C F s σ H) (vs : List Nat) {τ : L2.St} (hl : τ.length = σ.length) (h : ∀ i, i ∉ vs → τ[i]? = σ[i]?) : Rel K C F ⟨wipeS s.rho vs, s.bag⟩ τ H := by
  refine ⟨r.le, r.ge, r.new, r.keep, r.hbag, r.bag, by rw [hl, r.len]; exact (wipeS_len _ _).symm, fun i u e => ?_, fun i ds e => ?_, fun i j ds es p e1 e2 q1 q2 => ?_⟩
  · obtain ⟨e', hi⟩ := wipeS_get (by intro z; cases z) e
    rw [h i hi]
    exact r.val i u e'
  · obtain ⟨e', hi⟩ := wipeS_get (by intro z; cases z) e
    rw [h i hi]
    exact r.own i ds e'
  · obtain ⟨e1', hi⟩ := wipeS_get (by intro z; cases z) e1
    obtain ⟨e2', hj⟩ := wipeS_get (by intro z; cases z) e2
    rw [h i hi] at q1
    rw [h j hj] at q2
    exact r.apart i j ds es p e1' e2' q1 q2
/-- beside it stands a new list at D -/
abbrev Ct.at (C : Ct) (D : Addr) (xs : List V) : Ct := { C with H0 := upd C.H0 D (.lst xs) }
theorem Rel.toAt (r : Rel K C F s σ H) {D : Addr} (hD : H D = none) (xs : List V) : Rel K (C.at D xs) F s σ (upd H D (.lst xs)) := by
  have hF := r.freeF hD
  have h0 := r.fresh0 hD
  have r1 := r.lay (.lst xs) hD
  refine ⟨r1.le, r1.ge, fun a o e => ?_, fun a o e n => ?_, r1.hbag, r1.bag, r1.len, r1.val, fun i ds e => ?_, r1.apart⟩
  · rcases r1.new a o e with q | q
    · exact .inl q
    · refine .inr ?_
      show upd C.H0 D (.lst xs) a = none
      rw [upd_ne]
      · exact q
      · intro z
        subst z
        rw [hF] at e
        cases e
  · have e' : upd C.H0 D (.lst xs) a = some o := e
    by_cases hp : a = D
    · subst hp
      rw [upd_same] at e' ⊢
      exact e'
    · rw [upd_ne hp] at e'
      exact r1.keep a o e' n
  · obtain ⟨p, vs, h1, h2, h3, h4, h5⟩ := r.own i ds e
    have hp : p ≠ D := by
      intro z
      subst z
      rw [hD] at h2
      cases h2
    exact ⟨p, vs, h1, by rw [upd_ne hp]; exact h2, h3, by show upd C.H0 D (.lst xs) p = none; rw [upd_ne hp]; exact h4, h5⟩
theorem Rel.atD {D : Addr} {xs : List V} (r : Rel K (C.at D xs) F s σ H) (hb : C.hb = false ∨ D ≠ C.b) : H D = some (.lst xs) := r.keep D _ upd_same hb
/-- the list at D grows -/
theorem Rel.grow {D : Addr} {xs ys : List V} (r : Rel K (C.at D xs) F s σ H) (h0 : C.F0 D = none) (hbD : C.hb = false ∨ D ≠ C.b) : Rel K (C.at D ys) F s σ (upd H D (.lst ys)) := by
  have hF : F D = none := by
    cases e : F D with
    | none => rfl
    | some o =>
      rcases r.new D o e with q | q
      · rw [h0] at q; cases q
      · have q' : upd C.H0 D (.lst xs) D = none := q
        rw [upd_same] at q'
        cases q'
  have own0 : ∀ {i : Nat} {ds : List PyData}, s.rho[i]? = some (.ol ds) → ∃ p vs, σ[i]? = some (some (.ref p)) ∧ H p = some (.lst vs) ∧ F p = none ∧ C.H0 p = none ∧ p ≠ D ∧ (C.hb = false ∨ p ≠ C.b) ∧ DnAll K F vs ds := fun {i ds} e => by
    obtain ⟨p, vs, h1, h2, h3, h4, h5, h6⟩ := r.own i ds e
    have h4' : upd C.H0 D (.lst xs) p = none := h4
    have hp : p ≠ D := by
      intro z
      subst z
      rw [upd_same] at h4'
      cases h4'
    rw [upd_ne hp] at h4'
    exact ⟨p, vs, h1, h2, h3, h4', hp, h5, h6⟩
  refine ⟨fun a o e => ?_, r.ge, fun a o e => ?_, fun a o e n => ?_, r.hbag, fun x y e => ?_, r.len, r.val, fun i ds e => ?_, r.apart⟩
  · have hp : a ≠ D := by
      intro z
      subst z
      rw [hF] at e
      cases e
    rw [upd_ne hp]
    exact r.le a o e
  · have hp : a ≠ D := by
      intro z
      subst z
      rw [hF] at e
      cases e
    rcases r.new a o e with q | q
    · exact .inl q
    · have q' : upd C.H0 D (.lst xs) a = none := q
      rw [upd_ne hp] at q'
      exact .inr (by show upd C.H0 D (.lst ys) a = none; rw [upd_ne hp]; exact q')
  · have e' : upd C.H0 D (.lst ys) a = some o := e
    by_cases hp : a = D
    · subst hp
      rw [upd_same] at e' ⊢
      exact e'
    · rw [upd_ne hp] at e'
      rw [upd_ne hp]
      exact r.keep a o (by show upd C.H0 D (.lst xs) a = some o; rw [upd_ne hp]; exact e') n
  · obtain ⟨h1, h2⟩ := r.bag x y e
    have hp : C.b ≠ D := by
      intro z
      have h1' : H C.b = some (.lst [.int x, .int y]) := h1
      rcases hbD with q | q
      · have h3 := r.hbag
        rw [e] at h3
        have h3' : true = C.hb := h3
        rw [q] at h3'
        cases h3'
      · exact q z.symm
    exact ⟨by rw [upd_ne hp]; exact h1, h2⟩
  · obtain ⟨p, vs, h1, h2, h3, h4, hp, h5, h6⟩ := own0 e
    exact ⟨p, vs, h1, by rw [upd_ne hp]; exact h2, h3, by show upd C.H0 D (.lst ys) p = none; rw [upd_ne hp]; exact h4, h5, h6⟩
end
end RD
set_option Elab.async false
set_option linter.all false
set_option maxRecDepth 100000
/-! RdH: comprehensions. -/
namespace RD
open PySem L2

section
variable {K : PySem.W.Frag} {C : Ct} {F : Hp} {s : S} {σ : L2.St} {H : Hp}
/-- the list at D is one of the frozen things now -/
theorem Rel.off {D : Addr} {xs : List V} (r : Rel K (C.at D xs) F s σ H) (h0 : C.H0 D = none) (hF0 : C.F0 D = none) (hbD : C.hb = false ∨ D ≠ C.b) : F D = none ∧ H D = some (.lst xs) ∧ Rel K C (upd F D (.lst xs)) s σ H := by
  have hF : F D = none := by
    cases e : F D with
    | none => rfl
    | some o =>
      rcases r.new D o e with q | q
      · rw [hF0] at q; cases q
      · have q' : upd C.H0 D (.lst xs) D = none := q
        rw [upd_same] at q'
        cases q'
  have hH := r.atD hbD
  refine ⟨hF, hH, ⟨fun a o e => ?_, r.ge.trans (Le.upd _ hF), fun a o e => ?_, fun a o e n => ?_, r.hbag, fun x y e => ?_, r.len, fun i u e => ?_, fun i ds e => ?_, r.apart⟩⟩
  · by_cases hp : a = D
    · subst hp
      rw [upd_same] at e
      cases e
      exact hH
    · rw [upd_ne hp] at e
      exact r.le a o e
  · by_cases hp : a = D
    · subst hp
      exact .inr h0
    · rw [upd_ne hp] at e
      rcases r.new a o e with q | q
      · exact .inl q
      · have q' : upd C.H0 D (.lst xs) a = none := q
        rw [upd_ne hp] at q'
        exact .inr q'
  · have hp : a ≠ D := by
      intro z
      subst z
      rw [h0] at e
      cases e
    exact r.keep a o (by show upd C.H0 D (.lst xs) a = some o; rw [upd_ne hp]; exact e) n
  · obtain ⟨h1, h2⟩ := r.bag x y e
    refine ⟨h1, ?_⟩
    rw [upd_ne]
    · exact h2
    · intro z
      rcases hbD with q | q
      · have h3 := r.hbag
        rw [e] at h3
        have h3' : true = C.hb := h3
        rw [q] at h3'
        cases h3'
      · exact q z.symm
  · obtain ⟨v, h1, h2⟩ := r.val i u e
    exact ⟨v, h1, h2.mono (Le.upd _ hF)⟩
  · obtain ⟨p, vs, h1, h2, h3, h4, h5, h6⟩ := r.own i ds e
    have h4' : upd C.H0 D (.lst xs) p = none := h4
    have hp : p ≠ D := by
      intro z
      subst z
      rw [upd_same] at h4'
      cases h4'
    rw [upd_ne hp] at h4'
    exact ⟨p, vs, h1, h2, by rw [upd_ne hp]; exact h3, h4', h5, Dn.monoAll (Le.upd _ hF) _ _ h6⟩
end

abbrev W0 : WX := fun _ _ _ _ => False
/-- a turn of a comprehension -/
def compF (own : List Nat) (g c e : T) : PyData → S → R (Option PyData) := fun x s => (R.ofS (asgT g x ⟨wipeS s.rho own, s.bag⟩)).bind fun _ s => (ev c s).tst fun k s => if k = true then (ev e s).dat fun y s => .ok (some y) s else .ok none s
theorem ev_comp (own : List Nat) (g it c e : T) (s : S) : ev (.comp own g it c e) s = (evI it s).bind fun xs s => match compR (compF own g c e) [] xs s with
    | .ok ys s => .ok (.d (.list ys)) ⟨wipeS s.rho own, s.bag⟩
    | _ => .stuck := rfl
theorem bind_ok {α β : Type} {m : R α} {k : α → S → R β} {b : β} {s' : S} (h : m.bind k = .ok b s') : ∃ a s, m = .ok a s ∧ k a s = .ok b s' := by
  cases m with
  | ok a s => exact ⟨a, s, rfl, h⟩
  | exn c p s => cases h
  | stuck => cases h
theorem dat_ok {β : Type} {m : R U} {k : PyData → S → R β} {b : β} {s' : S} (h : m.dat k = .ok b s') : ∃ x s, m = .ok (.d x) s ∧ k x s = .ok b s' := by
  obtain ⟨u, s, h1, h2⟩ := bind_ok h
  cases u with
  | d x => exact ⟨x, s, h1, h2⟩
  | _ => cases h2
theorem tst_ok {β : Type} {m : R U} {k : Bool → S → R β} {b : β} {s' : S} (h : m.tst k = .ok b s') : ∃ x s, m = .ok (.d (.bool x)) s ∧ k x s = .ok b s' := by
  obtain ⟨u, s, h1, h2⟩ := bind_ok h
  cases u with
  | d x =>
    cases x with
    | bool b => exact ⟨b, s, h1, h2⟩
    | _ => cases h2
  | _ => cases h2
theorem ofS_ok {o : Option S} {u : Unit} {s : S} (h : R.ofS o = .ok u s) : o = some s := by
  cases o with
  | some t => cases h; rfl
  | none => cases h
theorem drop_cons {α : Type} {xs : List α} {i : Nat} {x : α} (h : xs[i]? = some x) : xs.drop i = x :: xs.drop (i + 1) := by
  obtain ⟨hi, e⟩ := List.getElem?_eq_some_iff.mp h
  rw [List.drop_eq_getElem_cons hi, e]
section
variable {K : PySem.W.Frag} {mg : Str → Option Value} {W : WX} {own : List Nat} {g it c e : T} {tt : TT}
/-- what a comprehension's rule wants follows from what it computes; fr: the list is handed on unfrozen -/
theorem comp_core (hsub : ∀ i ∈ slotsT g, i ∈ own) (htt : ∀ σ H Q, tXT K mg W0 c σ H Q → tt σ H Q) {σ : L2.St} {H : Hp} {Q : VK} {C : Ct} {F : Hp} {s : S} (r : Rel K C F s σ H)
    (h : Post K mg W C F σ (evI it s) fun xs F1 s1 H1 => ∃ zs s2, compR (compF own g c e) [] xs s1 = .ok zs s2 ∧ ∀ D acc F2 H2, H1 D = none → Le F1 F2 → F2 D = none → H2 D = some (.lst acc) → DnAll K F2 acc zs → Rel K C F2 ⟨wipeS s2.rho own, s2.bag⟩ σ H2 → C.H0 D = none → (C.hb = false ∨ D ≠ C.b) →
      Rel K C (upd F2 D (.lst acc)) ⟨wipeS s2.rho own, s2.bag⟩ σ H2 → Q (.ref D) H2) :
    tLc (tXI K mg W it) (tXG K g) tt (tX K mg W0 e) own σ H Q := by
  refine ⟨C, F, s, r, h.imp fun xs F1 s1 H1 l1 r1 ⟨zs, s2, hm, hQ⟩ J hJ D hD => ?_⟩
  have h0 := r1.fresh0 hD
  have hbD := r1.bne hD
  have hF0 : C.F0 D = none := by
    cases q : C.F0 D with
    | none => rfl
    | some o =>
      have := r1.le _ _ (r1.ge _ _ q)
      rw [hD] at this
      cases this
  refine ⟨fun i m H2 => m = xs.length - i ∧ i ≤ xs.length ∧ ∃ F2 s3 σ2 acc ys, Le F1 F2 ∧ σ2.length = σ.length ∧ (∀ j, j ∉ own → σ2[j]? = σ[j]?) ∧ Rel K (C.at D acc) F2 s3 σ2 H2 ∧ DnAll K F2 acc ys ∧ compR (compF own g c e) ys (xs.drop i) s3 = .ok zs s2,
    ⟨xs.length, by simp, Nat.zero_le _, F1, s1, σ, [], [], Le.refl _, rfl, fun _ _ => rfl, r1.toAt hD [], .nil, by simpa using hm⟩, ?_⟩
  rintro i m H2 ⟨rfl, hi, F2, s3, σ2, acc, ys, l2, hl2, hσ2, r2, d2, hm2⟩
  have hW := hJ i H2 (l2.trans r2.le)
  by_cases hlt : i < xs.length
  · have hx : xs[i]? = some xs[i] := List.getElem?_eq_getElem hlt
    obtain ⟨go, hy⟩ := hW.1 _ hx
    rw [drop_cons hx] at hm2
    obtain ⟨o, s4, hf, hm3⟩ := bind_ok (show ((compF own g c e) xs[i] s3).bind (fun o s => match o with
      | some y => if ys.length < big then compR (compF own g c e) (ys ++ [y]) (xs.drop (i + 1)) s else .stuck
      | none => compR (compF own g c e) ys (xs.drop (i + 1)) s) = .ok zs s2 from hm2)
    obtain ⟨_, s5, ha', hf2⟩ := bind_ok (show (R.ofS (asgT g xs[i] ⟨wipeS s3.rho own, s3.bag⟩)).bind _ = .ok o s4 from hf)
    have ha := ofS_ok ha'
    obtain ⟨k, s6, hc, hf3⟩ := tst_ok hf2
    refine .inr ⟨go, fun H' => i + 1 ≤ xs.length ∧ ∃ F2 s3 σ2 acc ys, Le F1 F2 ∧ σ2.length = σ.length ∧ (∀ j, j ∉ own → σ2[j]? = σ[j]?) ∧ Rel K (C.at D acc) F2 s3 σ2 H' ∧ DnAll K F2 acc ys ∧ compR (compF own g c e) ys (xs.drop (i + 1)) s3 = .ok zs s2,
      fun H' ⟨q1, q2⟩ => ⟨xs.length - (i + 1), by omega, rfl, q1, q2⟩, fun x H' hyl => ?_⟩
    -- the item stands in F3
    have item : ∃ F3, Le F2 F3 ∧ Rel K (C.at D acc) F3 s3 σ2 H' ∧ Dn K F3 x xs[i] := by
      rcases hy x H' hyl with ⟨rfl, d⟩ | ⟨p, vs, ds, hp, rfl, rfl, ed, d⟩
      · exact ⟨F2, Le.refl _, r2, Dn.mono l2 _ _ d⟩
      · obtain ⟨F3, l3, r3, d3⟩ := r2.tup hp (Dn.monoAll l2 _ _ d)
        exact ⟨F3, l3, r3, by rw [ed]; exact d3⟩
    obtain ⟨F3, l3, r3, dx⟩ := item
    have r4 := r3.wiped own (τ := wipe σ own) (by rw [wipe_length, hl2]) fun j hj => by rw [wipe_not hj, hσ2 j hj]
    refine ⟨C.at D acc, F3, _, xs[i], r4, dx, s5, ha, fun σ3 h3 hl3 r5 => ?_⟩
    have hσ3 : ∀ j, j ∉ own → σ3[j]? = σ[j]? := fun j hj => by
      rw [h3 j (fun z => hj (hsub j z)), wipe_not hj]
    have hlen3 : σ3.length = σ.length := by rw [hl3, wipe_length]
    refine ⟨wipe_ext hlen3 hσ3, htt _ _ _ ⟨C.at D acc, F3, s5, r5, ?_⟩⟩
    rw [hc]
    intro F4 H4 l4 r6
    cases k with
    | false =>
      cases hf3
      exact ⟨hlt, F4, s4, σ3, acc, ys, l2.trans (l3.trans l4), hlen3, hσ3, r6, Dn.monoAll (l3.trans l4) _ _ d2, hm3⟩
    | true =>
      obtain ⟨y, s7, he, hf4⟩ := dat_ok (show (ev e s6).dat (fun y s => R.ok (some y) s) = .ok o s4 from hf3)
      cases hf4
      refine ⟨C.at D acc, F4, s6, r6, ?_⟩
      rw [he]
      intro F5 H5 l5 r7 v dv
      have hH := r7.atD hbD
      dsimp only at hm3
      split at hm3
      · rename_i hbig
        refine ⟨acc, hH, ?_, hlt, F5, s4, σ3, acc ++ [v], ys ++ [y], l2.trans (l3.trans (l4.trans l5)), hlen3, hσ3, r7.grow hF0 hbD, (Dn.monoAll (l3.trans (l4.trans l5)) _ _ d2).append (.cons dv .nil), hm3⟩
        rw [d2.length]
        exact Nat.lt_of_lt_of_le hbig big_line
      · cases hm3
  · have ei : i = xs.length := by omega
    refine .inl ⟨hW.2 (by omega), ?_⟩
    rw [ei, List.drop_length] at hm2
    cases hm2
    have r3 := r2.wiped own (τ := σ) hl2.symm fun j hj => (hσ2 j hj).symm
    obtain ⟨hF, hH, r4⟩ := r3.off h0 hF0 hbD
    have r5 : Rel K C F2 ⟨wipeS s2.rho own, s2.bag⟩ σ H2 := by
      refine ⟨r3.le, r3.ge, fun a o e => ?_, fun a o e n => ?_, r3.hbag, r3.bag, r3.len, r3.val, fun i ds e => ?_, r3.apart⟩
      · rcases r3.new a o e with q | q
        · exact .inl q
        · have q' : upd C.H0 D (.lst acc) a = none := q
          by_cases hp : a = D
          · subst hp
            rw [upd_same] at q'
            cases q'
          · rw [upd_ne hp] at q'
            exact .inr q'
      · have hp : a ≠ D := by
          intro z
          subst z
          rw [h0] at e
          cases e
        exact r3.keep a o (by show upd C.H0 D (.lst acc) a = some o; rw [upd_ne hp]; exact e) n
      · obtain ⟨p, vs, h1, h2, h3, h4, h5⟩ := r3.own i ds e
        have h4' : upd C.H0 D (.lst acc) p = none := h4
        have hp : p ≠ D := by
          intro z
          subst z
          rw [upd_same] at h4'
          cases h4'
        rw [upd_ne hp] at h4'
        exact ⟨p, vs, h1, h2, h3, h4', h5⟩
    exact hQ D acc F2 H2 hD l2 hF hH d2 r5 h0 hbD r4
theorem comp_tX (hsub : ∀ i ∈ slotsT g, i ∈ own) (htt : ∀ σ H Q, tXT K mg W0 c σ H Q → tt σ H Q) (σ : L2.St) (H : Hp) (Q : VK) (h : tX K mg W (.comp own g it c e) σ H Q) : tLc (tXI K mg W it) (tXG K g) tt (tX K mg W0 e) own σ H Q := by
  obtain ⟨C, F, s, r, h⟩ := h
  rw [ev_comp] at h
  refine comp_core hsub htt r ((Post.bind h).imp fun xs F1 s1 H1 l1 r1 q => ?_)
  cases hm : compR (compF own g c e) [] xs s1 with
  | ok zs s2 =>
    rw [hm] at q
    refine ⟨zs, s2, rfl, fun D acc F2 H2 hD l2 hF hH d r2 h0 hb r3 => ?_⟩
    exact q _ H2 (l2.trans (Le.upd _ hF)) r3 _ (.lst upd_same (Dn.monoAll (Le.upd _ hF) _ _ d))
  | exn c p s2 => rw [hm] at q; exact q.elim
  | stuck => rw [hm] at q; exact q.elim
end
end RD
set_option Elab.async false
set_option linter.all false
set_option maxRecDepth 100000
/-! RdI: statements do what ex says, node by node. -/
namespace RD
open PySem L2

section
variable {K : PySem.W.Frag} {mg : Str → Option Value} {W : WX} {C : Ct} {F F' : Hp} {σ : L2.St} {α : Type} {D D' : Ends}
theorem PostS.up {m : R Out} (h : PostS K mg W C F m D) (le : Le F F') : PostS K mg W C F' m D := by
  cases m with
  | ok o s =>
    cases o with
    | nx => exact fun G σ H l r => h G σ H (le.trans l) r
    | rt u => exact fun G σ H v l r d => h G σ H v (le.trans l) r d
  | exn c p s => exact fun G σ H cls d l r e => h G σ H cls d (le.trans l) r e
  | stuck => exact h
theorem PostS.bind {m : R α} {k : α → S → R Out} (h : PostS K mg W C F (m.bind k) D) : Post K mg W C F σ m fun a F' s _ => PostS K mg W C F' (k a s) D := by
  cases m with
  | ok a s => exact fun G H l _ => PostS.up h l
  | exn c p s => exact fun G H cls d l r e => h G σ H cls d l r e
  | stuck => exact h
theorem PostS.dat {m : R U} {k : PyData → S → R Out} (h : PostS K mg W C F (m.dat k) D) : Post K mg W C F σ m fun u F' s _ => ∃ x, u = .d x ∧ PostS K mg W C F' (k x s) D := by
  refine (PostS.bind h).imp fun u F' s H' _ _ q => ?_
  cases u with
  | d x => exact ⟨x, rfl, q⟩
  | _ => exact q.elim
theorem PostS.tst {m : R U} {k : Bool → S → R Out} (h : PostS K mg W C F (m.tst k) D) : Post K mg W C F σ (m.tst .ok) fun b F' s _ => PostS K mg W C F' (k b s) D := by
  have e : m.tst k = (m.tst .ok).bind k := by
    cases m with
    | ok u s =>
      cases u with
      | d x => cases x <;> rfl
      | _ => rfl
    | _ => rfl
  rw [e] at h
  exact PostS.bind h
theorem PostS.here {s : S} {H : Hp} (h : PostS K mg W C F (.ok .nx s) D) (r : Rel K C F s σ H) : D.nx σ H := h F σ H (Le.refl F) r
theorem PostS.seq {m : R Out} {k : S → R Out} (h : PostS K mg W C F (m.bind fun o s => match o with
    | .nx => k s
    | .rt u => .ok (.rt u) s) D) : PostS K mg W C F m { D with nx := fun σ H => ∃ F' s, Le F F' ∧ Rel K C F' s σ H ∧ PostS K mg W C F' (k s) D } := by
  cases m with
  | ok o s =>
    cases o with
    | nx => exact fun G σ H l r => ⟨G, s, l, r, PostS.up h l⟩
    | rt u => exact h
  | exn c p s => exact h
  | stuck => exact h
theorem PostS.imp {m : R Out} (h : PostS K mg W C F m D) (h1 : ∀ σ H, D.nx σ H → D'.nx σ H) (h2 : ∀ v H, D.rt v H → D'.rt v H) : PostS K mg W C F m D' := by
  cases m with
  | ok o s =>
    cases o with
    | nx => exact fun G σ H l r => h1 _ _ (h G σ H l r)
    | rt u => exact fun G σ H v l r d => h2 _ _ (h G σ H v l r d)
  | exn c p s => exact h
  | stuck => exact h
end

section
variable {X : Cx} {W : WX} {e ec : Expr} {st : Stmt} {rest sa sb body : List Stmt} {a b c g it l r : T} {p pos : Pos} {tg : Expr}
theorem ss_nil : PSs X [] (tS X.K X.mg W .nil) := pss_nil.weak fun D σ H ⟨C, F, s, r, h⟩ => h.here r
theorem ss_cons (ha : PS X st (tS X.K X.mg W a)) (hb : PSs X rest (tS X.K X.mg W b)) : PSs X (st :: rest) (tS X.K X.mg W (.seq a b)) := by
  refine (pss_cons ha hb).weak fun D σ H ⟨C, F, s, r, h⟩ => ⟨C, F, s, r, ?_⟩
  exact (PostS.seq (k := fun s => ex b s) h).imp (fun σ H ⟨F', s', _, r', q⟩ => ⟨C, F', s', r', q⟩) fun v H q => q
theorem ss_asg (ha : PE X e (tX X.K X.mg W a)) (hg : PG X tg (tXG X.K g)) (hs : swapsWithSole [tg] e pos.line X.env = pure false) (hw : swappedStores [tg] e X.env = pure none) (h1 : (assignEach [tg] X.env).map (·.2) = [assign tg X.env]) :
    PS X (.Assign [tg] e pos) (tS X.K X.mg W (.asg g a)) := by
  refine (ps_asg ha hg hs hw h1).weak fun D σ H ⟨C, F, s, r, h⟩ => ⟨C, F, s, r, ?_⟩
  refine (PostS.dat h).imp fun u F1 s1 H1 l1 r1 ⟨x, e, h1⟩ v d1 => ?_
  subst e
  have h2 : PostS X.K X.mg W C F1 ((R.ofS (asgT g x s1)).bind fun _ s => .ok .nx s) D := h1
  cases q : asgT g x s1 with
  | none => rw [q] at h2; exact h2.elim
  | some s2 =>
    rw [q] at h2
    exact ⟨C, F1, s1, x, r1, d1, s2, q, fun σ' _ _ r2 => h2 F1 σ' H1 (Le.refl _) r2⟩
/-- name = [..], an assignment on one line -/
theorem ss_asgLc {i : Nat} {y : Str} {py : Pos} {elt tgc iter : Expr} {ifs : List Expr} {scope : Scope} {own : List (Str × Nat)} {spos : Pos} {tt : TT} (hc : X.calm = true) (hN : X.N.Nodup) (hy : X.N[i]? = some y) (hyl : X.env.scope.names.lookup y = some .local)
    (hsw : swapsWith (.ListComp elt [⟨tgc, iter, ifs, 0⟩] scope pos) (some (.Name y py)) spos.line X.env = pure true) (hi : PI X tgc iter (tXI X.K X.mg W it)) (ok : BlkOk X.N X.env.scope scope own)
    (hg : ∀ (s : Shared) (H : Hp) (C : Addr) (cl : List (Str × Addr)) (fp : List Addr), PG (X.blk s H scope (compEnvC scope cl C X.env) fp) tgc (tXG X.K g)) (ht : ∀ (s : Shared) (H : Hp) (C : Addr) (cl : List (Str × Addr)) (fp : List Addr), PTs (X.blk s H scope (compEnvC scope cl C X.env) fp) ifs tt)
    (he : ∀ (s : Shared) (H : Hp) (C : Addr) (cl : List (Str × Addr)) (fp : List Addr), PE (X.blk s H scope (compEnvC scope cl C X.env) fp) elt (tX X.K X.mg W0 a)) (hs : ∀ x, foldedSetIterable iter X.env x = pure x)
    (hsub : ∀ i ∈ slotsT g, i ∈ own.map (·.2)) (htt : ∀ σ H Q, tXT X.K X.mg W0 c σ H Q → tt σ H Q) :
    PS X (.Assign [.Name y py] (.ListComp elt [⟨tgc, iter, ifs, 0⟩] scope pos) spos) (tS X.K X.mg W (.asg (.tname i) (.comp (own.map (·.2)) g it c a))) := by
  refine (ps_setLc hc hN hy hyl hsw hi ok hg ht he hs).weak fun D σ H ⟨C, F, s, r, h⟩ => ?_
  refine comp_tX hsub htt σ H _ ⟨C, F, s, r, ?_⟩
  refine (PostS.dat h).imp fun u F1 s1 H1 l1 r1 ⟨x, e, h1⟩ v d1 => ?_
  subst e
  exact h1 F1 _ H1 (Le.refl _) (r1.setD i d1)
theorem Rel.setO' {K : PySem.W.Frag} {C : Ct} {F : Hp} {s : S} {σ : L2.St} {H H0 : Hp} (r : Rel K C F s σ H) (i : Nat) {q : Addr} {vs : List V} {ds : List PyData} (hq : H q = some (.lst vs)) (hF : F q = none) (h0 : C.H0 q = none) (hb : C.hb = false ∨ q ≠ C.b) (hd : DnAll K F vs ds)
    (ho : ∀ (j : Nat) (es : List PyData), s.rho[j]? = some (.ol es) → σ[j]? ≠ some (some (.ref q))) : Rel K C F ⟨s.rho.set i (.ol ds), s.bag⟩ (σ.set i (some (.ref q))) H :=
  r.setO i hq hF h0 hb hd fun j es _ e => ho j es e
/-- name = [a, b, ..], a list that will grow -/
theorem ss_asgO {i : Nat} {y : Str} {es : List Expr} {p2 : Pos} (hN : X.N.Nodup) (hi : X.N[i]? = some y) (hx : Loc X.env.scope y) (hf : X.fn y = true ∨ X.env.scope.names.lookup y = some .local) (hl : PA X es (tXA X.K X.mg W l)) :
    PS X (.Assign [.Name y p] (.List es p2) pos) (tS X.K X.mg W (.asgO i (.lst l))) := by
  refine (ps_set hN hi hx (pe_lst hl) rfl hf).weak fun D σ H ⟨C, F, s, r, h⟩ => ⟨C, F, s, r, ?_⟩
  have h' : PostS X.K X.mg W C F ((evA l s).bind fun us s => match datas us with
    | some xs => if xs.length ≤ big then .ok .nx ⟨s.rho.set i (.ol xs), s.bag⟩ else .stuck
    | none => .stuck) D := by
    have h2 : PostS X.K X.mg W C F (((evA l s).bind fun us s => match datas us with
      | some xs => if xs.length ≤ big then .ok (.d (.list xs)) s else .stuck
      | none => (.stuck : R U)).dat fun x s => match x with
      | .list xs => .ok .nx ⟨s.rho.set i (.ol xs), s.bag⟩
      | _ => .stuck) D := h
    revert h2
    cases evA l s with
    | ok us s1 =>
      simp only [R.bind_ok]
      cases datas us with
      | none => exact id
      | some xs =>
        dsimp only
        split <;> exact id
    | _ => exact id
  refine (PostS.bind h').imp fun us F1 s1 H1 l1 r1 h1 vs d1 => ?_
  cases e : datas us with
  | none => rw [e] at h1; exact h1.elim
  | some xs =>
    rw [e] at h1
    have dn := datas_dn d1 e
    dsimp only at h1
    split at h1
    · rename_i hb
      refine ⟨by rw [dn.length]; exact Nat.le_trans hb big_line, fun q hq => ?_⟩
      have r2 := r1.lay (.lst vs) hq
      exact h1 F1 _ _ (Le.refl _) (r2.setO i upd_same (r1.freeF hq) (r1.fresh0 hq) (r1.bne hq) dn fun j es _ e z => r1.ownNe hq j es e z)
    · exact h1.elim
/-- name = [.. for ..], a list that will grow; the two ways of storing it -/
theorem asgO_comp {i : Nat} {own : List Nat} {tt : TT} (hsub : ∀ i ∈ slotsT g, i ∈ own) (htt : ∀ σ H Q, tXT X.K X.mg W0 c σ H Q → tt σ H Q) {D : Ends} {σ : L2.St} {H : Hp} (h : tS X.K X.mg W (.asgO i (.comp own g it c a)) D σ H) :
    tAsg (tLc (tXI X.K X.mg W it) (tXG X.K g) tt (tX X.K X.mg W0 a) own) (gName i) D σ H := by
  obtain ⟨C, F, s, r, h⟩ := h
  have h' : PostS X.K X.mg W C F ((evI it s).bind fun xs s => match compR (compF own g c a) [] xs s with
    | .ok ys s => .ok .nx ⟨(wipeS s.rho own).set i (.ol ys), s.bag⟩
    | _ => .stuck) D := by
    have h2 : PostS X.K X.mg W C F (((evI it s).bind fun xs s => match compR (compF own g c a) [] xs s with
      | .ok ys s => .ok (.d (.list ys)) ⟨wipeS s.rho own, s.bag⟩
      | _ => (.stuck : R U)).dat fun x s => match x with
      | .list xs => .ok .nx ⟨s.rho.set i (.ol xs), s.bag⟩
      | _ => .stuck) D := h
    revert h2
    cases evI it s with
    | ok xs s1 =>
      simp only [R.bind_ok]
      cases compR (compF own g c a) [] xs s1 <;> exact id
    | _ => exact id
  refine comp_core hsub htt r ((PostS.bind h').imp fun xs F1 s1 H1 l1 r1 q => ?_)
  cases hm : compR (compF own g c a) [] xs s1 with
  | ok zs s2 =>
    rw [hm] at q
    refine ⟨zs, s2, rfl, fun E acc F2 H2 hE l2 hF hH d r2 h0 hb r3 => ?_⟩
    refine q F2 _ H2 l2 (r2.setO i hH hF h0 hb d fun j es _ e z => ?_)
    -- a slot of its own at E would be frozen in r3
    obtain ⟨p, vs, h1, h2, h3, _⟩ := r3.own j es e
    rw [z] at h1
    cases h1
    rw [upd_same] at h3
    cases h3
  | exn c p s2 => rw [hm] at q; exact q.elim
  | stuck => rw [hm] at q; exact q.elim
/-- name = xs + ys, a list that will grow -/
theorem ss_asgO_add {i : Nat} {y : Str} {ea eb : Expr} {p2 : Pos} (hN : X.N.Nodup) (hi : X.N[i]? = some y) (hx : Loc X.env.scope y) (hf : X.fn y = true ∨ X.env.scope.names.lookup y = some .local) (ha : PE X ea (tX X.K X.mg W a)) (hb : PE X eb (tX X.K X.mg W b)) :
    PS X (.Assign [.Name y p] (.BinOp ea .Add eb p2) pos) (tS X.K X.mg W (.asgO i (.bin .add a b))) := by
  refine (ps_set hN hi hx (pe_op op_cat ha hb) rfl hf).weak fun D σ H ⟨C, F, s, r, h⟩ => ⟨C, F, s, r, ?_⟩
  have h' : PostS X.K X.mg W C F ((ev a s).dat fun x s => (ev b s).dat fun y s => (lift (binop .add x y) s).dat fun x s => match x with
      | .list xs => .ok .nx ⟨s.rho.set i (.ol xs), s.bag⟩
      | _ => .stuck) D := by
    have h2 : PostS X.K X.mg W C F (((ev a s).dat fun x s => (ev b s).dat fun y s => lift (binop .add x y) s).dat fun x s => match x with
      | .list xs => .ok .nx ⟨s.rho.set i (.ol xs), s.bag⟩
      | _ => .stuck) D := h
    revert h2
    cases ev a s with
    | ok u s1 =>
      cases u with
      | d x =>
        simp only [R.dat_ok]
        cases ev b s1 with
        | ok u2 s2 => cases u2 <;> exact id
        | _ => exact id
      | _ => exact id
    | _ => exact id
  refine (PostS.dat h').imp fun u F1 s1 H1 l1 r1 ⟨x, e, h1⟩ v d1 => ⟨C, F1, s1, r1, ?_⟩
  subst e
  refine (PostS.dat h1).imp fun u F2 s2 H2 l2 r2 ⟨y, e, h2⟩ w d2 => ?_
  subst e
  cases ez : binop .add x y with
  | none => rw [ez] at h2; exact h2.elim
  | some z =>
    rw [ez] at h2
    cases z with
    | list zs =>
      have d1' := Dn.mono l2 _ _ d1
      cases x with
      | list xs =>
        cases y with
        | list ys =>
          simp only [binop] at ez
          split at ez
          · rename_i hbig
            cases ez
            cases d1' with
            | @lst ad vs _ q1 q2 =>
              cases d2 with
              | @lst bd ws _ q3 q4 =>
                refine ⟨ad, bd, vs, ws, rfl, rfl, r2.le _ _ q1, r2.le _ _ q3, ?_, fun q hq => ?_⟩
                · rw [q2.length, q4.length]
                  exact Nat.le_trans hbig big_line
                · have r3 := r2.lay (.lst (vs ++ ws)) hq
                  exact h2 F2 _ _ (Le.refl _) (r3.setO i upd_same (r2.freeF hq) (r2.fresh0 hq) (r2.bne hq) (q2.append q4) fun j es _ e z => r2.ownNe hq j es e z)
          · cases ez
        | _ => cases ez
      | int _ => cases y <;> cases ez
      | str _ =>
        cases y with
        | str _ => simp only [binop] at ez; split at ez <;> cases ez
        | _ => cases ez
      | tuple _ =>
        cases y with
        | tuple _ => simp only [binop] at ez; split at ez <;> cases ez
        | _ => cases ez
      | _ => cases ez
    | _ => exact h2.elim
/-- the own list of a slot grows by one -/
theorem Rel.push {K : PySem.W.Frag} {C : Ct} {F : Hp} {s : S} {σ : L2.St} {H : Hp} (r : Rel K C F s σ H) {i : Nat} {ds : List PyData} {q : Addr} {vs : List V} {v : V} {x : PyData} (e : s.rho[i]? = some (.ol ds)) (hσ : σ[i]? = some (some (.ref q))) (hH : H q = some (.lst vs)) (dv : Dn K F v x) :
    Rel K C F ⟨s.rho.set i (.ol (ds ++ [x])), s.bag⟩ σ (upd H q (.lst (vs ++ [v]))) := by
  obtain ⟨p, ws, h1, h2, h3, h4, h5, h6⟩ := r.own i ds e
  rw [hσ] at h1
  cases h1
  rw [hH] at h2
  cases h2
  have hne : ∀ {a : Addr} {o : HO}, F a = some o → a ≠ q := fun e z => by
    subst z
    rw [h3] at e
    cases e
  have hi : i < s.rho.length := (List.getElem?_eq_some_iff.mp e).1
  have r1 : Rel K C F ⟨s.rho.set i .un, s.bag⟩ σ (upd H q (.lst (vs ++ [v]))) := by
    have r0 := r.unset i
    have old : ∀ {j : Nat} {es : List PyData}, (s.rho.set i Slot.un)[j]? = some (.ol es) → i ≠ j ∧ s.rho[j]? = some (.ol es) := fun {j es} e' => by
      by_cases hj : i = j
      · subst hj
        rw [List.getElem?_set_self hi] at e'
        cases e'
      · rw [List.getElem?_set_ne hj] at e'
        exact ⟨hj, e'⟩
    refine ⟨fun a o h => ?_, r0.ge, r0.new, fun a o h n => ?_, r0.hbag, fun x y h => ?_, r0.len, r0.val, fun j es h => ?_, r0.apart⟩
    · rw [upd_ne (hne h)]
      exact r0.le a o h
    · rw [upd_ne]
      · exact r0.keep a o h n
      · intro z
        subst z
        rw [h4] at h
        cases h
    · obtain ⟨b1, b2⟩ := r0.bag x y h
      refine ⟨?_, b2⟩
      rw [upd_ne]
      · exact b1
      · intro z
        rcases h5 with w | w
        · have h7 := r.hbag
          have h' : s.bag = some (x, y) := h
          rw [h', w] at h7
          cases h7
        · exact w z.symm
    · obtain ⟨p', ws, g1, g2, g3⟩ := r0.own j es h
      obtain ⟨hj, h'⟩ := old h
      refine ⟨p', ws, g1, ?_, g3⟩
      rw [upd_ne]
      · exact g2
      · intro z
        subst z
        exact hj (r.apart i j ds es p' e h' hσ g1)
  have r2 := r1.setO i (p := q) (ds := ds ++ [x]) upd_same h3 h4 h5 (h6.append (.cons dv .nil)) fun j es hj e' z => by
    have e'' : (s.rho.set i Slot.un)[j]? = some (.ol es) := e'
    rw [List.getElem?_set_ne hj] at e''
    exact hj (r.apart i j ds es q e e'' hσ z)
  have r3 : Rel K C F ⟨(s.rho.set i Slot.un).set i (.ol (ds ++ [x])), s.bag⟩ (σ.set i (some (.ref q))) (upd H q (.lst (vs ++ [v]))) := r2
  rw [List.set_set, set_same hσ] at r3
  exact r3
/-- the bag's numbers are set -/
theorem Rel.bset {C : Ct} {F : Hp} {rho : List Slot} {σ : L2.St} {H : Hp} {x y x' y' : Int} (r : Rel X.K C F ⟨rho, some (x, y)⟩ σ H) : Rel X.K C F ⟨rho, some (x', y')⟩ σ (upd H C.b (.lst [.int x', .int y'])) := by
  have hb : C.hb = true := r.hbag.symm
  have h0 := (r.bag x y rfl)
  exact {
    le := fun a o e => by
      rw [upd_ne]
      · exact r.le a o e
      · intro z
        subst z
        rw [h0.2] at e
        cases e
    ge := r.ge
    new := r.new
    keep := fun a o e n => by
      rw [upd_ne]
      · exact r.keep a o e n
      · rcases n with n | n
        · rw [hb] at n
          cases n
        · exact n
    hbag := r.hbag
    bag := fun a b e => by
      cases e
      exact ⟨upd_same, h0.2⟩
    len := r.len
    val := r.val
    own := fun i ds e => by
      obtain ⟨p, vs, h1, h2, h3, h4, h5, h6⟩ := r.own i ds e
      refine ⟨p, vs, h1, ?_, h3, h4, h5, h6⟩
      rw [upd_ne]
      · exact h2
      · rcases h5 with n | n
        · rw [hb] at n
          cases n
        · exact n
    apart := r.apart }
theorem ss_bset {i j : Nat} {y : Str} {py pt : Pos} {n} {p2 : Pos} (hj : j ≤ 1) (hi : X.N[i]? = some y) (hv : Vis X.env.scope y) (hd : (y == ("__debug__" : Str)) = false) (hcd : (y == ("__classdict__" : Str)) = false) (ha : PE X e (tX X.K X.mg W a))
    (hw : swapsWithSole [.Subscript (.Name y py) (.Constant (.int (j : Int)) n p2) pt] e pos.line X.env = pure false) : PS X (.Assign [.Subscript (.Name y py) (.Constant (.int (j : Int)) n p2) pt] e pos) (tS X.K X.mg W (.bset i j a)) := by
  refine (ps_asg ha (pg_sub (pe_var hi hv hd hcd) pe_int set_list (fun _ => rfl)) hw rfl rfl).weak fun D σ H ⟨C, F, s, r, h⟩ => ?_
  have h0 : PostS X.K X.mg W C F ((ev a s).dat fun v s => match v, s.rho[i]?, s.bag with
    | .int k, some (.val .bag), some (x, y) => .ok .nx ⟨s.rho, some (if j = 0 then (k, y) else (x, k))⟩
    | _, _, _ => .stuck) D := h
  refine ⟨C, F, s, r, ?_⟩
  refine (PostS.dat h0).imp fun u F1 s1 H1 l1 r1 ⟨v, e, q⟩ w d1 => ?_
  subst e
  split at q
  · rename_i k x y e1 e2 _
    cases d1
    obtain ⟨v, g1, g2⟩ := r1.val i _ e1
    cases g2
    obtain ⟨h3, _⟩ := r1.bag x y e2
    have r1' : Rel X.K C F1 ⟨s1.rho, some (x, y)⟩ σ H1 := by rw [← e2]; exact r1
    refine ⟨_, g1, C.b, _, (j : Int), j, rfl, rfl, h3, ?_, ?_⟩
    · match j, hj with
      | 0, _ => rfl
      | 1, _ => rfl
    · match j, hj with
      | 0, _ => exact q F1 σ _ (Le.refl _) (r1'.bset (x' := k) (y' := y))
      | 1, _ => exact q F1 σ _ (Le.refl _) (r1'.bset (x' := x) (y' := k))
  · exact q.elim
/-- an own class of errors with a text alone -/
def ExcOk (K : PySem.W.Frag) (mg : Str → Option Value) (x : Str) : Prop := ∃ C, mg x = some (.ref C) ∧ PySem.W.excIn K C [.type "ValueError", .type "Exception", .type "BaseException", .type "object"] "ValueError.__new__" = true ∧ PySem.W.keepIn K (.ref C) = true ∧
  PySem.W.subIn K (.ref C) (.type "BaseException") = some true ∧ PySem.W.typeIn K (.ref C) = some (.type "type") ∧ PySem.W.exmOne K (.ref C) (.ref C) = some true
theorem ss_raise {x m : Str} {j : Nat} {p p2 pos2 : Pos} {a : T} (hc : X.calm = true) (tk : Takes X W) (h : ExcOk X.K X.mg x) (hg : Gl X x) (hd : (x == ("__debug__" : Str)) = false) :
    PS X (.Raise (some (.Call (.Name x p) [.Constant (.str m) j p2] [] pos2)) none pos) (tS X.K X.mg W (.raise x a)) := by
  obtain ⟨C0, gC, q1, q2, q3, q4, _⟩ := h
  refine (ps_raise hc tk (pmk_own PySem.F.excBase_ValueError q1 gC q2 (raises_own q3 q4) hg hd)).weak fun D σ H ⟨C, F, s, r, h⟩ => ?_
  exact h F σ H (.ref C0) none (Le.refl F) r ⟨C0, gC, rfl, rfl⟩
/-- try: return e, except x: return a text -/
theorem ss_tryR {x z : Str} {j : Nat} {p1 p2 p3 p4 p5 : Pos} (hs : X.stack = X.env :: X.outer) (hf : X.env.frame = some X.env.locals) (tk : Takes X W) (h : ExcOk X.K X.mg x) (hg : Gl X x) (hd : (x == ("__debug__" : Str)) = false)
    (ha : ∀ (W' : WX) (pn : List (Addr × Obj)) (xe : Value → Shared → Prop), Takes (X.tr pn xe) W' → PE (X.tr pn xe) e (tX X.K X.mg W' a)) :
    PS X (.Try [.Return (some e) p1] [.ExceptHandler (some (.Name x p2)) none [.Return (some (.Constant (.str z) j p3)) p4] p5] [] [] pos) (tS X.K X.mg W (.tryR x a z)) := by
  obtain ⟨C0, gC, q1, q2, q3, q4, q5⟩ := h
  refine (ps_try_only (tb := fun W' => tRet (tX X.K X.mg W' a)) (ts := fun _ _ _ => tRet (tC (.str z))) (c := .ref C0) (Wout := W) hs hf ⟨hg, hd, .inl gC⟩ tk (fun W' pn xe t _ => pss_one (ps_ret (ha W' pn xe t))) (fun _ _ _ _ _ _ _ => pss_one (ps_ret pe_str))).weak fun D σ H ⟨C, F, s, r, h⟩ => ?_
  refine ⟨C, F, s, r, ?_⟩
  have h0 : PostS X.K X.mg W C F (match ev a s with
    | .ok u s => .ok (.rt u) s
    | .exn c none s => if c = x then .ok (.rt (.d (.str z))) s else .stuck
    | _ => .stuck) D := h
  revert h0
  cases ev a s with
  | ok u s1 => exact fun h0 F' H' l r' v d => h0 F' σ H' v l r' d
  | exn c p s1 =>
    cases p with
    | some _ => exact fun h0 => h0.elim
    | none =>
      intro h0
      have h1 : PostS X.K X.mg W C F (if c = x then .ok (.rt (.d (.str z))) s1 else .stuck) D := h0
      by_cases hx : c = x
      · rw [if_pos hx] at h1
        subst hx
        intro F' H' cls d l r' ⟨E, e1, e2, e3⟩
        rw [gC] at e1
        cases e1
        subst e2
        exact ⟨true, q5, fun _ a _ => h1 F' σ H' _ l r' (.str z), fun q => by cases q⟩
      · rw [if_neg hx] at h1
        exact h1.elim
  | stuck => exact fun h0 => h0.elim
/-- xs.append(e) -/
theorem ss_app {i : Nat} {y : Str} {py apos cpos : Pos} (hi : X.N[i]? = some y) (hv : Vis X.env.scope y) (hd : (y == ("__debug__" : Str)) = false) (hcd : (y == ("__classdict__" : Str)) = false)
    (ha : PE X e (tX X.K X.mg W a)) (hst : starEach [e] X.env = (false, eval e X.env) :: starEach [] X.env) (hline : (apos.endLine == cpos.line) = true) :
    PS X (.Expr (.Call (.Attribute (.Name y py) "append" apos) [e] [] cpos) pos) (tS X.K X.mg W (.app i a)) := by
  have hpe : PE X (.Call (.Attribute (.Name y py) "append" apos) [e] [] cpos) (tBM X.K "list" rAppend (tVar i) (tCons (tX X.K X.mg W a) tNil)) :=
    pe_bm PySem.F.plainAttrs_list PySem.F.slot_list_append PySem.F.type_list_append mt_append (pe_var hi hv hd hcd) (pa_cons ha pa_nil hst) rfl (by rw [hst]; rfl) hline hst rfl
  refine (ps_expr hpe rfl).weak fun D σ H ⟨C, F, s, r, h⟩ => ?_
  have h0 : PostS X.K X.mg W C F (match s.rho[i]? with
    | some (.ol _) => (ev a s).dat fun x s => match s.rho[i]? with
      | some (.ol ds) => if ds.length < big then .ok .nx ⟨s.rho.set i (.ol (ds ++ [x])), s.bag⟩ else .stuck
      | _ => .stuck
    | _ => .stuck) D := h
  split at h0
  · rename_i ds0 e0
    obtain ⟨p, vs0, h1, h2, _⟩ := r.own i ds0 e0
    refine ⟨.ref p, h1, .inl ⟨rfl, _, .of h2⟩, C, F, s, r, ?_⟩
    refine (PostS.dat h0).imp fun u F1 s1 H1 l1 r1 ⟨x, e, q⟩ v d1 => ?_
    subst e
    split at q
    · rename_i ds e1
      split at q
      · rename_i hbig
        obtain ⟨p', vs, g1, g2, _, _, _, g6⟩ := r1.own i ds e1
        rw [h1] at g1
        cases g1
        refine ⟨p, vs, v, rfl, rfl, g2, ?_, ?_⟩
        · rw [g6.length]
          exact Nat.lt_of_lt_of_le hbig big_line
        · exact q F1 σ _ (Le.refl _) (r1.push e1 h1 g2 d1)
      · exact q.elim
    · exact q.elim
  · exact h0.elim
theorem ss_if (hc : PT X ec (tXT X.K X.mg W c)) (ha : PSs X sa (tS X.K X.mg W a)) (hb : PSs X sb (tS X.K X.mg W b)) : PS X (.If ec sa sb pos) (tS X.K X.mg W (.iff c a b)) := by
  refine (ps_if hc ha hb).weak fun D σ H ⟨C, F, s, r, h⟩ => ⟨C, F, s, r, ?_⟩
  refine (PostS.tst h).imp fun k F1 s1 H1 l1 r1 q => ?_
  cases k with
  | true => exact ⟨C, F1, s1, r1, q⟩
  | false => exact ⟨C, F1, s1, r1, q⟩
theorem ss_ret (ha : PE X e (tX X.K X.mg W a)) : PS X (.Return (some e) pos) (tS X.K X.mg W (.ret a)) := by
  refine (ps_ret ha).weak fun D σ H ⟨C, F, s, r, h⟩ => ⟨C, F, s, r, ?_⟩
  exact (PostS.bind h).imp fun u F1 s1 H1 l1 r1 q v d => q F1 σ H1 v (Le.refl _) r1 d
theorem ss_drop (ha : PE X e (tX X.K X.mg W a)) (hs : swapsWith e none pos.line X.env = pure false) : PS X (.Expr e pos) (tS X.K X.mg W (.drop a)) := by
  refine (ps_expr ha hs).weak fun D σ H ⟨C, F, s, r, h⟩ => ⟨C, F, s, r, ?_⟩
  exact (PostS.bind h).imp fun u F1 s1 H1 l1 r1 q v d => q.here r1
theorem ss_while {n : Nat} (hp : PassesOwn (model X.prog X.w) X.A X.env X.xe) (hc : PT X ec (tXT X.K X.mg W c)) (hb : PSs X body (tS X.K X.mg W b)) : PS X (.While ec body [] pos) (tS X.K X.mg W (.while n c b)) := by
  refine (ps_while hp hc hb).weak fun D σ H ⟨C, F, s, r, h⟩ => ?_
  refine ⟨fun m σ H => ∃ F s, Rel X.K C F s σ H ∧ PostS X.K X.mg W C F (whileR (fun s => ev c s) (fun s => ex b s) m s) D, ⟨n, F, s, r, h⟩, ?_⟩
  rintro m σ1 H1 ⟨F1, s1, r1, h1⟩
  cases m with
  | zero => exact h1.elim
  | succ m =>
    refine ⟨C, F1, s1, r1, (PostS.tst h1).imp fun k F2 s2 H2 l2 r2 q => ?_⟩
    cases k with
    | true =>
      refine ⟨fun σ' H' => ∃ F s, Rel X.K C F s σ' H' ∧ PostS X.K X.mg W C F (whileR (fun s => ev c s) (fun s => ex b s) m s) D, fun σ' H' w => ⟨m, Nat.lt_succ_self m, w⟩, C, F2, s2, r2, ?_⟩
      exact (PostS.seq (k := fun s => whileR (fun s => ev c s) (fun s => ex b s) m s) q).imp (fun _ _ ⟨F', s', _, r', q⟩ => ⟨F', s', r', q⟩) fun _ _ w => w
    | false => exact q.here r2
theorem ss_for (hp : PassesOwn (model X.prog X.w) X.A X.env X.xe) (hc : X.calm = true) (hi : PI X tg e (tXI X.K X.mg W it)) (hg : PG X tg (tXG X.K g)) (hb : PSs X body (tS X.K X.mg W b)) (hs : ∀ x, foldedSetIterable e X.env x = pure x) :
    PS X (.For tg e body [] pos) (tS X.K X.mg W (.loop g it b)) := by
  refine (ps_for hp hc hi hg hb hs).weak fun D σ H ⟨C, F, s, r, h⟩ => ⟨C, F, s, r, ?_⟩
  refine (PostS.bind h).imp fun xs F1 s1 H1 l1 r1 h1 J hJ => ?_
  refine ⟨fun i m σ H => m = xs.length - i ∧ i ≤ xs.length ∧ ∃ F2 s2, Le F1 F2 ∧ Rel X.K C F2 s2 σ H ∧ PostS X.K X.mg W C F2 (forR (fun x s => (R.ofS (asgT g x s)).bind fun _ s => ex b s) (xs.drop i) s2) D,
    ⟨xs.length, by simp, Nat.zero_le _, F1, s1, Le.refl _, r1, by simpa using h1⟩, ?_⟩
  rintro i m σ2 H2 ⟨rfl, hi, F2, s2, l2, r2, h2⟩
  have hW := hJ i H2 (l2.trans r2.le)
  by_cases hlt : i < xs.length
  · have hx : xs[i]? = some xs[i] := List.getElem?_eq_getElem hlt
    obtain ⟨go, hy⟩ := hW.1 _ hx
    rw [drop_cons hx] at h2
    have h3 : PostS X.K X.mg W C F2 (((R.ofS (asgT g xs[i] s2)).bind fun _ s => ex b s).bind fun o s => match o with
      | .nx => forR (fun x s => (R.ofS (asgT g x s)).bind fun _ s => ex b s) (xs.drop (i + 1)) s
      | .rt u => .ok (.rt u) s) D := h2
    cases ha : asgT g xs[i] s2 with
    | none => rw [ha] at h3; exact h3.elim
    | some s3 =>
      rw [ha] at h3
      have h4 := PostS.seq (m := ex b s3) (k := fun s => forR (fun x s => (R.ofS (asgT g x s)).bind fun _ s => ex b s) (xs.drop (i + 1)) s) h3
      refine .inr ⟨go, fun σ' H' => i + 1 ≤ xs.length ∧ ∃ F2 s2, Le F1 F2 ∧ Rel X.K C F2 s2 σ' H' ∧ PostS X.K X.mg W C F2 (forR (fun x s => (R.ofS (asgT g x s)).bind fun _ s => ex b s) (xs.drop (i + 1)) s2) D,
        fun σ' H' ⟨q1, q2⟩ => ⟨xs.length - (i + 1), by omega, rfl, q1, q2⟩, fun x H' hyl => ?_⟩
      have item : ∃ F3, Le F2 F3 ∧ Rel X.K C F3 s2 σ2 H' ∧ Dn X.K F3 x xs[i] := by
        rcases hy x H' hyl with ⟨rfl, d⟩ | ⟨p, vs, ds, hp, rfl, rfl, ed, d⟩
        · exact ⟨F2, Le.refl _, r2, Dn.mono l2 _ _ d⟩
        · obtain ⟨F3, l3, r3, d3⟩ := r2.tup hp (Dn.monoAll l2 _ _ d)
          exact ⟨F3, l3, r3, by rw [ed]; exact d3⟩
      obtain ⟨F3, l3, r3, dx⟩ := item
      refine ⟨C, F3, s2, xs[i], r3, dx, s3, ha, fun σ3 _ _ r4 => ⟨C, F3, s3, r4, ?_⟩⟩
      exact (PostS.up h4 l3).imp (fun _ _ ⟨G, s4, l, r, q⟩ => ⟨hlt, G, s4, l2.trans l, r, q⟩) fun _ _ q => q
  · have ei : i = xs.length := by omega
    rw [ei, List.drop_length] at h2
    exact .inl ⟨hW.2 (by omega), h2 F2 σ2 H2 (Le.refl _) r2⟩
end
end RD
set_option Elab.async false
set_option linter.all false
set_option maxRecDepth 100000
/-! RdJ: a tree is held against the program's own text. -/
namespace RD
open PySem L2

/-! ### the look -/
def okN (x : Str) : Bool := !(x == ("__debug__" : Str)) && !(x == ("__classdict__" : Str))
def glB (sc : Scope) (x : Str) : Bool := decide (sc.names.lookup x = some .globalImplicit) && okN x
def visB (sc : Scope) (x : Str) : Bool := (match sc.names.lookup x with | some .local => true | some .cell => true | some .free => true | _ => false) && okN x
def stB (raw : Scope) (x : Str) : Bool := match raw.names.lookup x with | some .local => true | some .cell => true | _ => false
def notStar : Expr → Bool
  | .Starred .. => false
  | _ => true
def notSlice : Expr → Bool
  | .Slice .. => false
  | _ => true
def notSet : Expr → Bool
  | .Set .. => false
  | _ => true
def notComp : Expr → Bool
  | .ListComp .. => false
  | .SetComp .. => false
  | .DictComp .. => false
  | _ => true
def plainT : Expr → Bool
  | .UnaryOp .. => false
  | .BoolOp .. => false
  | .IfExp .. => false
  | .Compare .. => false
  | _ => true
/-- a, b = x, y: the names that are stored from the right -/
def swapRes (sc : Scope) (ts vs : List Expr) : Option (Option (List Str)) :=
  if (!(ts.length == 2 || ts.length == 3) || vs.length != ts.length) = true then some none else
  if (vs.any fun | .Starred .. => true | _ => false) = true then some none else
  if ((ts.filterMap fun
      | .Name id pos => if (decide (sc.names.lookup id = some .local) && pos.line == (ts.head?.map (·.pos.line)).getD 0) = true then some id else none
      | _ => none).length != ts.length ||
      (ts.filterMap fun
      | .Name id pos => if (decide (sc.names.lookup id = some .local) && pos.line == (ts.head?.map (·.pos.line)).getD 0) = true then some id else none
      | _ => none).eraseDups.length != (ts.filterMap fun
      | .Name id pos => if (decide (sc.names.lookup id = some .local) && pos.line == (ts.head?.map (·.pos.line)).getD 0) = true then some id else none
      | _ => none).length) = true then some none else
  if vs.all (foldedForSure 8) = true then some none else
  if vs.all (constantsAlone 8) = true then none else
  some (some (ts.filterMap fun
      | .Name id pos => if (decide (sc.names.lookup id = some .local) && pos.line == (ts.head?.map (·.pos.line)).getD 0) = true then some id else none
      | _ => none))
theorem swapped_of {sc : Scope} {ts vs : List Expr} {r : Option (List Str)} {env : Env} {k k2 : Nat} {p p2 : Pos} (hs : env.scope = sc) (hk : env.scope.kind = .function) (h : swapRes sc ts vs = some r) : swappedStores [.Tuple ts k p] (.Tuple vs k2 p2) env = pure r := by
  have hb : env.blockKind = .function := by unfold Env.blockKind; rw [hk]; rfl
  have hkind : ∀ id, (env.kindOf id == some NameKind.local) = decide (sc.names.lookup id = some .local) := fun id => by
    unfold Env.kindOf
    rw [hs]
    rw [Bool.beq_eq_decide_eq]
  unfold swapRes at h
  simp only [swappedStores, hb, hkind]
  simp only [show (ScopeKind.function != ScopeKind.function) = false from rfl, Bool.or_false]
  split at h
  · rename_i c
    cases h
    exact if_pos c
  · rename_i c
    refine (if_neg c).trans ?_
    split at h
    · rename_i c2
      cases h
      try simp only [pure_bind]
      exact if_pos c2
    · rename_i c2
      try simp only [pure_bind]
      refine (if_neg c2).trans ?_
      split at h
      · rename_i c3
        cases h
        try simp only [pure_bind]
        exact if_pos c3
      · rename_i c3
        try simp only [pure_bind]
        refine (if_neg c3).trans ?_
        split at h
        · rename_i c4
          cases h
          try simp only [pure_bind]
          exact if_pos c4
        · rename_i c4
          try simp only [pure_bind]
          refine (if_neg c4).trans ?_
          split at h
          · cases h
          · rename_i c5
            cases h
            try simp only [pure_bind]
            refine (if_neg c5).trans ?_
            rfl
/-- an assignment to one target, stored as it stands -/
def asgOk (sc : Scope) : Expr → Expr → Bool
  | .Tuple ts _ _, .Tuple vs _ _ => decide (swapRes sc ts vs = some none)
  | .List _ _, .Tuple _ _ _ => false
  | .Starred _ _, _ => false
  | _, _ => true

def ownOf (N : List Str) (own : List Nat) : List (Str × Nat) := own.filterMap fun i => (N[i]?).map fun x => (x, i)

def MF.name : MF → Str
  | .join => "join"
  | .split => "split"
/-- what stands ahead of a method's dot -/
def isConstE : Expr → Bool
  | .Constant .. => true
  | .Name .. => true
  | _ => false
/-- a target that the walk can serve -/
def tgOk : T → Expr → Bool
  | .itz _ _, .Tuple .. => true
  | .itz _ _, _ => false
  | _, _ => true
mutual
/-- m: as a test -/
def chk (N : List Str) : Bool → Scope → Scope → T → Expr → Bool
  | _, sc, _, .var i, .Name x _ => decide (N[i]? = some x) && visB sc x
  | _, sc, _, .lenS i, .Call (.Name f _) [.Name x _] [] _ => (f == ("len" : Str)) && glB sc f && decide (N[i]? = some x) && visB sc x
  | _, sc, _, .bget i j, .Subscript (.Name x _) (.Constant (.int k) _ _) _ => decide (k = (j : Int)) && decide (j ≤ 1) && decide (N[i]? = some x) && visB sc x
  | _, sc, raw, .sat i a, .Subscript (.Name x _) ea _ => decide (N[i]? = some x) && visB sc x && notSlice ea && chk N false sc raw a ea
  | _, _, _, .cst (.int i), .Constant (.int j) _ _ => decide (i = j)
  | _, _, _, .cst (.bool i), .Constant (.bool j) _ _ => decide (i = j)
  | _, _, _, .cst .none, .Constant .none _ _ => true
  | _, _, _, .cst (.str i), .Constant (.str j) _ _ => decide (i = j)
  | _, sc, _, .glob x _, .Name y _ => decide (x = y) && glB sc y
  | _, sc, raw, .bin op a b, .BinOp ea o eb _ => decide (o = op.op) && chk N false sc raw a ea && chk N false sc raw b eb
  | m, sc, raw, .neg a, .UnaryOp .USub ea _ => !m && chk N false sc raw a ea
  | _, sc, raw, .cmp op a b, .Compare ea [o] [eb] _ => decide (o = op.op) && !behindInMarks o eb && chk N false sc raw a ea && chk N false sc raw b eb
  | _, sc, raw, .chain o p a b c, .Compare ea [o', p'] [eb, ec] _ => decide (o' = o.op) && decide (p' = p.op) && !lastMarks [o', p'] [eb, ec] && chk N false sc raw a ea && chk N false sc raw b eb && chk N false sc raw c ec
  | _, sc, raw, .isN a, .Compare ea [.Is] [.Constant .none _ _] _ => chk N false sc raw a ea
  | _, sc, raw, .notN a, .Compare ea [.IsNot] [.Constant .none _ _] _ => chk N false sc raw a ea
  | m, sc, raw, .not a, .UnaryOp .Not ea _ => chk N m sc raw a ea
  | m, sc, raw, .one a, .BoolOp _ [ea] _ => chk N m sc raw a ea
  | m, sc, raw, .and a b, .BoolOp .And (ea :: eb :: es) p => chk N m sc raw a ea && chk N m sc raw b (.BoolOp .And (eb :: es) p)
  | m, sc, raw, .or a b, .BoolOp .Or (ea :: eb :: es) p => chk N m sc raw a ea && chk N m sc raw b (.BoolOp .Or (eb :: es) p)
  | m, sc, raw, .ite c a b, .IfExp ec ea eb _ => !m && chk N true sc raw c ec && chk N false sc raw a ea && chk N false sc raw b eb
  | _, sc, raw, .tup l, .Tuple es _ _ => chkA N sc raw l es
  | _, sc, raw, .lst l, .List es _ => chkA N sc raw l es
  | _, sc, raw, .idx a b, .Subscript ea eb _ => notSlice eb && chk N false sc raw a ea && chk N false sc raw b eb
  | _, sc, raw, .slc a l h, .Subscript ea (.Slice lo hi none _) _ => chk N false sc raw a ea && chkO N sc raw l lo && chkO N sc raw h hi
  | _, sc, raw, .rev a, .Subscript ea (.Slice none none (some (.UnaryOp .USub (.Constant (.int 1) _ _) _)) _) _ => chk N false sc raw a ea
  | _, sc, raw, .dix ks vs a, .Subscript (.Dict keys es _) ea _ => keysOk ks keys && valsOk vs es && decide (ks.length = vs.length) && decide ks.Nodup && decide (ks ≠ []) && decide (ks.length ≤ 15) && notSlice ea && chk N false sc raw a ea
  | _, sc, raw, .lrg a b, .Call (.Name x _) [.Call (.Name y _) [ea, eb] [] _] [] _ => decide (x = "list") && glB sc x && decide (y = "range") && glB sc y && notStar ea && notStar eb && chk N false sc raw a ea && chk N false sc raw b eb
  | _, sc, raw, .lr1 a, .Call (.Name x _) [.Call (.Name y _) [ea] [] _] [] _ => decide (x = "list") && glB sc x && decide (y = "range") && glB sc y && notStar ea && chk N false sc raw a ea
  | _, sc, raw, .uniq a, .Call (.Name x _) [.Call (.Name y _) [ea] [] _] [] _ => decide (x = "sorted") && glB sc x && decide (y = "set") && glB sc y && notStar ea && chk N false sc raw a ea
  | _, sc, raw, .lenset a, .Call (.Name x _) [.Call (.Name y _) [ea] [] _] [] _ => decide (x = "len") && glB sc x && decide (y = "set") && glB sc y && notStar ea && chk N false sc raw a ea
  | _, sc, raw, .mth f a b, .Call (.Attribute ea at_ apos) [eb] [] pos => (at_ == f.name) && isConstE ea && (apos.endLine == pos.line) && notStar eb && chk N false sc raw a ea && chk N false sc raw b eb
  | _, sc, _, .call x _ .anil, .Call (.Name y _) [] [] _ => decide (x = y) && glB sc y
  | _, sc, raw, .call x _ l, .Call (.Name y _) (e :: es) [] _ => decide (x = y) && glB sc y && chkA N sc raw l (e :: es)
  | _, sc, raw, .blt f l, .Call (.Name y _) (e :: es) [] _ => decide (y = f.name) && glB sc y && !f.isI && chkA N sc raw l (e :: es)
  | _, sc, raw, .isi f a, .Call (.Name y _) [e, .Name cn _] [] _ => f.isI && decide (y = f.name) && glB sc y && decide (cn = Str.ofString f.cls) && glB sc cn && notStar e && chk N false sc raw a e
  | _, sc, raw, .comp own g it c e, .ListComp elt [⟨tg, iter, ifs, as⟩] scope _ => decide (as = 0) && blkC N sc scope (ownOf N own) && decide ((ownOf N own).map (·.2) = own) && decide (∀ i ∈ slotsT g, i ∈ own) && (notSet iter && tgOk it tg) && chkI N sc raw it iter &&
      chkG N (relS scope sc) scope g tg && chkC N (relS scope sc) scope c ifs && chk N false (relS scope sc) scope e elt
  | _, _, _, _, _ => false
def chkA (N : List Str) : Scope → Scope → T → List Expr → Bool
  | _, _, .anil, [] => true
  | sc, raw, .acons a l, e :: es => notStar e && chk N false sc raw a e && chkA N sc raw l es
  | _, _, _, _ => false
def chkO (N : List Str) : Scope → Scope → T → Option Expr → Bool
  | _, _, .nopart, none => true
  | sc, raw, .acons a .anil, some e => chk N false sc raw a e
  | _, _, _, _ => false
def chkI (N : List Str) : Scope → Scope → T → Expr → Bool
  | sc, raw, .itl a, e => chk N false sc raw a e
  | sc, raw, .itt a, e => chk N false sc raw a e
  | sc, raw, .itr1 a, .Call (.Name y _) [e] [] _ => (y == ("range" : Str)) && glB sc y && notStar e && chk N false sc raw a e
  | sc, raw, .itr2 a b, .Call (.Name y _) [e, e2] [] _ => (y == ("range" : Str)) && glB sc y && notStar e && notStar e2 && chk N false sc raw a e && chk N false sc raw b e2
  | sc, raw, .itz a b, .Call (.Name y _) [e, e2] [] _ => (y == ("zip" : Str)) && glB sc y && notStar e && notStar e2 && chk N false sc raw a e && chk N false sc raw b e2
  | _, _, _, _ => false
def chkG (N : List Str) : Scope → Scope → T → Expr → Bool
  | _, raw, .tname i, .Name x _ => decide (N[i]? = some x) && stB raw x
  | sc, raw, .ttup l, .Tuple es _ _ => chkGs N sc raw l es
  | _, _, _, _ => false
def chkGs (N : List Str) : Scope → Scope → T → List Expr → Bool
  | _, _, .anil, [] => true
  | sc, raw, .acons a l, e :: es => notStar e && chkG N sc raw a e && chkGs N sc raw l es
  | _, _, _, _ => false
/-- a clause's tests -/
def chkC (N : List Str) : Scope → Scope → T → List Expr → Bool
  | _, _, .yes, [] => true
  | sc, raw, .one c, [e] => chk N true sc raw c e
  | _, _, _, _ => false
end

mutual
def chkS (N : List Str) (sc : Scope) : T → Stmt → Bool
  | .asg g e, .Assign [tg] v _ => asgOk sc tg v && notStar tg && chkG N sc sc g tg && chk N false sc sc e v
  | .asgO i (.lst l), .Assign [.Name y _] (.List es _) _ => decide (N[i]? = some y) && stB sc y && chkA N sc sc l es
  | .asgO i (.comp own g it c e), .Assign [.Name y _] (.ListComp elt gs scope p) _ => decide (N[i]? = some y) && stB sc y && chk N false sc sc (.comp own g it c e) (.ListComp elt gs scope p)
  | .asgO i (.bin .add a b), .Assign [.Name y _] (.BinOp ea .Add eb _) _ => decide (N[i]? = some y) && stB sc y && chk N false sc sc a ea && chk N false sc sc b eb
  | .par [i, j] l, .Assign [.Tuple [.Name x px, .Name y py] _ _] (.Tuple [a, b] _ _) _ => decide (i ≠ j) && decide (N[i]? = some x) && decide (N[j]? = some y) && decide (sc.names.lookup x = some .local) && decide (sc.names.lookup y = some .local) &&
      decide (swapRes sc [.Name x px, .Name y py] [a, b] = some (some [x, y])) && chkA N sc sc l [a, b]
  | .par [i, j, k] l, .Assign [.Tuple [.Name x px, .Name y py, .Name z pz] _ _] (.Tuple [a, b, c] _ _) _ => decide (i ≠ j) && decide (i ≠ k) && decide (j ≠ k) && decide (N[i]? = some x) && decide (N[j]? = some y) && decide (N[k]? = some z) &&
      decide (sc.names.lookup x = some .local) && decide (sc.names.lookup y = some .local) && decide (sc.names.lookup z = some .local) && decide (swapRes sc [.Name x px, .Name y py, .Name z pz] [a, b, c] = some (some [x, y, z])) && chkA N sc sc l [a, b, c]
  | .parL i j a, .Assign [.Tuple [.Name x px, .Name y py] _ _] (.Tuple [ea, .List [] pl] _ _) _ => decide (i ≠ j) && decide (N[i]? = some x) && decide (N[j]? = some y) && decide (sc.names.lookup x = some .local) && decide (sc.names.lookup y = some .local) &&
      decide (swapRes sc [.Name x px, .Name y py] [ea, .List [] pl] = some (some [x, y])) && notStar ea && chk N false sc sc a ea
  | .app i e, .Expr (.Call (.Attribute (.Name y _) at_ apos) [v] [] cpos) _ => (at_ == ("append" : Str)) && decide (N[i]? = some y) && visB sc y && (apos.endLine == cpos.line) && notStar v && chk N false sc sc e v
  | .bset i j a, .Assign [.Subscript (.Name y _) (.Constant (.int k) _ _) _] e _ => decide (k = (j : Int)) && decide (j ≤ 1) && decide (N[i]? = some y) && visB sc y && notComp e && chk N false sc sc a e
  | .iff c a b, .If ec sa sb _ => chk N true sc sc c ec && chkB N sc a sa && chkB N sc b sb
  | .loop g it b, .For tg iter body [] _ => (notSet iter && tgOk it tg) && chkI N sc sc it iter && chkG N sc sc g tg && chkB N sc b body
  | .while _ c b, .While ec body [] _ => chk N true sc sc c ec && chkB N sc b body
  | .ret e, .Return (some v) _ => chk N false sc sc e v
  | .drop e, .Expr v _ => notComp v && chk N false sc sc e v
  | .raise x _, .Raise (some (.Call (.Name y _) [.Constant (.str _) _ _] [] _)) none _ => decide (x = y) && glB sc y
  | .tryR x a z, .Try [.Return (some e) _] [.ExceptHandler (some (.Name y _)) none [.Return (some (.Constant (.str z') _ _)) _] _] [] [] _ => decide (x = y) && glB sc y && decide (z = z') && chk N false sc sc a e
  | .yes, _ => true
  | _, _ => false
def chkB (N : List Str) (sc : Scope) : T → List Stmt → Bool
  | .nil, [] => true
  | .yes, _ => true
  | .seq a r, s :: ss => chkS N sc a s && chkB N sc r ss
  | .bagged i x _ a r, .Assign [.Name y _] (.Call (.Name f _) (e :: es) [] _) _ :: ss => decide (N[i]? = some y) && stB sc y && decide (x = f) && glB sc f && chkA N sc sc a (e :: es) && chkB N sc r ss
  | _, _ => false
end
end RD
set_option Elab.async false
set_option linter.all false
set_option maxRecDepth 100000
/-! RdK: what passes the look does what it says. -/
namespace RD
open PySem L2

/-! ### small facts about the text -/
section
variable {e : Expr} {es : List Expr} {env : Env} {pos : Pos}
theorem star_of (h : notStar e = true) : starEach (e :: es) env = (false, eval e env) :: starEach es env := by cases e <;> first | rfl | cases h
theorem back_of : ∀ {es : List Expr}, es.all notStar = true → (backTo pos (starEach es env)).any (·.1) = false
  | [], _ => rfl
  | e :: es, h => by
    rw [List.all_cons, Bool.and_eq_true] at h
    rw [star_of h.1]
    show (false || (backTo pos (starEach es env)).any (·.1)) = false
    rw [back_of h.2]
    rfl
theorem plainIx_of (h : notSlice e = true) : PlainIx e := fun o i => by cases e <;> first | rfl | cases h
theorem isTrue_of (h : plainT e = true) (whole : Sem Value) : isTrue e env whole = (do let v ← whole; standAt e.pos; holding [v] (truthy v)) := by cases e <;> first | rfl | cases h
theorem folded_of (h : notSet e = true) (x : Value) : foldedSetIterable e env x = pure x := by cases e <;> first | rfl | cases h
theorem asgEach_of (h : notStar e = true) : (assignEach (e :: es) env).map (·.2) = assign e env :: (assignEach es env).map (·.2) := by cases e <;> first | rfl | cases h
theorem asgEach_len : ∀ {es : List Expr}, es.all notStar = true → (assignEach es env).length = es.length ∧ (assignEach es env).findIdx? (·.1) = none
  | [], _ => ⟨rfl, rfl⟩
  | e :: es, h => by
    rw [List.all_cons, Bool.and_eq_true] at h
    obtain ⟨h1, h2⟩ := asgEach_len (es := es) h.2
    have e1 : assignEach (e :: es) env = (false, assign e env) :: assignEach es env := by
      have := h.1
      cases e <;> first | rfl | cases this
    rw [e1]
    refine ⟨by rw [List.length_cons, List.length_cons, h1], ?_⟩
    rw [List.findIdx?_cons]
    simp [h2]
theorem swaps_of {tg : Option Expr} {l : Nat} (h : notComp e = true) : swapsWith e tg l env = pure false := by cases e <;> first | rfl | cases h
theorem stores_of {sc : Scope} {tg : Expr} (hs : env.scope = sc) (hk : env.scope.kind = .function) (h : asgOk sc tg e = true) : swappedStores [tg] e env = pure none := by
  cases tg with
  | Tuple ts k p =>
    cases e with
    | Tuple vs k2 p2 => exact swapped_of hs hk (of_decide_eq_true h)
    | _ => rfl
  | List ts p => cases e <;> first | rfl | cases h
  | _ => rfl
end
theorem okN_db {x : Str} (h : okN x = true) : (x == ("__debug__" : Str)) = false ∧ (x == ("__classdict__" : Str)) = false := by
  unfold okN at h
  rw [Bool.and_eq_true] at h
  exact ⟨by simpa using h.1, by simpa using h.2⟩
theorem gl_of {sc : Scope} {x : Str} (h : glB sc x = true) : sc.names.lookup x = some .globalImplicit ∧ (x == ("__debug__" : Str)) = false := by
  unfold glB at h
  rw [Bool.and_eq_true] at h
  exact ⟨of_decide_eq_true h.1, (okN_db h.2).1⟩
theorem vis_of {sc : Scope} {x : Str} (h : visB sc x = true) : Vis sc x ∧ (x == ("__debug__" : Str)) = false ∧ (x == ("__classdict__" : Str)) = false := by
  unfold visB at h
  rw [Bool.and_eq_true] at h
  refine ⟨?_, okN_db h.2⟩
  have h1 := h.1
  split at h1
  · exact .inl ‹_›
  · exact .inr (.inl ‹_›)
  · exact .inr (.inr ‹_›)
  · cases h1
theorem st_of {raw : Scope} {x : Str} (h : stB raw x = true) : raw.names.lookup x = some .local ∨ raw.names.lookup x = some .cell := by
  unfold stB at h
  split at h
  · exact .inl ‹_›
  · exact .inr ‹_›
  · cases h
theorem evA_len : ∀ (l : T) (s : S) (us : List U) (s' : S), evA l s = .ok us s' → us.length = lenT l := by
  intro l
  induction l with
  | anil => intro s us s' h; cases h; rfl
  | acons a r _ ih =>
    intro s us s' h
    obtain ⟨u, s1, h1, h2⟩ := bind_ok (show (ev a s).bind (fun u s => (evA r s).bind fun us s => .ok (u :: us) s) = .ok us s' from h)
    obtain ⟨us', s2, h3, h4⟩ := bind_ok h2
    cases h4
    show us'.length + 1 = lenT r + 1
    rw [ih _ _ _ h3]
  | _ => intro s us s' h; cases h
theorem chkA_all {N : List Str} {sc raw : Scope} : ∀ (l : T) (es : List Expr), chkA N sc raw l es = true → es.all notStar = true ∧ es.length = lenT l := by
  intro l
  induction l with
  | anil =>
    intro es h
    cases es with
    | nil => exact ⟨rfl, rfl⟩
    | cons e es => cases h
  | acons a r _ ih =>
    intro es h
    cases es with
    | nil => cases h
    | cons e es =>
      have h' : (notStar e && chk N false sc raw a e && chkA N sc raw r es) = true := h
      rw [Bool.and_eq_true, Bool.and_eq_true] at h'
      obtain ⟨h1, h2⟩ := ih es h'.2
      refine ⟨?_, ?_⟩
      · rw [List.all_cons, h'.1.1, h1]
        rfl
      · show es.length + 1 = lenT r + 1
        rw [h2]
  | _ => intro es h; cases es <;> cases h
theorem chkGs_all {N : List Str} {sc raw : Scope} : ∀ (l : T) (es : List Expr), chkGs N sc raw l es = true → es.all notStar = true ∧ es.length = lenT l := by
  intro l
  induction l with
  | anil =>
    intro es h
    cases es with
    | nil => exact ⟨rfl, rfl⟩
    | cons e es => cases h
  | acons a r _ ih =>
    intro es h
    cases es with
    | nil => cases h
    | cons e es =>
      have h' : (notStar e && chkG N sc raw a e && chkGs N sc raw r es) = true := h
      rw [Bool.and_eq_true, Bool.and_eq_true] at h'
      obtain ⟨h1, h2⟩ := ih es h'.2
      refine ⟨?_, ?_⟩
      · rw [List.all_cons, h'.1.1, h1]
        rfl
      · show es.length + 1 = lenT r + 1
        rw [h2]
  | _ => intro es h; cases es <;> cases h

/-! ### the context -/
structure XOk (X : Cx) (N : List Str) (sc raw : Scope) (lv : Nat) : Prop where
  hN : X.N = N
  hsc : X.env.scope = sc
  kind : X.env.scope.kind = .function
  nd : N.Nodup
  calm : X.calm = true
  room : Room lv X.A
  blt : BltOk X.mg
  st : ∀ x, (raw.names.lookup x = some .local ∨ raw.names.lookup x = some .cell) → L2.Loc sc x ∧ (X.fn x = true ∨ sc.names.lookup x = some .local)
section
variable {X : Cx} {N : List Str} {sc raw : Scope} {lv : Nat}
theorem XOk.u65 (o : XOk X N sc raw lv) : X.A.units + 65 < cLine := by have := o.room.un; omega
theorem XOk.gl (o : XOk X N sc raw lv) {x : Str} (h : glB sc x = true) : Gl X x ∧ (x == ("__debug__" : Str)) = false := by
  obtain ⟨h1, h2⟩ := gl_of h
  refine ⟨?_, h2⟩
  show X.env.scope.names.lookup x = _
  rw [o.hsc]
  exact h1
theorem XOk.ix (o : XOk X N sc raw lv) {i : Nat} {x : Str} (h : decide (N[i]? = some x) = true) : X.N[i]? = some x := by
  rw [o.hN]
  exact of_decide_eq_true h
theorem XOk.loc (o : XOk X N sc raw lv) {x : Str} (h : stB raw x = true) : L2.Loc X.env.scope x ∧ (X.fn x = true ∨ X.env.scope.names.lookup x = some .local) := by
  rw [o.hsc]
  exact o.st x (st_of h)
theorem XOk.blk (o : XOk X N sc raw lv) {scope : Scope} {own : List (Str × Nat)} (ok : BlkOk N sc scope own) (s : Shared) (H : Hp) (C : Addr) (cl : List (Str × Addr)) (fp : List Addr) : XOk (X.blk s H scope (compEnvC scope cl C X.env) fp) N (relS scope sc) scope lv where
  hN := o.hN
  hsc := by
    show relS scope X.env.scope = _
    rw [o.hsc]
  kind := ok.kind
  nd := o.nd
  calm := o.calm
  room := o.room
  blt := o.blt
  st := fun x h => by
    have hk : ∀ k : NameKind, k ≠ .free → scope.names.lookup x = some k → (relS scope sc).names.lookup x = some k := fun k hk e => lookup_relS_keep (sc := sc) hk e
    rcases h with h | h
    · exact ⟨.inl (hk _ (by decide) h), .inr (hk _ (by decide) h)⟩
    · refine ⟨.inr (hk _ (by decide) h), .inl ?_⟩
      show (scope.names.lookup x == some NameKind.cell) = true
      rw [h]
      rfl
end

/-- what the calls of a tree lean on -/
def spB (K : PySem.W.Frag) (n : Nat) (g : G) : Sp := fun vs H Q _ => ∃ (F : Hp) (b : Addr) (us : List U) (x y : Int), Le F H ∧ us.length = n ∧ Paired (DenU K b F) us vs ∧ g us none = .ok (.d (.list [.int x, .int y])) none ∧
  ∀ p H', H p = none → (∀ a o, H a = some o → H' a = some o) → H' p = some (.lst [.int x, .int y]) → Q (.ref p) H'
def GB (P : Program) (w : World) (K : PySem.W.Frag) (mg : Str → Option Value) (base : Heap) (lv n : Nat) (x : Str) (g : G) : Prop := ∃ (f : Addr) (fd : FuncData) (ps : List Str) (k : Nat), k ≤ lv ∧ ps.length = n ∧ mg x = some (.ref f) ∧ PySem.W.keepIn K (.ref f) = true ∧ Binds K fd ps [] ∧
  FnOk P w K mg base (L2.CX P w) k f fd ps (spB K ps.length g)
def Good (P : Program) (w : World) (K : PySem.W.Frag) (mg : Str → Option Value) (base : Heap) (lv : Nat) : T → Prop
  | .glob x d => GlobOk K mg x d
  | .call x g a => GF P w K mg base lv (lenT a) x g ∧ Good P w K mg base lv a
  | .bagged _ x g a r => GB P w K mg base lv (lenT a) x g ∧ Good P w K mg base lv a ∧ Good P w K mg base lv r
  | .bin _ a b => Good P w K mg base lv a ∧ Good P w K mg base lv b
  | .dix _ _ a => Good P w K mg base lv a
  | .lrg a b => Good P w K mg base lv a ∧ Good P w K mg base lv b
  | .lr1 a => Good P w K mg base lv a
  | .uniq a => Good P w K mg base lv a
  | .lenset a => Good P w K mg base lv a
  | .itz a b => Good P w K mg base lv a ∧ Good P w K mg base lv b
  | .raise x _ => ExcOk K mg x
  | .tryR x a _ => ExcOk K mg x ∧ Good P w K mg base lv a
  | .sat _ a => Good P w K mg base lv a
  | .bset _ _ a => Good P w K mg base lv a
  | .neg a => Good P w K mg base lv a
  | .cmp _ a b => Good P w K mg base lv a ∧ Good P w K mg base lv b
  | .chain _ _ a b c => Good P w K mg base lv a ∧ Good P w K mg base lv b ∧ Good P w K mg base lv c
  | .isN a => Good P w K mg base lv a
  | .notN a => Good P w K mg base lv a
  | .not a => Good P w K mg base lv a
  | .one a => Good P w K mg base lv a
  | .and a b => Good P w K mg base lv a ∧ Good P w K mg base lv b
  | .or a b => Good P w K mg base lv a ∧ Good P w K mg base lv b
  | .ite c a b => Good P w K mg base lv c ∧ Good P w K mg base lv a ∧ Good P w K mg base lv b
  | .tup a => Good P w K mg base lv a
  | .lst a => Good P w K mg base lv a
  | .acons a b => Good P w K mg base lv a ∧ Good P w K mg base lv b
  | .idx a b => Good P w K mg base lv a ∧ Good P w K mg base lv b
  | .slc a b c => Good P w K mg base lv a ∧ Good P w K mg base lv b ∧ Good P w K mg base lv c
  | .rev a => Good P w K mg base lv a
  | .mth _ a b => Good P w K mg base lv a ∧ Good P w K mg base lv b
  | .blt _ a => Good P w K mg base lv a
  | .isi _ a => Good P w K mg base lv a
  | .comp _ _ it c e => Good P w K mg base lv it ∧ Good P w K mg base lv c ∧ Good P w K mg base lv e
  | .itl a => Good P w K mg base lv a
  | .itt a => Good P w K mg base lv a
  | .itr1 a => Good P w K mg base lv a
  | .itr2 a b => Good P w K mg base lv a ∧ Good P w K mg base lv b
  | .seq a b => Good P w K mg base lv a ∧ Good P w K mg base lv b
  | .asg _ e => Good P w K mg base lv e
  | .asgO _ e => Good P w K mg base lv e
  | .par _ e => Good P w K mg base lv e
  | .parL _ _ e => Good P w K mg base lv e
  | .app _ e => Good P w K mg base lv e
  | .iff c a b => Good P w K mg base lv c ∧ Good P w K mg base lv a ∧ Good P w K mg base lv b
  | .loop _ it b => Good P w K mg base lv it ∧ Good P w K mg base lv b
  | .while _ c b => Good P w K mg base lv c ∧ Good P w K mg base lv b
  | .ret e => Good P w K mg base lv e
  | .drop e => Good P w K mg base lv e
  | _ => True

abbrev GoodX (X : Cx) (lv : Nat) (t : T) : Prop := Good X.prog X.w X.K X.mg X.base lv t
/-- one expression node's promises -/
structure SndE (N : List Str) (lv : Nat) (t : T) : Prop where
  he : ∀ {sc raw : Scope} {X : Cx} {W : WX} {e : Expr}, XOk X N sc raw lv → GoodX X lv t → Takes X W → chk N false sc raw t e = true → PE X e (tX X.K X.mg W t)
  ht : ∀ {sc raw : Scope} {X : Cx} {W : WX} {e : Expr}, XOk X N sc raw lv → GoodX X lv t → Takes X W → chk N true sc raw t e = true → (∃ op es p, e = .BoolOp op es p) ∨ PT X e (tXT X.K X.mg W t)
  hw : ∀ {sc raw : Scope} {X : Cx} {W : WX} {op : BoolOp} {es : List Expr} {p : Pos}, XOk X N sc raw lv → GoodX X lv t → Takes X W → chk N true sc raw t (.BoolOp op es p) = true → PW X (.BoolOp op es p) (tXT X.K X.mg W t)
  ha : ∀ {sc raw : Scope} {X : Cx} {W : WX} {es : List Expr}, XOk X N sc raw lv → GoodX X lv t → Takes X W → chkA N sc raw t es = true → PA X es (tXA X.K X.mg W t)
  ho : ∀ {sc raw : Scope} {X : Cx} {W : WX} {e : Option Expr}, XOk X N sc raw lv → GoodX X lv t → Takes X W → chkO N sc raw t e = true → PO X e (tXO X.K X.mg W t)
  hi : ∀ {sc raw : Scope} {X : Cx} {W : WX} {e tg : Expr}, XOk X N sc raw lv → GoodX X lv t → Takes X W → chkI N sc raw t e = true → tgOk t tg = true → PI X tg e (tXI X.K X.mg W t)
  hg : ∀ {sc raw : Scope} {X : Cx} {e : Expr}, XOk X N sc raw lv → chkG N sc raw t e = true → PG X e (tXG X.K t)
  hgs : ∀ {sc raw : Scope} {X : Cx} {es : List Expr}, XOk X N sc raw lv → chkGs N sc raw t es = true → PGs X es (tXGs X.K t)
  hc : ∀ {sc raw : Scope} {X : Cx} {W : WX} {es : List Expr}, XOk X N sc raw lv → GoodX X lv t → Takes X W → chkC N sc raw t es = true → PTs X es (tXT X.K X.mg W t)
theorem SndE.pt {N : List Str} {lv : Nat} {t : T} (S : SndE N lv t) {sc raw : Scope} {X : Cx} {W : WX} {e : Expr} (o : XOk X N sc raw lv) (h1 : GoodX X lv t) (tk : Takes X W) (h : chk N true sc raw t e = true) : PT X e (tXT X.K X.mg W t) := by
  rcases S.ht o h1 tk h with ⟨op, es, p, rfl⟩ | q
  · exact (S.hw o h1 tk h).pt
  · exact q
end RD
set_option Elab.async false
set_option linter.all false
set_option maxRecDepth 100000
/-! RdL: what passes the look does what it says: expressions. -/
namespace RD
open PySem L2
section
variable {N : List Str} {lv : Nat}
theorem takesF {X : Cx} : Takes X W0 := takes0
/-- nodes that are no expression, no argument list, .. -/
theorem SndE.none {t : T} (h1 : ∀ m sc raw e, chk N m sc raw t e ≠ true) (h2 : ∀ sc raw es, chkA N sc raw t es ≠ true) (h3 : ∀ sc raw e, chkO N sc raw t e ≠ true) (h4 : ∀ sc raw e, chkI N sc raw t e ≠ true) (h5 : ∀ sc raw e, chkG N sc raw t e ≠ true) (h6 : ∀ sc raw es, chkGs N sc raw t es ≠ true) (h7 : ∀ sc raw es, chkC N sc raw t es ≠ true) : SndE N lv t :=
  ⟨fun _ _ _ h => absurd h (h1 _ _ _ _), fun _ _ _ h => absurd h (h1 _ _ _ _), fun _ _ _ h => absurd h (h1 _ _ _ _), fun _ _ _ h => absurd h (h2 _ _ _), fun _ _ _ h => absurd h (h3 _ _ _), fun _ _ _ h => absurd h (h4 _ _ _), fun _ h => absurd h (h5 _ _ _), fun _ h => absurd h (h6 _ _ _), fun _ _ _ h => absurd h (h7 _ _ _)⟩
theorem plainT_no {op : BoolOp} {es : List Expr} {p : Pos} {A : Prop} (h : plainT (.BoolOp op es p) = true) : A := by cases h
/-- nodes that are expressions; as a test, a value that is a bool -/
theorem SndE.val {t : T} (he : ∀ {sc raw : Scope} {X : Cx} {W : WX} {e : Expr}, XOk X N sc raw lv → GoodX X lv t → Takes X W → chk N false sc raw t e = true → PE X e (tX X.K X.mg W t))
    (hm : ∀ sc raw e, chk N true sc raw t e = true → chk N false sc raw t e = true ∧ plainT e = true) (h2 : ∀ sc raw es, chkA N sc raw t es ≠ true) (h3 : ∀ sc raw e, chkO N sc raw t e ≠ true) (h4 : ∀ sc raw e, chkI N sc raw t e ≠ true) (h5 : ∀ sc raw e, chkG N sc raw t e ≠ true) (h6 : ∀ sc raw es, chkGs N sc raw t es ≠ true) (h7 : ∀ sc raw es, chkC N sc raw t es ≠ true) : SndE N lv t :=
  ⟨he, fun o g tk h => .inr (st_val (he o g tk (hm _ _ _ h).1) (isTrue_of (hm _ _ _ h).2)), fun o g tk h => plainT_no (hm _ _ _ h).2, fun _ _ _ h => absurd h (h2 _ _ _), fun _ _ _ h => absurd h (h3 _ _ _), fun _ _ _ h => absurd h (h4 _ _ _), fun _ h => absurd h (h5 _ _ _), fun _ h => absurd h (h6 _ _ _), fun _ _ _ h => absurd h (h7 _ _ _)⟩
/-- nodes that have a rule of their own as a test -/
theorem SndE.tst {t : T} (he : ∀ {sc raw : Scope} {X : Cx} {W : WX} {e : Expr}, XOk X N sc raw lv → GoodX X lv t → Takes X W → chk N false sc raw t e = true → PE X e (tX X.K X.mg W t))
    (ht : ∀ {sc raw : Scope} {X : Cx} {W : WX} {e : Expr}, XOk X N sc raw lv → GoodX X lv t → Takes X W → chk N true sc raw t e = true → PT X e (tXT X.K X.mg W t)) (hw : ∀ m sc raw op es p, chk N m sc raw t (.BoolOp op es p) ≠ true)
    (h2 : ∀ sc raw es, chkA N sc raw t es ≠ true) (h3 : ∀ sc raw e, chkO N sc raw t e ≠ true) (h4 : ∀ sc raw e, chkI N sc raw t e ≠ true) (h5 : ∀ sc raw e, chkG N sc raw t e ≠ true) (h6 : ∀ sc raw es, chkGs N sc raw t es ≠ true) (h7 : ∀ sc raw es, chkC N sc raw t es ≠ true) : SndE N lv t :=
  ⟨he, fun o g tk h => .inr (ht o g tk h), fun o g tk h => absurd h (hw _ _ _ _ _ _), fun _ _ _ h => absurd h (h2 _ _ _), fun _ _ _ h => absurd h (h3 _ _ _), fun _ _ _ h => absurd h (h4 _ _ _), fun _ h => absurd h (h5 _ _ _), fun _ h => absurd h (h6 _ _ _), fun _ _ _ h => absurd h (h7 _ _ _)⟩
theorem snd_var (i : Nat)  : SndE N lv (.var i) := by
  exact SndE.val (by
      intro sc raw X W e o _ tk h
      cases e <;> first | cases h | skip
      rename_i x p
      have h' : (decide (N[i]? = some x) && visB sc x) = true := h
      rw [Bool.and_eq_true] at h'
      obtain ⟨v1, v2, v3⟩ := vis_of h'.2
      exact sx_var (o.ix h'.1) (by rw [o.hsc]; exact v1) v2 v3) (fun _ _ x h => by cases x <;> first | exact ⟨h, rfl⟩ | cases h) (fun _ _ x h => by cases x <;> cases h) (fun _ _ x h => by cases x <;> cases h) (fun _ _ x h => by cases x <;> cases h) (fun _ _ x h => by cases x <;> cases h) (fun _ _ x h => by cases x <;> cases h) (fun _ _ x h => by cases x <;> cases h)
theorem snd_lenS (i : Nat) : SndE N lv (.lenS i) := by
  have key : ∀ (m : Bool) (sc raw : Scope) (e : Expr), chk N m sc raw (.lenS i) e = true → ∃ p x xp pos, e = .Call (.Name "len" p) [.Name x xp] [] pos ∧ glB sc "len" = true ∧ decide (N[i]? = some x) = true ∧ visB sc x = true := by
    intro m sc raw e h
    cases e <;> first | cases h | skip
    rename_i fe args kws p
    cases fe <;> first | cases h | skip
    rename_i fn fp
    match args, kws, h with
    | [.Name x xp], [], h =>
      have h' : ((fn == ("len" : Str)) && glB sc fn && decide (N[i]? = some x) && visB sc x) = true := h
      simp only [Bool.and_eq_true] at h'
      obtain ⟨⟨⟨q1, q2⟩, q3⟩, q4⟩ := h'
      have q1' : fn = "len" := eq_of_beq q1
      subst q1'
      exact ⟨_, _, _, _, rfl, q2, q3, q4⟩
  exact SndE.val (by
      intro sc raw X W e o g tk h
      obtain ⟨p, x, xp, pos, rfl, q2, q3, q4⟩ := key _ _ _ _ h
      obtain ⟨v1, v2, v3⟩ := vis_of q4
      exact sx_lenS o.blt (o.gl q2).1 (o.ix q3) (by rw [o.hsc]; exact v1) v2 v3) (fun sc raw x h => by
      obtain ⟨p, x, xp, pos, rfl, q2, q3, q4⟩ := key _ _ _ _ h
      exact ⟨h, rfl⟩) (fun _ _ x h => by cases x <;> cases h) (fun _ _ x h => by cases x <;> cases h) (fun _ _ x h => by cases x <;> cases h) (fun _ _ x h => by cases x <;> cases h) (fun _ _ x h => by cases x <;> cases h) (fun _ _ x h => by cases x <;> cases h)
theorem snd_cst (d : PyData)  : SndE N lv (.cst d) := by
  exact SndE.val (by
      intro sc raw X W e o _ tk h
      cases d with
      | int i =>
        cases e <;> first | cases h | skip
        rename_i c k p
        cases c <;> first | cases h | skip
        rename_i j
        have h' : i = j := of_decide_eq_true h
        subst h'
        exact sx_int
      | bool i =>
        cases e <;> first | cases h | skip
        rename_i c k p
        cases c <;> first | cases h | skip
        rename_i j
        have h' : i = j := of_decide_eq_true h
        subst h'
        exact sx_bl
      | none =>
        cases e <;> first | cases h | skip
        rename_i c k p
        cases c <;> first | cases h | skip
        exact sx_non
      | str i =>
        cases e <;> first | cases h | skip
        rename_i c k p
        cases c <;> first | cases h | skip
        rename_i j
        have h' : i = j := of_decide_eq_true h
        subst h'
        exact sx_str
      | _ => cases e <;> cases h) (fun _ _ x h => by cases d <;> (cases x <;> first | cases h | (rename_i c _ _; cases c <;> first | exact ⟨h, rfl⟩ | cases h))) (fun _ _ x h => by cases x <;> cases h) (fun _ _ x h => by cases x <;> cases h) (fun _ _ x h => by cases x <;> cases h) (fun _ _ x h => by cases x <;> cases h) (fun _ _ x h => by cases x <;> cases h) (fun _ _ x h => by cases x <;> cases h)
theorem snd_glob (x : Str) (d : PyData)  : SndE N lv (.glob x d) := by
  exact SndE.val (by
      intro sc raw X W e o g tk h
      cases e <;> first | cases h | skip
      rename_i y p
      have h' : (decide (x = y) && glB sc y) = true := h
      rw [Bool.and_eq_true] at h'
      have hx : x = y := of_decide_eq_true h'.1
      subst hx
      exact sx_glob (o.gl h'.2).1 g (o.gl h'.2).2) (fun _ _ x h => by cases x <;> first | exact ⟨h, rfl⟩ | cases h) (fun _ _ x h => by cases x <;> cases h) (fun _ _ x h => by cases x <;> cases h) (fun _ _ x h => by cases x <;> cases h) (fun _ _ x h => by cases x <;> cases h) (fun _ _ x h => by cases x <;> cases h) (fun _ _ x h => by cases x <;> cases h)
theorem snd_bin (op : BOp) (a : T) (b : T) (iha : SndE N lv a) (ihb : SndE N lv b) : SndE N lv (.bin op a b) := by
  exact SndE.val (by
      intro sc raw X W e o g tk h
      cases e <;> first | cases h | skip
      rename_i ea oo eb p
      have h' : (decide (oo = op.op) && chk N false sc raw a ea && chk N false sc raw b eb) = true := h
      rw [Bool.and_eq_true, Bool.and_eq_true] at h'
      have hx : oo = op.op := of_decide_eq_true h'.1.1
      subst hx
      exact sx_bin op (iha.he o g.1 tk h'.1.2) (ihb.he o g.2 tk h'.2)) (fun _ _ x h => by cases x <;> first | exact ⟨h, rfl⟩ | cases h) (fun _ _ x h => by cases x <;> cases h) (fun _ _ x h => by cases x <;> cases h) (fun _ _ x h => by cases x <;> cases h) (fun _ _ x h => by cases x <;> cases h) (fun _ _ x h => by cases x <;> cases h) (fun _ _ x h => by cases x <;> cases h)
theorem snd_neg (a : T) (iha : SndE N lv a) : SndE N lv (.neg a) := by
  exact SndE.val (by
      intro sc raw X W e o g tk h
      cases e <;> first | cases h | skip
      rename_i oo ea p
      cases oo <;> first | cases h | skip
      exact sx_neg (iha.he o g tk (by simpa using (show (!false && chk N false sc raw a ea) = true from h)))) (fun _ _ x h => by cases x <;> first | cases h | (rename_i oo _ _; cases oo <;> cases h)) (fun _ _ x h => by cases x <;> cases h) (fun _ _ x h => by cases x <;> cases h) (fun _ _ x h => by cases x <;> cases h) (fun _ _ x h => by cases x <;> cases h) (fun _ _ x h => by cases x <;> cases h) (fun _ _ x h => by cases x <;> cases h)
theorem snd_cmp (op : COp) (a : T) (b : T) (iha : SndE N lv a) (ihb : SndE N lv b) : SndE N lv (.cmp op a b) := by
  exact SndE.tst (by
      intro sc raw X W e o g tk h
      cases e <;> first | cases h | skip
      rename_i ea ops cs p
      cases ops with
      | nil => cases h
      | cons oo ops =>
        cases ops with
        | cons _ _ => cases oo <;> cases h
        | nil =>
          cases cs with
          | nil => cases oo <;> cases h
          | cons eb cs =>
            cases cs with
            | cons _ _ => cases oo <;> cases h
            | nil =>
              have h' : (decide (oo = op.op) && !behindInMarks oo eb && chk N false sc raw a ea && chk N false sc raw b eb) = true := h
              rw [Bool.and_eq_true, Bool.and_eq_true, Bool.and_eq_true] at h'
              have hx : oo = op.op := of_decide_eq_true h'.1.1.1
              subst hx
              have hb : behindInMarks op.op eb = false := by simpa using h'.1.1.2
              exact sx_cmp o.u65 op (iha.he o g.1 tk h'.1.2) (ihb.he o g.2 tk h'.2) hb) (by
      intro sc raw X W e o g tk h
      cases e <;> first | cases h | skip
      rename_i ea ops cs p
      cases ops with
      | nil => cases h
      | cons oo ops =>
        cases ops with
        | cons _ _ => cases oo <;> cases h
        | nil =>
          cases cs with
          | nil => cases oo <;> cases h
          | cons eb cs =>
            cases cs with
            | cons _ _ => cases oo <;> cases h
            | nil =>
              have h' : (decide (oo = op.op) && !behindInMarks oo eb && chk N false sc raw a ea && chk N false sc raw b eb) = true := h
              rw [Bool.and_eq_true, Bool.and_eq_true, Bool.and_eq_true] at h'
              have hx : oo = op.op := of_decide_eq_true h'.1.1.1
              subst hx
              have hb : behindInMarks op.op eb = false := by simpa using h'.1.1.2
              exact st_cmp o.u65 op (iha.he o g.1 tk h'.1.2) (ihb.he o g.2 tk h'.2) hb) (fun m _ _ _ _ _ h => by cases h) (fun _ _ x h => by cases x <;> cases h) (fun _ _ x h => by cases x <;> cases h) (fun _ _ x h => by cases x <;> cases h) (fun _ _ x h => by cases x <;> cases h) (fun _ _ x h => by cases x <;> cases h) (fun _ _ x h => by cases x <;> cases h)
theorem snd_chain (q : COp) (p : COp) (a : T) (b : T) (c : T) (iha : SndE N lv a) (ihb : SndE N lv b) (ihc : SndE N lv c) : SndE N lv (.chain q p a b c) := by
  exact SndE.tst (by
      intro sc raw X W e o g tk h
      cases e <;> first | cases h | skip
      rename_i ea ops cs pp
      match ops, cs, h with
      | [o', p'], [eb, ec], h =>
        have h' : (decide (o' = q.op) && decide (p' = p.op) && !lastMarks [o', p'] [eb, ec] && chk N false sc raw a ea && chk N false sc raw b eb && chk N false sc raw c ec) = true := h
        simp only [Bool.and_eq_true] at h'
        obtain ⟨⟨⟨⟨⟨h1, h2⟩, h3⟩, h4⟩, h5⟩, h6⟩ := h'
        have e1 : o' = q.op := of_decide_eq_true h1
        have e2 : p' = p.op := of_decide_eq_true h2
        subst e1
        subst e2
        exact sx_chain o.u65 q p (iha.he o g.1 tk h4) (ihb.he o g.2.1 tk h5) (ihc.he o g.2.2 tk h6) (by simpa using h3)) (by
      intro sc raw X W e o g tk h
      cases e <;> first | cases h | skip
      rename_i ea ops cs pp
      match ops, cs, h with
      | [o', p'], [eb, ec], h =>
        have h' : (decide (o' = q.op) && decide (p' = p.op) && !lastMarks [o', p'] [eb, ec] && chk N false sc raw a ea && chk N false sc raw b eb && chk N false sc raw c ec) = true := h
        simp only [Bool.and_eq_true] at h'
        obtain ⟨⟨⟨⟨⟨h1, h2⟩, h3⟩, h4⟩, h5⟩, h6⟩ := h'
        have e1 : o' = q.op := of_decide_eq_true h1
        have e2 : p' = p.op := of_decide_eq_true h2
        subst e1
        subst e2
        exact st_chain o.u65 q p (iha.he o g.1 tk h4) (ihb.he o g.2.1 tk h5) (ihc.he o g.2.2 tk h6) (by simpa using h3)) (fun m _ _ _ _ _ h => by cases h) (fun _ _ x h => by cases x <;> cases h) (fun _ _ x h => by cases x <;> cases h) (fun _ _ x h => by cases x <;> cases h) (fun _ _ x h => by cases x <;> cases h) (fun _ _ x h => by cases x <;> cases h) (fun _ _ x h => by cases x <;> cases h)
theorem snd_isN (a : T) (iha : SndE N lv a) : SndE N lv (.isN a) := by
  exact SndE.tst (by
      intro sc raw X W e o g tk h
      cases e <;> first | cases h | skip
      rename_i ea ops cs pp
      match ops, cs, h with
      | [.Is], [.Constant .none _ _], h => exact sx_isN (iha.he o g tk h)) (by
      intro sc raw X W e o g tk h
      cases e <;> first | cases h | skip
      rename_i ea ops cs pp
      match ops, cs, h with
      | [.Is], [.Constant .none _ _], h => exact st_isN (iha.he o g tk h)) (fun m _ _ _ _ _ h => by cases h) (fun _ _ x h => by cases x <;> cases h) (fun _ _ x h => by cases x <;> cases h) (fun _ _ x h => by cases x <;> cases h) (fun _ _ x h => by cases x <;> cases h) (fun _ _ x h => by cases x <;> cases h) (fun _ _ x h => by cases x <;> cases h)
theorem snd_notN (a : T) (iha : SndE N lv a) : SndE N lv (.notN a) := by
  exact SndE.tst (by
      intro sc raw X W e o g tk h
      cases e <;> first | cases h | skip
      rename_i ea ops cs pp
      match ops, cs, h with
      | [.IsNot], [.Constant .none _ _], h => exact sx_notN (iha.he o g tk h)) (by
      intro sc raw X W e o g tk h
      cases e <;> first | cases h | skip
      rename_i ea ops cs pp
      match ops, cs, h with
      | [.IsNot], [.Constant .none _ _], h => exact st_notN (iha.he o g tk h)) (fun m _ _ _ _ _ h => by cases h) (fun _ _ x h => by cases x <;> cases h) (fun _ _ x h => by cases x <;> cases h) (fun _ _ x h => by cases x <;> cases h) (fun _ _ x h => by cases x <;> cases h) (fun _ _ x h => by cases x <;> cases h) (fun _ _ x h => by cases x <;> cases h)
theorem snd_not (a : T) (iha : SndE N lv a) : SndE N lv (.not a) := by
  exact SndE.tst (by
      intro sc raw X W e o g tk h
      cases e <;> first | cases h | skip
      rename_i oo ea p
      cases oo <;> first | cases h | skip
      exact sx_not (iha.he o g tk h)) (by
      intro sc raw X W e o g tk h
      cases e <;> first | cases h | skip
      rename_i oo ea p
      cases oo <;> first | cases h | skip
      exact st_not (iha.pt o g tk h)) (fun m _ _ _ _ _ h => by cases h) (fun _ _ x h => by cases x <;> cases h) (fun _ _ x h => by cases x <;> cases h) (fun _ _ x h => by cases x <;> cases h) (fun _ _ x h => by cases x <;> cases h) (fun _ _ x h => by cases x <;> cases h) (fun _ _ x h => by cases x <;> cases h)
theorem snd_one (a : T) (iha : SndE N lv a) : SndE N lv (.one a) := by
  refine ⟨?_, ?_, ?_, ?_, ?_, ?_, ?_, ?_, ?_⟩
  · intro sc raw X W e o g tk h
    cases e <;> first | cases h | skip
    rename_i op es p
    match es, h with
    | [ea], h => exact sx_one (iha.he o g tk h)
  · intro sc raw X W e o g tk h
    cases e <;> first | cases h | skip
    exact .inl ⟨_, _, _, rfl⟩
  · intro sc raw X W op es p o g tk h
    match es, op, h with
    | [ea], .And, h => exact sw_and1 (iha.pt o g tk h)
    | [ea], .Or, h => exact sw_or1 (iha.pt o g tk h)
  · intro sc raw X W es _ _ _ h; cases es <;> cases h
  · intro sc raw X W es _ _ _ h; cases es <;> cases h
  · intro sc raw X W es tg _ _ _ h; cases es <;> cases h
  · intro sc raw X es _ h; cases es <;> cases h
  · intro sc raw X es _ h; cases es <;> cases h
  · intro sc raw X W es o g tk h
    match es, h with
    | [e], h => exact pts_one (iha.pt o g tk h)
theorem snd_and (a : T) (b : T) (iha : SndE N lv a) (ihb : SndE N lv b) : SndE N lv (.and a b) := by
  refine ⟨?_, ?_, ?_, ?_, ?_, ?_, ?_, ?_, ?_⟩
  · intro sc raw X W e o g tk h
    cases e <;> first | cases h | skip
    rename_i op es p
    match op, es, h with
    | .And, ea :: eb :: es, h =>
      have h' : (chk N false sc raw a ea && chk N false sc raw b (.BoolOp .And (eb :: es) p)) = true := h
      rw [Bool.and_eq_true] at h'
      exact sx_and (iha.he o g.1 tk h'.1) (ihb.he o g.2 tk h'.2)
  · intro sc raw X W e o g tk h
    cases e <;> first | cases h | skip
    exact .inl ⟨_, _, _, rfl⟩
  · intro sc raw X W op es p o g tk h
    match op, es, h with
    | .And, ea :: eb :: es, h =>
      have h' : (chk N true sc raw a ea && chk N true sc raw b (.BoolOp .And (eb :: es) p)) = true := h
      rw [Bool.and_eq_true] at h'
      exact sw_and (iha.pt o g.1 tk h'.1) (ihb.hw o g.2 tk h'.2)
  · intro sc raw X W es _ _ _ h; cases es <;> cases h
  · intro sc raw X W es _ _ _ h; cases es <;> cases h
  · intro sc raw X W es tg _ _ _ h; cases es <;> cases h
  · intro sc raw X es _ h; cases es <;> cases h
  · intro sc raw X es _ h; cases es <;> cases h
  · intro sc raw X W es _ _ _ h; cases es <;> cases h
theorem snd_or (a : T) (b : T) (iha : SndE N lv a) (ihb : SndE N lv b) : SndE N lv (.or a b) := by
  refine ⟨?_, ?_, ?_, ?_, ?_, ?_, ?_, ?_, ?_⟩
  · intro sc raw X W e o g tk h
    cases e <;> first | cases h | skip
    rename_i op es p
    match op, es, h with
    | .Or, ea :: eb :: es, h =>
      have h' : (chk N false sc raw a ea && chk N false sc raw b (.BoolOp .Or (eb :: es) p)) = true := h
      rw [Bool.and_eq_true] at h'
      exact sx_or (iha.he o g.1 tk h'.1) (ihb.he o g.2 tk h'.2)
  · intro sc raw X W e o g tk h
    cases e <;> first | cases h | skip
    exact .inl ⟨_, _, _, rfl⟩
  · intro sc raw X W op es p o g tk h
    match op, es, h with
    | .Or, ea :: eb :: es, h =>
      have h' : (chk N true sc raw a ea && chk N true sc raw b (.BoolOp .Or (eb :: es) p)) = true := h
      rw [Bool.and_eq_true] at h'
      exact sw_or (iha.pt o g.1 tk h'.1) (ihb.hw o g.2 tk h'.2)
  · intro sc raw X W es _ _ _ h; cases es <;> cases h
  · intro sc raw X W es _ _ _ h; cases es <;> cases h
  · intro sc raw X W es tg _ _ _ h; cases es <;> cases h
  · intro sc raw X es _ h; cases es <;> cases h
  · intro sc raw X es _ h; cases es <;> cases h
  · intro sc raw X W es _ _ _ h; cases es <;> cases h
theorem snd_ite (c : T) (a : T) (b : T) (ihc : SndE N lv c) (iha : SndE N lv a) (ihb : SndE N lv b) : SndE N lv (.ite c a b) := by
  exact SndE.val (by
      intro sc raw X W e o g tk h
      cases e <;> first | cases h | skip
      rename_i ec ea eb p
      have h' : (!false && chk N true sc raw c ec && chk N false sc raw a ea && chk N false sc raw b eb) = true := h
      simp only [Bool.and_eq_true] at h'
      exact sx_ite (ihc.pt o g.1 tk h'.1.1.2) (iha.he o g.2.1 tk h'.1.2) (ihb.he o g.2.2 tk h'.2)) (fun sc raw x h => by cases x <;> cases h) (fun _ _ x h => by cases x <;> cases h) (fun _ _ x h => by cases x <;> cases h) (fun _ _ x h => by cases x <;> cases h) (fun _ _ x h => by cases x <;> cases h) (fun _ _ x h => by cases x <;> cases h) (fun _ _ x h => by cases x <;> cases h)
theorem snd_tup (l : T) (ih : SndE N lv l) : SndE N lv (.tup l) := by
  exact SndE.val (by
      intro sc raw X W e o g tk h
      cases e <;> first | cases h | skip
      exact sx_tup (ih.ha o g tk h)) (fun _ _ x h => by cases x <;> first | exact ⟨h, rfl⟩ | cases h) (fun _ _ x h => by cases x <;> cases h) (fun _ _ x h => by cases x <;> cases h) (fun _ _ x h => by cases x <;> cases h) (fun _ _ x h => by cases x <;> cases h) (fun _ _ x h => by cases x <;> cases h) (fun _ _ x h => by cases x <;> cases h)
theorem snd_lst (l : T) (ih : SndE N lv l) : SndE N lv (.lst l) := by
  exact SndE.val (by
      intro sc raw X W e o g tk h
      cases e <;> first | cases h | skip
      exact sx_lst (ih.ha o g tk h)) (fun _ _ x h => by cases x <;> first | exact ⟨h, rfl⟩ | cases h) (fun _ _ x h => by cases x <;> cases h) (fun _ _ x h => by cases x <;> cases h) (fun _ _ x h => by cases x <;> cases h) (fun _ _ x h => by cases x <;> cases h) (fun _ _ x h => by cases x <;> cases h) (fun _ _ x h => by cases x <;> cases h)
theorem snd_anil   : SndE N lv (.anil ) := by
  refine ⟨?_, ?_, ?_, ?_, ?_, ?_, ?_, ?_, ?_⟩
  · intro sc raw X W e _ _ _ h; cases e <;> cases h
  · intro sc raw X W e _ _ _ h; cases e <;> cases h
  · intro sc raw X W op es p _ _ _ h; cases h
  · intro sc raw X W es o g tk h
    cases es with
    | nil => exact sa_nil
    | cons _ _ => cases h
  · intro sc raw X W es _ _ _ h; cases es <;> cases h
  · intro sc raw X W es tg _ _ _ h; cases es <;> cases h
  · intro sc raw X es _ h; cases es <;> cases h
  · intro sc raw X es o h
    cases es with
    | nil => exact sgs_nil
    | cons _ _ => cases h
  · intro sc raw X W es _ _ _ h; cases es <;> cases h
theorem snd_acons (a : T) (r : T) (iha : SndE N lv a) (ihr : SndE N lv r) : SndE N lv (.acons a r) := by
  refine ⟨?_, ?_, ?_, ?_, ?_, ?_, ?_, ?_, ?_⟩
  · intro sc raw X W e _ _ _ h; cases e <;> cases h
  · intro sc raw X W e _ _ _ h; cases e <;> cases h
  · intro sc raw X W op es p _ _ _ h; cases h
  · intro sc raw X W es o g tk h
    cases es with
    | nil => cases h
    | cons e es =>
      have h' : (notStar e && chk N false sc raw a e && chkA N sc raw r es) = true := h
      simp only [Bool.and_eq_true] at h'
      exact sa_cons (iha.he o g.1 tk h'.1.2) (ihr.ha o g.2 tk h'.2) (star_of h'.1.1)
  · intro sc raw X W e o g tk h
    cases e with
    | none => cases r <;> cases h
    | some e =>
      cases r <;> first | cases h | skip
      exact so_some (iha.he o g.1 tk h)
  · intro sc raw X W es tg _ _ _ h; cases es <;> cases h
  · intro sc raw X es _ h; cases es <;> cases h
  · intro sc raw X es o h
    cases es with
    | nil => cases h
    | cons e es =>
      have h' : (notStar e && chkG N sc raw a e && chkGs N sc raw r es) = true := h
      simp only [Bool.and_eq_true] at h'
      exact sgs_cons (iha.hg o h'.1.2) (ihr.hgs o h'.2) (asgEach_of h'.1.1)
  · intro sc raw X W es _ _ _ h; cases es <;> cases h
theorem base_of {ea : Expr} {env : Env} {n : Str} (h : isConstE ea = true) : attributeBase ea n env (eval ea env) = eval ea env := by
  cases ea <;> first | rfl | cases h
theorem snd_mth (f : MF) (a : T) (b : T) (iha : SndE N lv a) (ihb : SndE N lv b) : SndE N lv (.mth f a b) := by
  have key : ∀ (m : Bool) (sc raw : Scope) (e : Expr), chk N m sc raw (.mth f a b) e = true → ∃ ea apos eb pos, e = .Call (.Attribute ea f.name apos) [eb] [] pos ∧ isConstE ea = true ∧ (apos.endLine == pos.line) = true ∧ notStar eb = true ∧ chk N false sc raw a ea = true ∧ chk N false sc raw b eb = true := by
    intro m sc raw e h
    cases e <;> first | cases h | skip
    rename_i fn args kws pos
    cases fn <;> first | cases h | skip
    rename_i ea at_ apos
    match args, kws, h with
    | [eb], [], h =>
      have h' : ((at_ == f.name) && isConstE ea && (apos.endLine == pos.line) && notStar eb && chk N false sc raw a ea && chk N false sc raw b eb) = true := h
      simp only [Bool.and_eq_true] at h'
      obtain ⟨⟨⟨⟨⟨h1, h2⟩, h3⟩, h4⟩, h5⟩, h6⟩ := h'
      have e1 : at_ = f.name := eq_of_beq h1
      subst e1
      exact ⟨_, _, _, _, rfl, h2, h3, h4, h5, h6⟩
  exact SndE.val (by
      intro sc raw X W e o g tk h
      obtain ⟨ea, apos, eb, pos, rfl, h2, h3, h4, h5, h6⟩ := key _ _ _ _ h
      cases f with
      | join => exact sx_join (iha.he o g.1 tk h5) (ihb.he o g.2 tk h6) (star_of h4) (base_of h2) h3
      | split => exact sx_split (iha.he o g.1 tk h5) (ihb.he o g.2 tk h6) (star_of h4) (base_of h2) h3) (fun sc raw x h => by
      obtain ⟨ea, apos, eb, pos, rfl, h2, h3, h4, h5, h6⟩ := key _ _ _ _ h
      exact ⟨by unfold chk at h ⊢; exact h, rfl⟩) (fun _ _ x h => by cases x <;> cases h) (fun _ _ x h => by cases x <;> cases h) (fun _ _ x h => by cases x <;> cases h) (fun _ _ x h => by cases x <;> cases h) (fun _ _ x h => by cases x <;> cases h) (fun _ _ x h => by cases x <;> cases h)
theorem snd_bget (i j : Nat) : SndE N lv (.bget i j) := by
  have key : ∀ (m : Bool) (sc raw : Scope) (e : Expr), chk N m sc raw (.bget i j) e = true → ∃ x p n p2 pos, e = .Subscript (.Name x p) (.Constant (.int (j : Int)) n p2) pos ∧ j ≤ 1 ∧ decide (N[i]? = some x) = true ∧ visB sc x = true := by
    intro m sc raw e h
    cases e with
    | Subscript en ix pos =>
      cases en with
      | Name x p =>
        cases ix with
        | Constant c n p2 =>
          cases c with
          | int k =>
            have h' : (decide (k = (j : Int)) && decide (j ≤ 1) && decide (N[i]? = some x) && visB sc x) = true := h
            simp only [Bool.and_eq_true] at h'
            obtain ⟨⟨⟨h1, h2⟩, h3⟩, h4⟩ := h'
            have e1 := of_decide_eq_true h1
            subst e1
            exact ⟨_, _, _, _, _, rfl, of_decide_eq_true h2, h3, h4⟩
          | _ => cases h
        | _ => cases h
      | _ => cases h
    | _ => cases h
  exact SndE.val (by
      intro sc raw X W e o g tk h
      obtain ⟨x, p, n, p2, pos, rfl, h1, h2, h3⟩ := key _ _ _ _ h
      obtain ⟨v1, v2, v3⟩ := vis_of h3
      exact sx_bget h1 (o.ix h2) (by rw [o.hsc]; exact v1) v2 v3) (fun sc raw x h => by
      obtain ⟨x, p, n, p2, pos, rfl, h1, h2, h3⟩ := key _ _ _ _ h
      exact ⟨by unfold chk at h ⊢; exact h, rfl⟩) (fun _ _ x h => by cases x <;> cases h) (fun _ _ x h => by cases x <;> cases h) (fun _ _ x h => by cases x <;> cases h) (fun _ _ x h => by cases x <;> cases h) (fun _ _ x h => by cases x <;> cases h) (fun _ _ x h => by cases x <;> cases h)
theorem snd_sat (i : Nat) (a : T) (iha : SndE N lv a) : SndE N lv (.sat i a) := by
  have key : ∀ (m : Bool) (sc raw : Scope) (e : Expr), chk N m sc raw (.sat i a) e = true → ∃ x p ea pos, e = .Subscript (.Name x p) ea pos ∧ decide (N[i]? = some x) = true ∧ visB sc x = true ∧ notSlice ea = true ∧ chk N false sc raw a ea = true := by
    intro m sc raw e h
    cases e <;> first | cases h | skip
    rename_i en ea pos
    cases en <;> first | cases h | skip
    rename_i x p
    have h' : (decide (N[i]? = some x) && visB sc x && notSlice ea && chk N false sc raw a ea) = true := h
    simp only [Bool.and_eq_true] at h'
    obtain ⟨⟨⟨h1, h2⟩, h3⟩, h4⟩ := h'
    exact ⟨_, _, _, _, rfl, h1, h2, h3, h4⟩
  exact SndE.val (by
      intro sc raw X W e o g tk h
      obtain ⟨x, p, ea, pos, rfl, h1, h2, h3, h4⟩ := key _ _ _ _ h
      obtain ⟨v1, v2, v3⟩ := vis_of h2
      exact sx_sat (o.ix h1) (by rw [o.hsc]; exact v1) v2 v3 (iha.he o g tk h4) (plainIx_of h3)) (fun sc raw x h => by
      obtain ⟨x, p, ea, pos, rfl, h1, h2, h3, h4⟩ := key _ _ _ _ h
      exact ⟨by unfold chk at h ⊢; exact h, rfl⟩) (fun _ _ x h => by cases x <;> cases h) (fun _ _ x h => by cases x <;> cases h) (fun _ _ x h => by cases x <;> cases h) (fun _ _ x h => by cases x <;> cases h) (fun _ _ x h => by cases x <;> cases h) (fun _ _ x h => by cases x <;> cases h)
theorem snd_dix (ks : List Str) (vs : List Int) (a : T) (iha : SndE N lv a) : SndE N lv (.dix ks vs a) := by
  have key : ∀ (m : Bool) (sc raw : Scope) (e : Expr), chk N m sc raw (.dix ks vs a) e = true → ∃ keys es dp ea pos, e = .Subscript (.Dict keys es dp) ea pos ∧ keysOk ks keys = true ∧ valsOk vs es = true ∧ ks.length = vs.length ∧ ks.Nodup ∧ ks ≠ [] ∧ ks.length ≤ 15 ∧ notSlice ea = true ∧ chk N false sc raw a ea = true := by
    intro m sc raw e h
    cases e <;> first | cases h | skip
    rename_i en ea pos
    cases en <;> first | cases h | skip
    rename_i keys es dp
    have h' : (keysOk ks keys && valsOk vs es && decide (ks.length = vs.length) && decide ks.Nodup && decide (ks ≠ []) && decide (ks.length ≤ 15) && notSlice ea && chk N false sc raw a ea) = true := h
    simp only [Bool.and_eq_true] at h'
    obtain ⟨⟨⟨⟨⟨⟨⟨h1, h2⟩, h3⟩, h4⟩, h5⟩, h6⟩, h7⟩, h8⟩ := h'
    exact ⟨_, _, _, _, _, rfl, h1, h2, of_decide_eq_true h3, of_decide_eq_true h4, of_decide_eq_true h5, of_decide_eq_true h6, h7, h8⟩
  exact SndE.val (by
      intro sc raw X W e o g tk h
      obtain ⟨keys, es, dp, ea, pos, rfl, h1, h2, h3, h4, h5, h6, h7, h8⟩ := key _ _ _ _ h
      exact sx_dix (by have := o.u65; omega) h1 h2 h3 h4 h5 h6 (iha.he o g tk h8) (plainIx_of h7)) (fun sc raw x h => by
      obtain ⟨keys, es, dp, ea, pos, rfl, h1, h2, h3, h4, h5, h6, h7, h8⟩ := key _ _ _ _ h
      exact ⟨by unfold chk at h ⊢; exact h, rfl⟩) (fun _ _ x h => by cases x <;> cases h) (fun _ _ x h => by cases x <;> cases h) (fun _ _ x h => by cases x <;> cases h) (fun _ _ x h => by cases x <;> cases h) (fun _ _ x h => by cases x <;> cases h) (fun _ _ x h => by cases x <;> cases h)
theorem snd_lrg (a b : T) (iha : SndE N lv a) (ihb : SndE N lv b) : SndE N lv (.lrg a b) := by
  have key : ∀ (m : Bool) (sc raw : Scope) (e : Expr), chk N m sc raw (.lrg a b) e = true → ∃ p p2 ea eb pos2 pos, e = .Call (.Name "list" p) [.Call (.Name "range" p2) [ea, eb] [] pos2] [] pos ∧ glB sc "list" = true ∧ glB sc "range" = true ∧ notStar ea = true ∧ notStar eb = true ∧ chk N false sc raw a ea = true ∧ chk N false sc raw b eb = true := by
    intro m sc raw e h
    cases e <;> first | cases h | skip
    rename_i fe args kws pos
    cases fe <;> first | cases h | skip
    rename_i x p
    cases args with
    | nil => cases h
    | cons c r =>
      cases c <;> first | (cases r <;> cases h; done) | skip
      rename_i fe args2 kws2 pos2
      cases fe <;> first | (cases r <;> cases h; done) | skip
      rename_i y p2
      match args2, kws2, r, kws, h with
      | [ea, eb], [], [], [], h =>
        have h' : (decide (x = "list") && glB sc x && decide (y = "range") && glB sc y && notStar ea && notStar eb && chk N false sc raw a ea && chk N false sc raw b eb) = true := h
        simp only [Bool.and_eq_true] at h'
        obtain ⟨⟨⟨⟨⟨⟨⟨h1, h2⟩, h3⟩, h4⟩, h5⟩, h6⟩, h7⟩, h8⟩ := h'
        have e1 := of_decide_eq_true h1
        have e2 := of_decide_eq_true h3
        subst e1 e2
        exact ⟨_, _, _, _, _, _, rfl, h2, h4, h5, h6, h7, h8⟩
  exact SndE.val (by
      intro sc raw X W e o g tk h
      obtain ⟨p, p2, ea, eb, pos2, pos, rfl, h2, h4, h5, h6, h7, h8⟩ := key _ _ _ _ h
      exact sx_lrg o.calm (o.gl h2).1 (o.blt _ (by decide +kernel)) (o.gl h4).1 (o.blt _ (by decide +kernel)) (iha.he o g.1 tk h7) (ihb.he o g.2 tk h8) (fun es => star_of h5) (fun es => star_of h6)) (fun sc raw x h => by
      obtain ⟨p, p2, ea, eb, pos2, pos, rfl, h2, h4, h5, h6, h7, h8⟩ := key _ _ _ _ h
      exact ⟨by unfold chk at h ⊢; exact h, rfl⟩) (fun _ _ x h => by cases x <;> cases h) (fun _ _ x h => by cases x <;> cases h) (fun _ _ x h => by cases x <;> cases h) (fun _ _ x h => by cases x <;> cases h) (fun _ _ x h => by cases x <;> cases h) (fun _ _ x h => by cases x <;> cases h)
theorem snd_lr1 (a : T) (iha : SndE N lv a) : SndE N lv (.lr1 a) := by
  have key : ∀ (m : Bool) (sc raw : Scope) (e : Expr), chk N m sc raw (.lr1 a) e = true → ∃ p p2 ea pos2 pos, e = .Call (.Name "list" p) [.Call (.Name "range" p2) [ea] [] pos2] [] pos ∧ glB sc "list" = true ∧ glB sc "range" = true ∧ notStar ea = true ∧ chk N false sc raw a ea = true := by
    intro m sc raw e h
    cases e <;> first | cases h | skip
    rename_i fe args kws pos
    cases fe <;> first | cases h | skip
    rename_i x p
    cases args with
    | nil => cases h
    | cons c r =>
      cases c <;> first | (cases r <;> cases h; done) | skip
      rename_i fe args2 kws2 pos2
      cases fe <;> first | (cases r <;> cases h; done) | skip
      rename_i y p2
      match args2, kws2, r, kws, h with
      | [ea], [], [], [], h =>
        have h' : (decide (x = "list") && glB sc x && decide (y = "range") && glB sc y && notStar ea && chk N false sc raw a ea) = true := h
        simp only [Bool.and_eq_true] at h'
        obtain ⟨⟨⟨⟨⟨h1, h2⟩, h3⟩, h4⟩, h5⟩, h6⟩ := h'
        have e1 := of_decide_eq_true h1
        have e2 := of_decide_eq_true h3
        subst e1 e2
        exact ⟨_, _, _, _, _, rfl, h2, h4, h5, h6⟩
  exact SndE.val (by
      intro sc raw X W e o g tk h
      obtain ⟨p, p2, ea, pos2, pos, rfl, h2, h4, h5, h6⟩ := key _ _ _ _ h
      exact sx_lr1 o.calm (o.gl h2).1 (o.blt _ (by decide +kernel)) (o.gl h4).1 (o.blt _ (by decide +kernel)) (iha.he o g tk h6) (fun es => star_of h5)) (fun sc raw x h => by
      obtain ⟨p, p2, ea, pos2, pos, rfl, h2, h4, h5, h6⟩ := key _ _ _ _ h
      exact ⟨by unfold chk at h ⊢; exact h, rfl⟩) (fun _ _ x h => by cases x <;> cases h) (fun _ _ x h => by cases x <;> cases h) (fun _ _ x h => by cases x <;> cases h) (fun _ _ x h => by cases x <;> cases h) (fun _ _ x h => by cases x <;> cases h) (fun _ _ x h => by cases x <;> cases h) 
theorem snd_uniq (a : T) (iha : SndE N lv a) : SndE N lv (.uniq a) := by
  have key : ∀ (m : Bool) (sc raw : Scope) (e : Expr), chk N m sc raw (.uniq a) e = true → ∃ p p2 ea pos2 pos, e = .Call (.Name "sorted" p) [.Call (.Name "set" p2) [ea] [] pos2] [] pos ∧ glB sc "sorted" = true ∧ glB sc "set" = true ∧ notStar ea = true ∧ chk N false sc raw a ea = true := by
    intro m sc raw e h
    cases e <;> first | cases h | skip
    rename_i fe args kws pos
    cases fe <;> first | cases h | skip
    rename_i x p
    cases args with
    | nil => cases h
    | cons c r =>
      cases c <;> first | (cases r <;> cases h; done) | skip
      rename_i fe args2 kws2 pos2
      cases fe <;> first | (cases r <;> cases h; done) | skip
      rename_i y p2
      match args2, kws2, r, kws, h with
      | [ea], [], [], [], h =>
        have h' : (decide (x = "sorted") && glB sc x && decide (y = "set") && glB sc y && notStar ea && chk N false sc raw a ea) = true := h
        simp only [Bool.and_eq_true] at h'
        obtain ⟨⟨⟨⟨⟨h1, h2⟩, h3⟩, h4⟩, h5⟩, h6⟩ := h'
        have e1 := of_decide_eq_true h1
        have e2 := of_decide_eq_true h3
        subst e1 e2
        exact ⟨_, _, _, _, _, rfl, h2, h4, h5, h6⟩
  exact SndE.val (by
      intro sc raw X W e o g tk h
      obtain ⟨p, p2, ea, pos2, pos, rfl, h2, h4, h5, h6⟩ := key _ _ _ _ h
      exact sx_uniq o.calm o.u65 o.blt (o.gl h2).1 (o.gl h4).1 (iha.he o g tk h6) (star_of h5)) (fun sc raw x h => by
      obtain ⟨p, p2, ea, pos2, pos, rfl, h2, h4, h5, h6⟩ := key _ _ _ _ h
      exact ⟨by unfold chk at h ⊢; exact h, rfl⟩) (fun _ _ x h => by cases x <;> cases h) (fun _ _ x h => by cases x <;> cases h) (fun _ _ x h => by cases x <;> cases h) (fun _ _ x h => by cases x <;> cases h) (fun _ _ x h => by cases x <;> cases h) (fun _ _ x h => by cases x <;> cases h) 
theorem snd_lenset (a : T) (iha : SndE N lv a) : SndE N lv (.lenset a) := by
  have key : ∀ (m : Bool) (sc raw : Scope) (e : Expr), chk N m sc raw (.lenset a) e = true → ∃ p p2 ea pos2 pos, e = .Call (.Name "len" p) [.Call (.Name "set" p2) [ea] [] pos2] [] pos ∧ glB sc "len" = true ∧ glB sc "set" = true ∧ notStar ea = true ∧ chk N false sc raw a ea = true := by
    intro m sc raw e h
    cases e <;> first | cases h | skip
    rename_i fe args kws pos
    cases fe <;> first | cases h | skip
    rename_i x p
    cases args with
    | nil => cases h
    | cons c r =>
      cases c <;> first | (cases r <;> cases h; done) | skip
      rename_i fe args2 kws2 pos2
      cases fe <;> first | (cases r <;> cases h; done) | skip
      rename_i y p2
      match args2, kws2, r, kws, h with
      | [ea], [], [], [], h =>
        have h' : (decide (x = "len") && glB sc x && decide (y = "set") && glB sc y && notStar ea && chk N false sc raw a ea) = true := h
        simp only [Bool.and_eq_true] at h'
        obtain ⟨⟨⟨⟨⟨h1, h2⟩, h3⟩, h4⟩, h5⟩, h6⟩ := h'
        have e1 := of_decide_eq_true h1
        have e2 := of_decide_eq_true h3
        subst e1 e2
        exact ⟨_, _, _, _, _, rfl, h2, h4, h5, h6⟩
  exact SndE.val (by
      intro sc raw X W e o g tk h
      obtain ⟨p, p2, ea, pos2, pos, rfl, h2, h4, h5, h6⟩ := key _ _ _ _ h
      exact sx_lenset o.calm o.u65 o.blt (o.gl h2).1 (o.gl h4).1 (iha.he o g tk h6) (star_of h5)) (fun sc raw x h => by
      obtain ⟨p, p2, ea, pos2, pos, rfl, h2, h4, h5, h6⟩ := key _ _ _ _ h
      exact ⟨by unfold chk at h ⊢; exact h, rfl⟩) (fun _ _ x h => by cases x <;> cases h) (fun _ _ x h => by cases x <;> cases h) (fun _ _ x h => by cases x <;> cases h) (fun _ _ x h => by cases x <;> cases h) (fun _ _ x h => by cases x <;> cases h) (fun _ _ x h => by cases x <;> cases h) 
theorem snd_idx (a : T) (b : T) (iha : SndE N lv a) (ihb : SndE N lv b) : SndE N lv (.idx a b) := by
  exact SndE.val (by
      intro sc raw X W e o g tk h
      cases e <;> first | cases h | skip
      rename_i ea eb p
      have h' : (notSlice eb && chk N false sc raw a ea && chk N false sc raw b eb) = true := h
      simp only [Bool.and_eq_true] at h'
      exact sx_idx (iha.he o g.1 tk h'.1.2) (ihb.he o g.2 tk h'.2) (plainIx_of h'.1.1)) (fun _ _ x h => by cases x <;> first | exact ⟨h, rfl⟩ | cases h) (fun _ _ x h => by cases x <;> cases h) (fun _ _ x h => by cases x <;> cases h) (fun _ _ x h => by cases x <;> cases h) (fun _ _ x h => by cases x <;> cases h) (fun _ _ x h => by cases x <;> cases h) (fun _ _ x h => by cases x <;> cases h)
theorem snd_slc (a : T) (l : T) (hh : T) (iha : SndE N lv a) (ihl : SndE N lv l) (ihh : SndE N lv hh) : SndE N lv (.slc a l hh) := by
  exact SndE.val (by
      intro sc raw X W e o g tk h
      cases e <;> first | cases h | skip
      rename_i ea es p
      cases es <;> first | cases h | skip
      rename_i lo hi st p2
      cases st <;> first | cases h | skip
      have h' : (chk N false sc raw a ea && chkO N sc raw l lo && chkO N sc raw hh hi) = true := h
      simp only [Bool.and_eq_true] at h'
      exact sx_slc (iha.he o g.1 tk h'.1.1) (ihl.ho o g.2.1 tk h'.1.2) (ihh.ho o g.2.2 tk h'.2)) (fun _ _ x h => by
      cases x <;> first | cases h | skip
      rename_i ea es p
      cases es <;> first | cases h | skip
      rename_i lo hi st p2
      cases st <;> first | cases h | exact ⟨h, rfl⟩) (fun _ _ x h => by cases x <;> cases h) (fun _ _ x h => by cases x <;> cases h) (fun _ _ x h => by cases x <;> cases h) (fun _ _ x h => by cases x <;> cases h) (fun _ _ x h => by cases x <;> cases h) (fun _ _ x h => by cases x <;> cases h)
theorem snd_nopart   : SndE N lv (.nopart ) := by
  refine ⟨?_, ?_, ?_, ?_, ?_, ?_, ?_, ?_, ?_⟩
  · intro sc raw X W e _ _ _ h; cases e <;> cases h
  · intro sc raw X W e _ _ _ h; cases e <;> cases h
  · intro sc raw X W op es p _ _ _ h; cases h
  · intro sc raw X W es _ _ _ h; cases es <;> cases h
  · intro sc raw X W e o g tk h
    cases e with
    | none => exact so_none
    | some _ => cases h
  · intro sc raw X W es tg _ _ _ h; cases es <;> cases h
  · intro sc raw X es _ h; cases es <;> cases h
  · intro sc raw X es _ h; cases es <;> cases h
  · intro sc raw X W es _ _ _ h; cases es <;> cases h
theorem snd_rev (a : T) (iha : SndE N lv a) : SndE N lv (.rev a) := by
  have key : ∀ (m : Bool) (sc raw : Scope) (x : Expr), chk N m sc raw (.rev a) x = true → ∃ ea k p1 p2 p3 p, x = .Subscript ea (.Slice Option.none Option.none (some (.UnaryOp .USub (.Constant (.int 1) k p1) p2)) p3) p ∧ chk N false sc raw a ea = true := by
    intro m sc raw x h
    cases x <;> first | cases h | skip
    rename_i ea es p
    cases es <;> first | cases h | skip
    rename_i lo hi st p2
    match lo, hi, st, h with
    | Option.none, Option.none, some (.UnaryOp .USub (.Constant (.int 1) k p1) p3), h => exact ⟨_, _, _, _, _, _, rfl, h⟩
  exact SndE.val (by
    intro sc raw X W e o g tk h
    obtain ⟨ea, k, p1, p2, p3, p, rfl, h'⟩ := key _ _ _ _ h
    exact sx_rev (iha.he o g tk h')) (fun sc raw x h => by
    obtain ⟨ea, k, p1, p2, p3, p, rfl, h'⟩ := key _ _ _ _ h
    exact ⟨h', rfl⟩) (fun _ _ x h => by cases x <;> cases h) (fun _ _ x h => by cases x <;> cases h) (fun _ _ x h => by cases x <;> cases h) (fun _ _ x h => by cases x <;> cases h) (fun _ _ x h => by cases x <;> cases h) (fun _ _ x h => by cases x <;> cases h)
theorem snd_call (x : Str) (g : G) (l : T) (ihl : SndE N lv l) : SndE N lv (.call x g l) := by
  have key : ∀ (m : Bool) (sc raw : Scope) (e : Expr), chk N m sc raw (.call x g l) e = true → (∃ p a es pos, e = .Call (.Name x p) (a :: es) [] pos ∧ glB sc x = true ∧ chkA N sc raw l (a :: es) = true) ∨ ∃ p pos, e = .Call (.Name x p) [] [] pos ∧ l = .anil ∧ glB sc x = true := by
    intro m sc raw e h
    cases e <;> first | (cases l <;> cases h; done) | skip
    rename_i f args kws p
    cases f <;> first | (cases l <;> cases h; done) | skip
    rename_i fn fp
    cases kws with
    | cons _ _ => cases l <;> (cases args <;> cases h)
    | nil =>
      cases args with
      | nil =>
        cases l <;> first | cases h | skip
        have h' : (decide (x = fn) && glB sc fn) = true := h
        rw [Bool.and_eq_true] at h'
        have e1 : x = fn := of_decide_eq_true h'.1
        subst e1
        exact .inr ⟨_, _, rfl, rfl, h'.2⟩
      | cons a es =>
        have h' : (decide (x = fn) && glB sc fn && chkA N sc raw l (a :: es)) = true := by
          cases l <;> exact h
        simp only [Bool.and_eq_true] at h'
        have e1 : x = fn := of_decide_eq_true h'.1.1
        subst e1
        exact .inl ⟨_, _, _, _, rfl, h'.1.2, h'.2⟩
  exact SndE.val (by
    intro sc raw X W e o gd tk h
    obtain ⟨⟨f, fd, ps, k, hk, hn, hm, hkp, hb, F⟩, gd2⟩ := gd
    rcases key _ _ _ _ h with ⟨p, a, es, pos, rfl, hg, hl⟩ | ⟨p, pos, rfl, rfl, hg⟩
    · obtain ⟨q1, q2⟩ := chkA_all _ _ hl
      rw [List.all_cons, Bool.and_eq_true] at q1
      exact sx_call F (o.room.mono hk) (o.gl hg).1 hm hkp hb tk (ihl.ha o gd2 tk hl) (o.gl hg).2 (star_of q1.1) (back_of q1.2) (by rw [q2, hn]) fun s us s' hs => by rw [evA_len l s us s' hs, q2]
    · exact sx_call0 F (o.room.mono hk) (o.gl hg).1 hm hkp hb tk (o.gl hg).2 hn) (fun sc raw x0 h => by
    rcases key _ _ _ _ h with ⟨p, a, es, pos, rfl, hg, hl⟩ | ⟨p, pos, rfl, rfl, hg⟩
    · exact ⟨by cases l <;> exact h, rfl⟩
    · exact ⟨h, rfl⟩) (fun _ _ x h => by cases x <;> cases h) (fun _ _ x h => by cases x <;> cases h) (fun _ _ x h => by cases x <;> cases h) (fun _ _ x h => by cases x <;> cases h) (fun _ _ x h => by cases x <;> cases h) (fun _ _ x h => by cases x <;> cases h)
theorem snd_blt (f : BF) (l : T) (ihl : SndE N lv l) : SndE N lv (.blt f l) := by
  have key : ∀ (m : Bool) (sc raw : Scope) (e : Expr), chk N m sc raw (.blt f l) e = true → ∃ p a es pos, e = .Call (.Name f.name p) (a :: es) [] pos ∧ glB sc f.name = true ∧ f.isI = false ∧ chkA N sc raw l (a :: es) = true := by
    intro m sc raw e h
    cases e <;> first | cases h | skip
    rename_i fe args kws p
    cases fe <;> first | cases h | skip
    rename_i fn fp
    match args, kws, h with
    | a :: es, [], h =>
      have h' : (decide (fn = f.name) && glB sc fn && !f.isI && chkA N sc raw l (a :: es)) = true := h
      simp only [Bool.and_eq_true] at h'
      have e1 : fn = f.name := of_decide_eq_true h'.1.1.1
      subst e1
      exact ⟨_, _, _, _, rfl, h'.1.1.2, by simpa using h'.1.2, h'.2⟩
  exact SndE.val (by
      intro sc raw X W e o g tk h
      obtain ⟨p, a, es, pos, rfl, hg, hf, hl⟩ := key _ _ _ _ h
      obtain ⟨q1, q2⟩ := chkA_all _ _ hl
      rw [List.all_cons, Bool.and_eq_true] at q1
      have hs1 := star_of (es := es) (env := X.env) q1.1
      have hs2 := back_of (env := X.env) (pos := pos) q1.2
      cases f with
      | len => exact sx_len o.blt (o.gl hg).1 (ihl.ha o g tk hl) hs1 hs2
      | int => exact sx_intF o.blt (o.gl hg).1 (ihl.ha o g tk hl) hs1 hs2
      | str => exact sx_strF o.blt (o.gl hg).1 (ihl.ha o g tk hl) hs1 hs2
      | bool => exact sx_boolF o.blt (o.gl hg).1 (ihl.ha o g tk hl) hs1 hs2
      | abs => exact sx_absF o.blt (o.gl hg).1 (ihl.ha o g tk hl) hs1 hs2
      | max2 => exact sx_max2 o.calm o.blt (o.gl hg).1 (ihl.ha o g tk hl) hs1 hs2
      | min2 => exact sx_min2 o.calm o.blt (o.gl hg).1 (ihl.ha o g tk hl) hs1 hs2
      | max1 => exact sx_max1 o.calm o.blt (o.gl hg).1 (ihl.ha o g tk hl) hs1 hs2
      | min1 => exact sx_min1 o.calm o.blt (o.gl hg).1 (ihl.ha o g tk hl) hs1 hs2
      | sorted => exact sx_sorted o.u65 o.blt (o.gl hg).1 (ihl.ha o g tk hl) hs1 hs2
      | tuple => exact sx_tupF o.blt (o.gl hg).1 (ihl.ha o g tk hl) hs1 hs2
      | list => exact sx_lstF o.blt (o.gl hg).1 (ihl.ha o g tk hl) hs1 hs2
      | all => exact sx_all o.calm o.blt (o.gl hg).1 (ihl.ha o g tk hl) hs1 hs2
      | isInt => cases hf
      | isBool => cases hf
      | isStr => cases hf
      | isTuple => cases hf
      | isList => cases hf) (fun sc raw x h => by
      obtain ⟨p, a, es, pos, rfl, hg, hf, hl⟩ := key _ _ _ _ h
      exact ⟨h, rfl⟩) (fun _ _ x h => by cases x <;> cases h) (fun _ _ x h => by cases x <;> cases h) (fun _ _ x h => by cases x <;> cases h) (fun _ _ x h => by cases x <;> cases h) (fun _ _ x h => by cases x <;> cases h) (fun _ _ x h => by cases x <;> cases h)
theorem cls_boot (f : BF) (hf : f.isI = true) : bootBuiltins (Str.ofString f.cls) = some (.type f.cls) ∧ Str.ofString f.cls ≠ "__name__" ∧ (Str.ofString f.cls == ("__debug__" : Str)) = false ∧ Str.ofString f.cls ∈ bltNames ∧ f.name = "isinstance" := by
  cases f <;> first | exact absurd hf (by decide) | skip
  all_goals exact ⟨by decide +kernel, by decide +kernel, by decide +kernel, by decide +kernel, rfl⟩
theorem snd_isi (f : BF) (a : T) (iha : SndE N lv a) : SndE N lv (.isi f a) := by
  have key : ∀ (m : Bool) (sc raw : Scope) (e : Expr), chk N m sc raw (.isi f a) e = true → ∃ p e1 p2 pos, e = .Call (.Name f.name p) [e1, .Name (Str.ofString f.cls) p2] [] pos ∧ glB sc f.name = true ∧ glB sc (Str.ofString f.cls) = true ∧ f.isI = true ∧ notStar e1 = true ∧ chk N false sc raw a e1 = true := by
    intro m sc raw e h
    cases e <;> first | cases h | skip
    rename_i fe args kws p
    cases fe <;> first | cases h | skip
    rename_i fn fp
    match args, kws, h with
    | [e1, .Name cn _], [], h =>
      have h' : (f.isI && decide (fn = f.name) && glB sc fn && decide (cn = Str.ofString f.cls) && glB sc cn && notStar e1 && chk N false sc raw a e1) = true := h
      simp only [Bool.and_eq_true] at h'
      obtain ⟨⟨⟨⟨⟨⟨h1, h2⟩, h3⟩, h4⟩, h5⟩, h6⟩, h7⟩ := h'
      have q1 : fn = f.name := of_decide_eq_true h2
      subst q1
      have q2 : cn = Str.ofString f.cls := of_decide_eq_true h4
      subst q2
      exact ⟨_, _, _, _, rfl, h3, h5, h1, h6, h7⟩
  exact SndE.val (by
      intro sc raw X W e o g tk h
      obtain ⟨p, e1, p2, pos, rfl, h3, h5, h1, h6, h7⟩ := key _ _ _ _ h
      obtain ⟨b1, b2, b3, b4, b5⟩ := cls_boot f h1
      rw [b5]
      rw [b5] at h3
      exact sx_isi f h1 o.blt (o.gl h3).1 (o.gl h5).1 (o.blt _ b4) b1 b2 b3 (iha.he o g tk h7) (star_of h6) rfl) (fun sc raw x h => by
      obtain ⟨p, e1, p2, pos, rfl, h3, h5, h1, h6, h7⟩ := key _ _ _ _ h
      exact ⟨h, rfl⟩) (fun _ _ x h => by cases x <;> cases h) (fun _ _ x h => by cases x <;> cases h) (fun _ _ x h => by cases x <;> cases h) (fun _ _ x h => by cases x <;> cases h) (fun _ _ x h => by cases x <;> cases h) (fun _ _ x h => by cases x <;> cases h)
theorem snd_comp (own : List Nat) (g : T) (it : T) (c : T) (e : T) (ihg : SndE N lv g) (ihi : SndE N lv it) (ihc : SndE N lv c) (ihe : SndE N lv e) : SndE N lv (.comp own g it c e) := by
  have key : ∀ (m : Bool) (sc raw : Scope) (x : Expr), chk N m sc raw (.comp own g it c e) x = true → ∃ elt tg iter ifs scope pos, x = .ListComp elt [⟨tg, iter, ifs, 0⟩] scope pos ∧ blkC N sc scope (ownOf N own) = true ∧ (ownOf N own).map (·.2) = own ∧ (∀ i ∈ slotsT g, i ∈ own) ∧ (notSet iter = true ∧ tgOk it tg = true) ∧ chkI N sc raw it iter = true ∧
      chkG N (relS scope sc) scope g tg = true ∧ chkC N (relS scope sc) scope c ifs = true ∧ chk N false (relS scope sc) scope e elt = true := by
    intro m sc raw x h
    cases x <;> first | cases h | skip
    rename_i elt gs scope pos
    match gs, h with
    | [⟨tg, iter, ifs, as⟩], h =>
      have h' : (decide (as = 0) && blkC N sc scope (ownOf N own) && decide ((ownOf N own).map (·.2) = own) && decide (∀ i ∈ slotsT g, i ∈ own) && (notSet iter && tgOk it tg) && chkI N sc raw it iter &&
        chkG N (relS scope sc) scope g tg && chkC N (relS scope sc) scope c ifs && chk N false (relS scope sc) scope e elt) = true := h
      simp only [Bool.and_eq_true] at h'
      obtain ⟨⟨⟨⟨⟨⟨⟨⟨h1, h2⟩, h3⟩, h4⟩, h5⟩, h6⟩, h7⟩, h8⟩, h9⟩ := h'
      have e1 : as = 0 := of_decide_eq_true h1
      subst e1
      exact ⟨_, _, _, _, _, _, rfl, h2, of_decide_eq_true h3, of_decide_eq_true h4, h5, h6, h7, h8, h9⟩
  exact SndE.val (by
      intro sc raw X W x o gd tk h
      obtain ⟨elt, tg, iter, ifs, scope, pos, rfl, h2, h3, h4, h5, h6, h7, h8, h9⟩ := key _ _ _ _ h
      have ok := blkOk_by h2
      have okX : BlkOk X.N X.env.scope scope (ownOf N own) := by
        rw [o.hN, o.hsc]
        exact ok
      have hN : X.N.Nodup := by rw [o.hN]; exact o.nd
      have pe := pe_lc (g := tXG X.K g) (elt := elt) (scope := scope) (ifs := ifs) (te := tX X.K X.mg W0 e) (tt := tXT X.K X.mg W0 c) (pos := pos) o.calm hN (ihi.hi (tg := tg) o gd.1 tk h6 h5.2) okX (fun s H C cl fp => ihg.hg (o.blk ok s H C cl fp) h7) (fun s H C cl fp => ihc.hc (W := W0) (o.blk ok s H C cl fp) gd.2.1 takesF h8) (fun s H C cl fp => ihe.he (W := W0) (o.blk ok s H C cl fp) gd.2.2 takesF h9) (folded_of h5.1)
      rw [h3] at pe
      exact pe.weak fun σ H Q q => comp_tX h4 (fun _ _ _ z => z) σ H Q q) (fun sc raw x h => by
      obtain ⟨elt, tg, iter, ifs, scope, pos, rfl, h2, h3, h4, h5, h6, h7, h8, h9⟩ := key _ _ _ _ h
      exact ⟨h, rfl⟩) (fun _ _ x h => by cases x <;> cases h) (fun _ _ x h => by cases x <;> cases h) (fun _ _ x h => by cases x <;> cases h) (fun _ _ x h => by cases x <;> cases h) (fun _ _ x h => by cases x <;> cases h) (fun _ _ x h => by cases x <;> cases h)
theorem snd_yes : SndE N lv .yes := by
  refine ⟨?_, ?_, ?_, ?_, ?_, ?_, ?_, ?_, ?_⟩
  · intro sc raw X W e _ _ _ h; cases e <;> cases h
  · intro sc raw X W e _ _ _ h; cases e <;> cases h
  · intro sc raw X W op es p _ _ _ h; cases h
  · intro sc raw X W es _ _ _ h; cases es <;> cases h
  · intro sc raw X W es _ _ _ h; cases es <;> cases h
  · intro sc raw X W es tg _ _ _ h; cases es <;> cases h
  · intro sc raw X es _ h; cases es <;> cases h
  · intro sc raw X es _ h; cases es <;> cases h
  · intro sc raw X W es o g tk h
    match es, h with
    | [], h => exact pts_nil.weak fun σ H Q ⟨C, F, s, r, h⟩ => h.here r
theorem snd_tname (i : Nat)  : SndE N lv (.tname i) := by
  refine ⟨?_, ?_, ?_, ?_, ?_, ?_, ?_, ?_, ?_⟩
  · intro sc raw X W e _ _ _ h; cases e <;> cases h
  · intro sc raw X W e _ _ _ h; cases e <;> cases h
  · intro sc raw X W op es p _ _ _ h; cases h
  · intro sc raw X W es _ _ _ h; cases es <;> cases h
  · intro sc raw X W es _ _ _ h; cases es <;> cases h
  · intro sc raw X W es tg _ _ _ h; cases es <;> cases h
  · intro sc raw X e o h
    cases e <;> first | cases h | skip
    rename_i x p
    have h' : (decide (N[i]? = some x) && stB raw x) = true := h
    rw [Bool.and_eq_true] at h'
    exact sg_name (by rw [o.hN]; exact o.nd) (o.ix h'.1) (o.loc h'.2).1 (o.loc h'.2).2
  · intro sc raw X es _ h; cases es <;> cases h
  · intro sc raw X W es _ _ _ h; cases es <;> cases h
theorem snd_ttup (l : T) (ih : SndE N lv l) : SndE N lv (.ttup l) := by
  refine ⟨?_, ?_, ?_, ?_, ?_, ?_, ?_, ?_, ?_⟩
  · intro sc raw X W e _ _ _ h; cases e <;> cases h
  · intro sc raw X W e _ _ _ h; cases e <;> cases h
  · intro sc raw X W op es p _ _ _ h; cases h
  · intro sc raw X W es _ _ _ h; cases es <;> cases h
  · intro sc raw X W es _ _ _ h; cases es <;> cases h
  · intro sc raw X W es tg _ _ _ h; cases es <;> cases h
  · intro sc raw X e o h
    cases e <;> first | cases h | skip
    rename_i es k p
    obtain ⟨q1, q2⟩ := chkGs_all _ _ h
    obtain ⟨q3, q4⟩ := asgEach_len (env := X.env) q1
    exact sg_tup o.calm (ih.hgs o h) q3 q4 fun xs s s' e => by rw [asgTs_len _ _ _ _ e, q2]
  · intro sc raw X es _ h; cases es <;> cases h
  · intro sc raw X W es _ _ _ h; cases es <;> cases h
theorem snd_itl (a : T) (iha : SndE N lv a) : SndE N lv (.itl a) := by
  refine ⟨?_, ?_, ?_, ?_, ?_, ?_, ?_, ?_, ?_⟩
  · intro sc raw X W e _ _ _ h; cases e <;> cases h
  · intro sc raw X W e _ _ _ h; cases e <;> cases h
  · intro sc raw X W op es p _ _ _ h; cases h
  · intro sc raw X W es _ _ _ h; cases es <;> cases h
  · intro sc raw X W es _ _ _ h; cases es <;> cases h
  · intro sc raw X W e tg o g tk h
    exact fun _ => si_l (iha.he o g tk (by cases e <;> exact h))
  · intro sc raw X es _ h; cases es <;> cases h
  · intro sc raw X es _ h; cases es <;> cases h
  · intro sc raw X W es _ _ _ h; cases es <;> cases h
theorem snd_itt (a : T) (iha : SndE N lv a) : SndE N lv (.itt a) := by
  refine ⟨?_, ?_, ?_, ?_, ?_, ?_, ?_, ?_, ?_⟩
  · intro sc raw X W e _ _ _ h; cases e <;> cases h
  · intro sc raw X W e _ _ _ h; cases e <;> cases h
  · intro sc raw X W op es p _ _ _ h; cases h
  · intro sc raw X W es _ _ _ h; cases es <;> cases h
  · intro sc raw X W es _ _ _ h; cases es <;> cases h
  · intro sc raw X W e tg o g tk h
    exact fun _ => si_t (iha.he o g tk (by cases e <;> exact h))
  · intro sc raw X es _ h; cases es <;> cases h
  · intro sc raw X es _ h; cases es <;> cases h
  · intro sc raw X W es _ _ _ h; cases es <;> cases h
theorem snd_itr1 (a : T) (iha : SndE N lv a) : SndE N lv (.itr1 a) := by
  refine ⟨?_, ?_, ?_, ?_, ?_, ?_, ?_, ?_, ?_⟩
  · intro sc raw X W e _ _ _ h; cases e <;> cases h
  · intro sc raw X W e _ _ _ h; cases e <;> cases h
  · intro sc raw X W op es p _ _ _ h; cases h
  · intro sc raw X W es _ _ _ h; cases es <;> cases h
  · intro sc raw X W es _ _ _ h; cases es <;> cases h
  · intro sc raw X W e tg o g tk h
    cases e <;> first | cases h | skip
    rename_i fe args kws p
    cases fe <;> first | cases h | skip
    rename_i fn fp
    match args, kws, h with
    | [e], [], h =>
      have h' : ((fn == ("range" : Str)) && glB sc fn && notStar e && chk N false sc raw a e) = true := h
      simp only [Bool.and_eq_true] at h'
      have e1 : fn = "range" := eq_of_beq h'.1.1.1
      subst e1
      exact fun _ => si_r1 o.blt (o.gl h'.1.1.2).1 (iha.he o g tk h'.2) (star_of h'.1.2)
  · intro sc raw X es _ h; cases es <;> cases h
  · intro sc raw X es _ h; cases es <;> cases h
  · intro sc raw X W es _ _ _ h; cases es <;> cases h
theorem snd_itr2 (a : T) (b : T) (iha : SndE N lv a) (ihb : SndE N lv b) : SndE N lv (.itr2 a b) := by
  refine ⟨?_, ?_, ?_, ?_, ?_, ?_, ?_, ?_, ?_⟩
  · intro sc raw X W e _ _ _ h; cases e <;> cases h
  · intro sc raw X W e _ _ _ h; cases e <;> cases h
  · intro sc raw X W op es p _ _ _ h; cases h
  · intro sc raw X W es _ _ _ h; cases es <;> cases h
  · intro sc raw X W es _ _ _ h; cases es <;> cases h
  · intro sc raw X W e tg o g tk h
    cases e <;> first | cases h | skip
    rename_i fe args kws p
    cases fe <;> first | cases h | skip
    rename_i fn fp
    match args, kws, h with
    | [e, e2], [], h =>
      have h' : ((fn == ("range" : Str)) && glB sc fn && notStar e && notStar e2 && chk N false sc raw a e && chk N false sc raw b e2) = true := h
      simp only [Bool.and_eq_true] at h'
      obtain ⟨⟨⟨⟨⟨h1, h2⟩, h3⟩, h4⟩, h5⟩, h6⟩ := h'
      have e1 : fn = "range" := eq_of_beq h1
      subst e1
      have s2 : starEach [e2] X.env = [(false, eval e2 X.env)] := star_of h4
      have s1 : starEach [e, e2] X.env = [(false, eval e X.env), (false, eval e2 X.env)] := (star_of h3).trans (by rw [s2])
      exact fun _ => si_r2 o.blt (o.gl h2).1 (iha.he o g.1 tk h5) (ihb.he o g.2 tk h6) s1 s2
  · intro sc raw X es _ h; cases es <;> cases h
  · intro sc raw X es _ h; cases es <;> cases h
  · intro sc raw X W es _ _ _ h; cases es <;> cases h
theorem snd_itz (a : T) (b : T) (iha : SndE N lv a) (ihb : SndE N lv b) : SndE N lv (.itz a b) := by
  refine ⟨?_, ?_, ?_, ?_, ?_, ?_, ?_, ?_, ?_⟩
  · intro sc raw X W e _ _ _ h; cases e <;> cases h
  · intro sc raw X W e _ _ _ h; cases e <;> cases h
  · intro sc raw X W op es p _ _ _ h; cases h
  · intro sc raw X W es _ _ _ h; cases es <;> cases h
  · intro sc raw X W es _ _ _ h; cases es <;> cases h
  · intro sc raw X W e tg o g tk h
    cases e <;> first | cases h | skip
    rename_i fe args kws p
    cases fe <;> first | cases h | skip
    rename_i fn fp
    match args, kws, h with
    | [e, e2], [], h =>
      have h' : ((fn == ("zip" : Str)) && glB sc fn && notStar e && notStar e2 && chk N false sc raw a e && chk N false sc raw b e2) = true := h
      simp only [Bool.and_eq_true] at h'
      obtain ⟨⟨⟨⟨⟨h1, h2⟩, h3⟩, h4⟩, h5⟩, h6⟩ := h'
      have e1 : fn = "zip" := eq_of_beq h1
      subst e1
      have s2 : starEach [e2] X.env = [(false, eval e2 X.env)] := star_of h4
      have s1 : starEach [e, e2] X.env = [(false, eval e X.env), (false, eval e2 X.env)] := (star_of h3).trans (by rw [s2])
      intro ht
      cases tg <;> first | (cases ht; done) | skip
      exact si_z o.blt (o.gl h2).1 (iha.he o g.1 tk h5) (ihb.he o g.2 tk h6) s1 s2
  · intro sc raw X es _ h; cases es <;> cases h
  · intro sc raw X es _ h; cases es <;> cases h
  · intro sc raw X W es _ _ _ h; cases es <;> cases h
theorem sndE : ∀ t : T, SndE N lv t := by
  intro t
  induction t with
  | var i => exact snd_var i
  | lenS i => exact snd_lenS i
  | cst d => exact snd_cst d
  | glob x d => exact snd_glob x d
  | bin op a b iha ihb => exact snd_bin op a b iha ihb
  | neg a iha => exact snd_neg a iha
  | cmp op a b iha ihb => exact snd_cmp op a b iha ihb
  | chain q p a b c iha ihb ihc => exact snd_chain q p a b c iha ihb ihc
  | isN a iha => exact snd_isN a iha
  | notN a iha => exact snd_notN a iha
  | not a iha => exact snd_not a iha
  | one a iha => exact snd_one a iha
  | and a b iha ihb => exact snd_and a b iha ihb
  | or a b iha ihb => exact snd_or a b iha ihb
  | ite c a b ihc iha ihb => exact snd_ite c a b ihc iha ihb
  | tup l ih => exact snd_tup l ih
  | lst l ih => exact snd_lst l ih
  | anil  => exact snd_anil 
  | acons a r iha ihr => exact snd_acons a r iha ihr
  | idx a b iha ihb => exact snd_idx a b iha ihb
  | mth f a b iha ihb => exact snd_mth f a b iha ihb
  | bget i j => exact snd_bget i j
  | dix ks vs a iha => exact snd_dix ks vs a iha
  | lrg a b iha ihb => exact snd_lrg a b iha ihb
  | lr1 a iha => exact snd_lr1 a iha
  | uniq a iha => exact snd_uniq a iha
  | lenset a iha => exact snd_lenset a iha
  | itz a b iha ihb => exact snd_itz a b iha ihb
  | tryR _ _ _ _ => exact SndE.none (fun _ _ _ x h => by cases x <;> cases h) (fun _ _ x h => by cases x <;> cases h) (fun _ _ x h => by cases x <;> cases h) (fun _ _ x h => by cases x <;> cases h) (fun _ _ x h => by cases x <;> cases h) (fun _ _ x h => by cases x <;> cases h) (fun _ _ x h => by cases x <;> cases h)
  | bset _ _ _ _ => exact SndE.none (fun _ _ _ x h => by cases x <;> cases h) (fun _ _ x h => by cases x <;> cases h) (fun _ _ x h => by cases x <;> cases h) (fun _ _ x h => by cases x <;> cases h) (fun _ _ x h => by cases x <;> cases h) (fun _ _ x h => by cases x <;> cases h) (fun _ _ x h => by cases x <;> cases h)
  | sat i a iha => exact snd_sat i a iha
  | slc a l hh iha ihl ihh => exact snd_slc a l hh iha ihl ihh
  | nopart  => exact snd_nopart 
  | rev a iha => exact snd_rev a iha
  | call x g l ihl => exact snd_call x g l ihl
  | blt f l ihl => exact snd_blt f l ihl
  | isi f a iha => exact snd_isi f a iha
  | comp own g it c e ihg ihi ihc ihe => exact snd_comp own g it c e ihg ihi ihc ihe
  | yes  => exact snd_yes 
  | tname i => exact snd_tname i
  | ttup l ih => exact snd_ttup l ih
  | itl a iha => exact snd_itl a iha
  | itt a iha => exact snd_itt a iha
  | itr1 a iha => exact snd_itr1 a iha
  | itr2 a b iha ihb => exact snd_itr2 a b iha ihb
  | nil => exact SndE.none (fun _ _ _ x h => by cases x <;> cases h) (fun _ _ x h => by cases x <;> cases h) (fun _ _ x h => by cases x <;> cases h) (fun _ _ x h => by cases x <;> cases h) (fun _ _ x h => by cases x <;> cases h) (fun _ _ x h => by cases x <;> cases h) (fun _ _ x h => by cases x <;> cases h)
  | seq _ _ _ _ => exact SndE.none (fun _ _ _ x h => by cases x <;> cases h) (fun _ _ x h => by cases x <;> cases h) (fun _ _ x h => by cases x <;> cases h) (fun _ _ x h => by cases x <;> cases h) (fun _ _ x h => by cases x <;> cases h) (fun _ _ x h => by cases x <;> cases h) (fun _ _ x h => by cases x <;> cases h)
  | bagged _ _ _ _ _ _ _ => exact SndE.none (fun _ _ _ x h => by cases x <;> cases h) (fun _ _ x h => by cases x <;> cases h) (fun _ _ x h => by cases x <;> cases h) (fun _ _ x h => by cases x <;> cases h) (fun _ _ x h => by cases x <;> cases h) (fun _ _ x h => by cases x <;> cases h) (fun _ _ x h => by cases x <;> cases h)
  | asg _ _ _ _ => exact SndE.none (fun _ _ _ x h => by cases x <;> cases h) (fun _ _ x h => by cases x <;> cases h) (fun _ _ x h => by cases x <;> cases h) (fun _ _ x h => by cases x <;> cases h) (fun _ _ x h => by cases x <;> cases h) (fun _ _ x h => by cases x <;> cases h) (fun _ _ x h => by cases x <;> cases h)
  | asgO _ _ _ => exact SndE.none (fun _ _ _ x h => by cases x <;> cases h) (fun _ _ x h => by cases x <;> cases h) (fun _ _ x h => by cases x <;> cases h) (fun _ _ x h => by cases x <;> cases h) (fun _ _ x h => by cases x <;> cases h) (fun _ _ x h => by cases x <;> cases h) (fun _ _ x h => by cases x <;> cases h)
  | par _ _ _ => exact SndE.none (fun _ _ _ x h => by cases x <;> cases h) (fun _ _ x h => by cases x <;> cases h) (fun _ _ x h => by cases x <;> cases h) (fun _ _ x h => by cases x <;> cases h) (fun _ _ x h => by cases x <;> cases h) (fun _ _ x h => by cases x <;> cases h) (fun _ _ x h => by cases x <;> cases h)
  | parL _ _ _ _ => exact SndE.none (fun _ _ _ x h => by cases x <;> cases h) (fun _ _ x h => by cases x <;> cases h) (fun _ _ x h => by cases x <;> cases h) (fun _ _ x h => by cases x <;> cases h) (fun _ _ x h => by cases x <;> cases h) (fun _ _ x h => by cases x <;> cases h) (fun _ _ x h => by cases x <;> cases h)
  | app _ _ _ => exact SndE.none (fun _ _ _ x h => by cases x <;> cases h) (fun _ _ x h => by cases x <;> cases h) (fun _ _ x h => by cases x <;> cases h) (fun _ _ x h => by cases x <;> cases h) (fun _ _ x h => by cases x <;> cases h) (fun _ _ x h => by cases x <;> cases h) (fun _ _ x h => by cases x <;> cases h)
  | iff _ _ _ _ _ _ => exact SndE.none (fun _ _ _ x h => by cases x <;> cases h) (fun _ _ x h => by cases x <;> cases h) (fun _ _ x h => by cases x <;> cases h) (fun _ _ x h => by cases x <;> cases h) (fun _ _ x h => by cases x <;> cases h) (fun _ _ x h => by cases x <;> cases h) (fun _ _ x h => by cases x <;> cases h)
  | loop _ _ _ _ _ _ => exact SndE.none (fun _ _ _ x h => by cases x <;> cases h) (fun _ _ x h => by cases x <;> cases h) (fun _ _ x h => by cases x <;> cases h) (fun _ _ x h => by cases x <;> cases h) (fun _ _ x h => by cases x <;> cases h) (fun _ _ x h => by cases x <;> cases h) (fun _ _ x h => by cases x <;> cases h)
  | «while» _ _ _ _ _ => exact SndE.none (fun _ _ _ x h => by cases x <;> cases h) (fun _ _ x h => by cases x <;> cases h) (fun _ _ x h => by cases x <;> cases h) (fun _ _ x h => by cases x <;> cases h) (fun _ _ x h => by cases x <;> cases h) (fun _ _ x h => by cases x <;> cases h) (fun _ _ x h => by cases x <;> cases h)
  | ret _ _ => exact SndE.none (fun _ _ _ x h => by cases x <;> cases h) (fun _ _ x h => by cases x <;> cases h) (fun _ _ x h => by cases x <;> cases h) (fun _ _ x h => by cases x <;> cases h) (fun _ _ x h => by cases x <;> cases h) (fun _ _ x h => by cases x <;> cases h) (fun _ _ x h => by cases x <;> cases h)
  | drop _ _ => exact SndE.none (fun _ _ _ x h => by cases x <;> cases h) (fun _ _ x h => by cases x <;> cases h) (fun _ _ x h => by cases x <;> cases h) (fun _ _ x h => by cases x <;> cases h) (fun _ _ x h => by cases x <;> cases h) (fun _ _ x h => by cases x <;> cases h) (fun _ _ x h => by cases x <;> cases h)
  | raise _ _ _ => exact SndE.none (fun _ _ _ x h => by cases x <;> cases h) (fun _ _ x h => by cases x <;> cases h) (fun _ _ x h => by cases x <;> cases h) (fun _ _ x h => by cases x <;> cases h) (fun _ _ x h => by cases x <;> cases h) (fun _ _ x h => by cases x <;> cases h) (fun _ _ x h => by cases x <;> cases h)
end
end RD
set_option Elab.async false
set_option linter.all false
set_option maxRecDepth 100000
/-! RdM: statements that pass the look do what they say; a def's promise. -/
namespace RD
open PySem L2

theorem noBag_len : ∀ r : List Slot, (noBag r).length = r.length
  | [] => rfl
  | .un :: r => congrArg (· + 1) (noBag_len r)
  | .ol _ :: r => congrArg (· + 1) (noBag_len r)
  | .val (.d _) :: r => congrArg (· + 1) (noBag_len r)
  | .val (.scr _) :: r => congrArg (· + 1) (noBag_len r)
  | .val .bag :: r => congrArg (· + 1) (noBag_len r)
theorem noBag_val : ∀ {r : List Slot} {i : Nat} {u : U}, (noBag r)[i]? = some (.val u) → r[i]? = some (.val u) ∧ u ≠ .bag
  | [], _, _, h => by cases h
  | .un :: r, 0, _, h => by cases h
  | .ol _ :: r, 0, _, h => by cases h
  | .val (.d _) :: r, 0, _, h => by cases h; exact ⟨rfl, by intro z; cases z⟩
  | .val (.scr _) :: r, 0, _, h => by cases h; exact ⟨rfl, by intro z; cases z⟩
  | .val .bag :: r, 0, _, h => by cases h
  | .un :: r, i + 1, _, h => noBag_val (r := r) (i := i) h
  | .ol _ :: r, i + 1, _, h => noBag_val (r := r) (i := i) h
  | .val (.d _) :: r, i + 1, _, h => noBag_val (r := r) (i := i) h
  | .val (.scr _) :: r, i + 1, _, h => noBag_val (r := r) (i := i) h
  | .val .bag :: r, i + 1, _, h => noBag_val (r := r) (i := i) h
theorem noBag_ol : ∀ {r : List Slot} {i : Nat} {ds : List PyData}, (noBag r)[i]? = some (.ol ds) → r[i]? = some (.ol ds)
  | [], _, _, h => by cases h
  | .un :: r, 0, _, h => by cases h
  | .ol _ :: r, 0, _, h => h
  | .val (.d _) :: r, 0, _, h => by cases h
  | .val (.scr _) :: r, 0, _, h => by cases h
  | .val .bag :: r, 0, _, h => by cases h
  | .un :: r, i + 1, _, h => noBag_ol (r := r) (i := i) h
  | .ol _ :: r, i + 1, _, h => noBag_ol (r := r) (i := i) h
  | .val (.d _) :: r, i + 1, _, h => noBag_ol (r := r) (i := i) h
  | .val (.scr _) :: r, i + 1, _, h => noBag_ol (r := r) (i := i) h
  | .val .bag :: r, i + 1, _, h => noBag_ol (r := r) (i := i) h
theorem DenU.nobag {K : PySem.W.Frag} {b b' : Addr} {F : Hp} {u : U} {v : V} (h : DenU K b F u v) (n : u ≠ .bag) : DenU K b' F u v := by
  cases u with
  | d x => exact h
  | scr ns => exact h
  | bag => exact absurd rfl n

section
variable {X : Cx} {W : WX} {C : Ct}
/-- the heap ahead of a bag, without the slots' own lists -/
noncomputable def hideOwn (s : S) (σ : L2.St) (H : Hp) : Hp := fun a => by
  classical exact if ∃ (i : Nat) (ds : List PyData), s.rho[i]? = some (.ol ds) ∧ σ[i]? = some (some (.ref a)) then none else H a
theorem hide_some {s : S} {σ : L2.St} {H : Hp} {a : Addr} {o : HO} (h : hideOwn s σ H a = some o) : H a = some o := by
  unfold hideOwn at h
  split at h
  · cases h
  · exact h
theorem hide_own {s : S} {σ : L2.St} {H : Hp} {a : Addr} {i : Nat} {ds : List PyData} (h : s.rho[i]? = some (.ol ds)) (h2 : σ[i]? = some (some (.ref a))) : hideOwn s σ H a = none := by
  unfold hideOwn
  exact if_pos ⟨i, ds, h, h2⟩
theorem hide_not {s : S} {σ : L2.St} {H : Hp} {a : Addr} (h : hideOwn s σ H a = none) : (∃ (i : Nat) (ds : List PyData), s.rho[i]? = some (.ol ds) ∧ σ[i]? = some (some (.ref a))) ∨ H a = none := by
  unfold hideOwn at h
  split at h
  · exact .inl ‹_›
  · exact .inr h
noncomputable abbrev Ct.bag (C : Ct) (F : Hp) (s : S) (σ : L2.St) (H : Hp) (p : Addr) : Ct := ⟨F, hideOwn s σ H, p, true⟩
theorem Rel.bagIn {K : PySem.W.Frag} {F : Hp} {s : S} {σ : L2.St} {H H' : Hp} {i : Nat} {p : Addr} {x y : Int} (r : Rel K C F s σ H) (hp : H p = none) (keep : ∀ a o, H a = some o → H' a = some o) (hH : H' p = some (.lst [.int x, .int y])) :
    Rel K (C.bag F s σ H p) F ⟨(noBag s.rho).set i (.val .bag), some (x, y)⟩ (σ.set i (some (.ref p))) H' := by
  have r0 : Rel K (C.bag F s σ H p) F ⟨noBag s.rho, some (x, y)⟩ σ H' := by
    refine ⟨fun a o e => keep a o (r.le a o e), Le.refl _, fun a o e => .inl e, fun a o e _ => keep a o (hide_some e), rfl, fun x' y' e => ?_, by rw [r.len]; exact (noBag_len _).symm, fun j u e => ?_, fun j ds e => ?_, fun j k ds es q e1 e2 q1 q2 => ?_⟩
    · cases e
      exact ⟨hH, r.freeF hp⟩
    · obtain ⟨e', n⟩ := noBag_val e
      obtain ⟨v, h1, h2⟩ := r.val j u e'
      exact ⟨v, h1, h2.nobag n⟩
    · have e' := noBag_ol e
      obtain ⟨q, vs, h1, h2, h3, h4, h5, h6⟩ := r.own j ds e'
      refine ⟨q, vs, h1, keep _ _ h2, h3, hide_own e' h1, .inr fun z => ?_, h6⟩
      have z' : q = p := z
      rw [z', hp] at h2
      cases h2
    · exact r.apart j k ds es q (noBag_ol e1) (noBag_ol e2) q1 q2
  exact r0.setU i (u := .bag) rfl
theorem Rel.bagOut {K : PySem.W.Frag} {F F' : Hp} {s s' : S} {σ σ' : L2.St} {H H' : Hp} {p : Addr} (r : Rel K C F s σ H) (hp : H p = none) (hn : s.bag = none) (r' : Rel K (C.bag F s σ H p) F' s' σ' H') : Rel K C F' ⟨noBag s'.rho, none⟩ σ' H' := by
  have hb : C.hb = false := by
    have := r.hbag
    rw [hn] at this
    exact this.symm
  have zero : ∀ a, hideOwn s σ H a = none → C.H0 a = none := fun a h => by
    rcases hide_not h with ⟨i, ds, e1, e2⟩ | h
    · obtain ⟨q, vs, h1, h2, h3, h4, _⟩ := r.own i ds e1
      rw [e2] at h1
      cases h1
      exact h4
    · exact r.fresh0 h
  refine ⟨r'.le, r.ge.trans r'.ge, fun a o e => ?_, fun a o e _ => ?_, hb.symm, fun x y e => (by cases e), by rw [r'.len]; exact (noBag_len _).symm, fun j u e => ?_, fun j ds e => ?_, fun j k ds es q e1 e2 q1 q2 => ?_⟩
  · rcases r'.new a o e with h | h
    · exact r.new a o h
    · exact .inr (zero a h)
  · have h1 : hideOwn s σ H a = some o := by
      cases q : hideOwn s σ H a with
      | none => rw [zero a q] at e; cases e
      | some o' =>
        have h2 := hide_some q
        rw [r.keep a o e (.inl hb)] at h2
        exact h2.symm
    refine r'.keep a o h1 (.inr fun z => ?_)
    have z' : a = p := z
    have := r.keep a o e (.inl hb)
    rw [z', hp] at this
    cases this
  · obtain ⟨e', n⟩ := noBag_val e
    obtain ⟨v, h1, h2⟩ := r'.val j u e'
    exact ⟨v, h1, h2.nobag n⟩
  · obtain ⟨q, vs, h1, h2, h3, h4, h5, h6⟩ := r'.own j ds (noBag_ol e)
    exact ⟨q, vs, h1, h2, h3, zero q h4, .inl hb, h6⟩
  · exact r'.apart j k ds es q (noBag_ol e1) (noBag_ol e2) q1 q2
theorem ss_bagged {f : Addr} {fd : FuncData} {ps : List Str} {k i : Nat} {x y : Str} {g : G} {e : Expr} {es : List Expr} {l r : T} {p p2 pos pos2 : Pos} {rest : List Stmt} (G0 : FnOk X.prog X.w X.K X.mg X.base (L2.CX X.prog X.w) k f fd ps (spB X.K ps.length g)) (hr : Room k X.A) (hg : Gl X x) (hm : X.mg x = some (.ref f))
    (hk : PySem.W.keepIn X.K (.ref f) = true) (hb : Binds X.K fd ps []) (tk : Takes X W) (ha : PA X (e :: es) (tXA X.K X.mg W l)) (hdb : (x == ("__debug__" : Str)) = false) (he : starEach (e :: es) X.env = (false, eval e X.env) :: starEach es X.env)
    (hpl : (backTo pos (starEach es X.env)).any (·.1) = false) (hlen : (e :: es).length = ps.length) (hlA : ∀ s us s', evA l s = .ok us s' → us.length = (e :: es).length) (hN : X.N.Nodup) (hi : X.N[i]? = some y) (hx : L2.Loc X.env.scope y) (hf : X.fn y = true ∨ X.env.scope.names.lookup y = some .local)
    (hrest : PSs X rest (tS X.K X.mg W r)) : PSs X (.Assign [.Name y p2] (.Call (.Name x p) (e :: es) [] pos) pos2 :: rest) (tS X.K X.mg W (.bagged i x g l r)) := by
  refine (pss_cons (ps_set hN hi hx (pe_callS G0 hr hg hm hk hb (fun σ => passAt tk σ) ha hdb he hpl) rfl hf) hrest).weak fun D σ H ⟨C, F, s, r0, h⟩ => ⟨C, F, s, r0, ?_⟩
  have hL := hlA s
  have h' : PostS X.K X.mg W C F ((evA l s).bind fun us s => match g us s.bag, s.bag with
    | .ok (.d (.list [.int x, .int y])) none, none => match ex r ⟨(noBag s.rho).set i (.val .bag), some (x, y)⟩ with
      | .ok .nx s => .ok .nx ⟨noBag s.rho, none⟩
      | .ok (.rt (.d u)) s => .ok (.rt (.d u)) ⟨noBag s.rho, none⟩
      | _ => .stuck
    | _, _ => .stuck) D := h
  revert h' hL
  generalize evA l s = m
  intro hL h'
  cases m with
  | exn c p s1 => exact fun G H cls d l r e => h' G σ H cls d l r e
  | stuck => exact h'.elim
  | ok us s1 =>
    intro F1 H1 l1 r1 vs d1
    have h1 := PostS.up h' l1
    have h2 : PostS X.K X.mg W C F1 (match g us s1.bag, s1.bag with
      | .ok (.d (.list [.int x, .int y])) none, none => match ex r ⟨(noBag s1.rho).set i (.val .bag), some (x, y)⟩ with
        | .ok .nx s => .ok .nx ⟨noBag s.rho, none⟩
        | .ok (.rt (.d u)) s => .ok (.rt (.d u)) ⟨noBag s.rho, none⟩
        | _ => .stuck
      | _, _ => .stuck) D := h1
    split at h2
    · rename_i x0 y0 eg eb
      refine ⟨F1, C.b, us, x0, y0, r1.le, by rw [← hlen]; exact hL us s1 rfl, d1, by rw [eb] at eg; exact eg, fun p H' hp keep hH => ?_⟩
      refine ⟨C.bag F1 s1 σ H1 p, F1, _, r1.bagIn hp keep hH, ?_⟩
      revert h2
      cases ex r ⟨(noBag s1.rho).set i (.val .bag), some (x0, y0)⟩ with
      | ok o s2 =>
        cases o with
        | nx => exact fun h2 F' σ' H' l r' => h2 F' σ' H' l (r1.bagOut hp eb r')
        | rt u =>
          cases u with
          | d z => exact fun h2 F' σ' H' v l r' d => h2 F' σ' H' v l (r1.bagOut hp eb r') d
          | _ => exact fun h2 => h2.elim
      | exn c p s2 => exact fun h2 => h2.elim
      | stuck => exact fun h2 => h2.elim
    · exact h2.elim
/-! a, b = x, y -/
theorem ss_par2 {i j : Nat} {x y : Str} {a b : Expr} {l : T} {px py pt pos : Pos} {kt k2 : Nat} {pt2 : Pos} (hc : X.calm = true) (hN : X.N.Nodup) (hi : X.N[i]? = some x) (hj : X.N[j]? = some y) (hij : i ≠ j) (hx : X.env.scope.names.lookup x = some .local) (hy : X.env.scope.names.lookup y = some .local)
    (ha : PA X [a, b] (tXA X.K X.mg W l)) (hw : swappedStores [.Tuple [.Name x px, .Name y py] kt pt] (.Tuple [a, b] k2 pt2) X.env = pure (some [x, y])) :
    PS X (.Assign [.Tuple [.Name x px, .Name y py] kt pt] (.Tuple [a, b] k2 pt2) pos) (tS X.K X.mg W (.par [i, j] l)) := by
  refine (ps_par hc hN hi hj hij hx hy ha hw).weak fun D σ H ⟨C, F, s, r0, h⟩ => ⟨C, F, s, r0, ?_⟩
  refine (PostS.bind h).imp fun us F1 s1 H1 l1 r1 h1 vs d1 => ?_
  cases e : datas us with
  | none => rw [e] at h1; exact h1.elim
  | some xs =>
    rw [e] at h1
    have dn := datas_dn d1 e
    match xs, vs, dn, h1 with
    | [], _, _, h1 => exact h1.elim
    | [x1], _, _, h1 => exact h1.elim
    | [x1, x2], [v1, v2], .cons e1 (.cons e2 .nil), h1 => exact ⟨v1, v2, rfl, h1 F1 _ H1 (Le.refl _) ((r1.setD i e1).setD j e2)⟩
    | x1 :: x2 :: x3 :: xs, _, _, h1 => exact h1.elim
/-- a, b = e, []: the second a list that will grow -/
theorem ss_parL {i j : Nat} {x y : Str} {ea : Expr} {a : T} {px py pt pos pl : Pos} {kt k2 : Nat} {pt2 : Pos} (hc : X.calm = true) (hN : X.N.Nodup) (hi : X.N[i]? = some x) (hj : X.N[j]? = some y) (hij : i ≠ j) (hx : X.env.scope.names.lookup x = some .local) (hy : X.env.scope.names.lookup y = some .local)
    (ha : PE X ea (tX X.K X.mg W a)) (hs : ∀ es, starEach (ea :: es) X.env = (false, eval ea X.env) :: starEach es X.env) (hw : swappedStores [.Tuple [.Name x px, .Name y py] kt pt] (.Tuple [ea, .List [] pl] k2 pt2) X.env = pure (some [x, y])) :
    PS X (.Assign [.Tuple [.Name x px, .Name y py] kt pt] (.Tuple [ea, .List [] pl] k2 pt2) pos) (tS X.K X.mg W (.parL i j a)) := by
  refine (ps_par hc hN hi hj hij hx hy (pa_cons ha (pa_cons (pe_lst pa_nil) pa_nil rfl) (hs _)) hw).weak fun D σ H ⟨C, F, s, r0, h⟩ => ⟨C, F, s, r0, ?_⟩
  refine (PostS.dat h).imp fun u F1 s1 H1 l1 r1 ⟨z, e, h1⟩ v d1 => ?_
  subst e
  refine ⟨Nat.zero_le _, fun q hq => ⟨v, .ref q, rfl, ?_⟩⟩
  have r2 := (r1.setD i d1).lay (.lst []) hq
  refine h1 F1 _ _ (Le.refl _) (r2.setO j upd_same (r1.freeF hq) (r1.fresh0 hq) (r1.bne hq) .nil fun m es _ e w => ?_)
  exact (r1.setD i d1).ownNe hq m es e w
theorem ss_par3 {i j k : Nat} {x y z : Str} {a b c : Expr} {l : T} {px py pz pt pos : Pos} {kt k2 : Nat} {pt2 : Pos} (hc : X.calm = true) (hN : X.N.Nodup) (hi : X.N[i]? = some x) (hj : X.N[j]? = some y) (hk : X.N[k]? = some z) (hij : i ≠ j) (hik : i ≠ k) (hjk : j ≠ k)
    (hx : X.env.scope.names.lookup x = some .local) (hy : X.env.scope.names.lookup y = some .local) (hz : X.env.scope.names.lookup z = some .local)
    (ha : PA X [a, b, c] (tXA X.K X.mg W l)) (hw : swappedStores [.Tuple [.Name x px, .Name y py, .Name z pz] kt pt] (.Tuple [a, b, c] k2 pt2) X.env = pure (some [x, y, z])) :
    PS X (.Assign [.Tuple [.Name x px, .Name y py, .Name z pz] kt pt] (.Tuple [a, b, c] k2 pt2) pos) (tS X.K X.mg W (.par [i, j, k] l)) := by
  refine (ps_par3 hc hN hi hj hk hij hik hjk hx hy hz ha hw).weak fun D σ H ⟨C, F, s, r0, h⟩ => ⟨C, F, s, r0, ?_⟩
  refine (PostS.bind h).imp fun us F1 s1 H1 l1 r1 h1 vs d1 => ?_
  cases e : datas us with
  | none => rw [e] at h1; exact h1.elim
  | some xs =>
    rw [e] at h1
    have dn := datas_dn d1 e
    match xs, vs, dn, h1 with
    | [], _, _, h1 => exact h1.elim
    | [x1], _, _, h1 => exact h1.elim
    | [x1, x2], _, _, h1 => exact h1.elim
    | [x1, x2, x3], [v1, v2, v3], .cons e1 (.cons e2 (.cons e3 .nil)), h1 => exact ⟨v1, v2, v3, rfl, h1 F1 _ H1 (Le.refl _) (((r1.setD i e1).setD j e2).setD k e3)⟩
    | x1 :: x2 :: x3 :: x4 :: xs, _, _, h1 => exact h1.elim
end
end RD
set_option Elab.async false
set_option linter.all false
set_option maxRecDepth 100000
/-! RdN: blocks that pass the look do what they say; a def's promise. -/
namespace RD
open PySem L2
section
variable {N : List Str} {lv : Nat}
/-- what a def's own frame has -/
structure StX (X : Cx) : Prop where
  pass : PassesOwn (model X.prog X.w) X.A X.env X.xe
  stk : X.stack = X.env :: X.outer
  frm : X.env.frame = some X.env.locals
theorem XOk.tr {X : Cx} {sc raw : Scope} (o : XOk X N sc raw lv) (pn : List (Addr × Obj)) (xe : Value → Shared → Prop) : XOk (X.tr pn xe) N sc raw lv := ⟨o.hN, o.hsc, o.kind, o.nd, o.calm, o.room, o.blt, o.st⟩
structure SndS (N : List Str) (lv : Nat) (t : T) : Prop where
  hs : ∀ {sc : Scope} {X : Cx} {W : WX} {st : Stmt}, XOk X N sc sc lv → GoodX X lv t → Takes X W → StX X → chkS N sc t st = true → PS X st (tS X.K X.mg W t)
  hb : ∀ {sc : Scope} {X : Cx} {W : WX} {sts : List Stmt}, XOk X N sc sc lv → GoodX X lv t → Takes X W → StX X → chkB N sc t sts = true → PSs X sts (tS X.K X.mg W t)
theorem SndS.none {t : T} (h1 : ∀ sc st, chkS N sc t st ≠ true) (h2 : ∀ sc sts, chkB N sc t sts ≠ true) : SndS N lv t := ⟨fun _ _ _ _ h => absurd h (h1 _ _), fun _ _ _ _ h => absurd h (h2 _ _)⟩
theorem SndS.st {t : T} (hs : ∀ {sc : Scope} {X : Cx} {W : WX} {st : Stmt}, XOk X N sc sc lv → GoodX X lv t → Takes X W → StX X → chkS N sc t st = true → PS X st (tS X.K X.mg W t)) (h2 : ∀ sc sts, chkB N sc t sts ≠ true) : SndS N lv t :=
  ⟨hs, fun _ _ _ _ h => absurd h (h2 _ _)⟩
theorem comp_shape {sc raw : Scope} {own : List Nat} {g it c e : T} (m : Bool) (x : Expr) (h : chk N m sc raw (.comp own g it c e) x = true) : ∃ elt tg iter ifs scope pos, x = .ListComp elt [⟨tg, iter, ifs, 0⟩] scope pos ∧ blkC N sc scope (ownOf N own) = true ∧ (ownOf N own).map (·.2) = own ∧ (∀ i ∈ slotsT g, i ∈ own) ∧ (notSet iter = true ∧ tgOk it tg = true) ∧ chkI N sc raw it iter = true ∧
    chkG N (relS scope sc) scope g tg = true ∧ chkC N (relS scope sc) scope c ifs = true ∧ chk N false (relS scope sc) scope e elt = true := by
  cases x <;> first | cases h | skip
  rename_i elt gs scope pos
  match gs, h with
  | [⟨tg, iter, ifs, as⟩], h =>
    have h' : (decide (as = 0) && blkC N sc scope (ownOf N own) && decide ((ownOf N own).map (·.2) = own) && decide (∀ i ∈ slotsT g, i ∈ own) && (notSet iter && tgOk it tg) && chkI N sc raw it iter &&
      chkG N (relS scope sc) scope g tg && chkC N (relS scope sc) scope c ifs && chk N false (relS scope sc) scope e elt) = true := h
    simp only [Bool.and_eq_true] at h'
    obtain ⟨⟨⟨⟨⟨⟨⟨⟨h1, h2⟩, h3⟩, h4⟩, h5⟩, h6⟩, h7⟩, h8⟩, h9⟩ := h'
    have e1 : as = 0 := of_decide_eq_true h1
    subst e1
    exact ⟨_, _, _, _, _, _, rfl, h2, of_decide_eq_true h3, of_decide_eq_true h4, h5, h6, h7, h8, h9⟩
theorem comp_inv (m : Bool) {e : T} {sc raw : Scope} {elt : Expr} {gs : List Comprehension} {scope : Scope} {pos : Pos} (h : chk N m sc raw e (.ListComp elt gs scope pos) = true) : ∃ own g it c el, e = .comp own g it c el := by
  cases e with
  | comp own g it c el => exact ⟨_, _, _, _, _, rfl⟩
  | cst c => cases c <;> cases h
  | call x g a => cases a <;> cases h
  | _ => cases h
theorem set_inv (m : Bool) {e : T} {sc raw : Scope} {elt : Expr} {gs : List Comprehension} {scope : Scope} {pos : Pos} (h : chk N m sc raw e (.SetComp elt gs scope pos) = true) : False := by
  cases e with
  | cst c => cases c <;> cases h
  | call x g a => cases a <;> cases h
  | _ => cases h
theorem dict_inv (m : Bool) {e : T} {sc raw : Scope} {k elt : Expr} {gs : List Comprehension} {scope : Scope} {pos : Pos} (h : chk N m sc raw e (.DictComp k elt gs scope pos) = true) : False := by
  cases e with
  | cst c => cases c <;> cases h
  | call x g a => cases a <;> cases h
  | _ => cases h
theorem notComp_inv {v : Expr} (h : ¬ notComp v = true) : (∃ elt gs scope pos, v = .ListComp elt gs scope pos) ∨ (∃ elt gs scope pos, v = .SetComp elt gs scope pos) ∨ ∃ k elt gs scope pos, v = .DictComp k elt gs scope pos := by
  cases v <;> first | exact absurd rfl h | exact .inl ⟨_, _, _, _, rfl⟩ | exact .inr (.inl ⟨_, _, _, _, rfl⟩) | exact .inr (.inr ⟨_, _, _, _, _, rfl⟩)
theorem app_noB {sc : Scope} {i : Nat} {e : T} {sts : List Stmt} : chkB N sc (.app i e) sts ≠ true := by
  intro h
  cases sts <;> cases h
/-- a comprehension stored in a name: by either road -/
theorem swaps_lc {X : Cx} {elt : Expr} {gs : List Comprehension} {scope : Scope} {pos py : Pos} {y : Str} {l : Nat} : ∃ b : Bool, swapsWith (.ListComp elt gs scope pos) (some (.Name y py)) l X.env = pure b ∧ (b = true → X.env.kindOf y = some .local) := by
  refine ⟨X.env.blockKind == .function && X.env.kindOf y == some .local && py.line == pos.line && !(scope.names.any fun (n, k) => n == y && (k == .local || k == .cell)), rfl, fun h => ?_⟩
  simp only [Bool.and_eq_true] at h
  exact beq_iff_eq.mp h.1.1.2
theorem gname_inv {sc raw : Scope} {g : T} {y : Str} {p : Pos} (h : chkG N sc raw g (.Name y p) = true) : ∃ i, g = .tname i := by
  cases g with
  | tname i => exact ⟨i, rfl⟩
  | _ => cases h
theorem snds_asg (g e : T) : SndS N lv (.asg g e) := .st (by
  intro sc X W st o gd tk hp h
  cases st <;> first | cases h | skip
  rename_i tgs v pos
  match tgs, h with
  | [tg], h =>
    have h' : (asgOk sc tg v && notStar tg && chkG N sc sc g tg && chk N false sc sc e v) = true := h
    simp only [Bool.and_eq_true] at h'
    obtain ⟨⟨⟨h1, h2⟩, h3⟩, h4⟩ := h'
    have pe := (sndE e).he o gd tk h4
    have pg := (sndE (lv := lv) g).hg o h3
    have hst := stores_of o.hsc o.kind h1
    have hea : (assignEach [tg] X.env).map (·.2) = [assign tg X.env] := asgEach_of h2
    by_cases hc : notComp v = true
    · exact ss_asg pe pg (swaps_of hc) hst hea
    · -- a comprehension
      obtain ⟨el0, gs0, sc0, ps0, rfl⟩ | ⟨_, _, _, _, rfl⟩ | ⟨_, _, _, _, _, rfl⟩ := notComp_inv hc
      rotate_left
      · exact (set_inv _ h4).elim
      · exact (dict_inv _ h4).elim
      obtain ⟨own, gg, it, c, el, rfl⟩ := comp_inv _ h4
      obtain ⟨elt', tgc, iter, ifs, scope', p', ex, q2, q3, q4, q5, q6, q7, q8, q9⟩ := comp_shape _ _ h4
      cases ex
      cases tg <;> first | (refine ss_asg pe pg ?_ hst hea; rfl) | skip
      rename_i y py
      obtain ⟨b, hb, hl⟩ := swaps_lc (X := X) (elt := el0) (gs := [⟨tgc, iter, ifs, 0⟩]) (scope := sc0) (pos := ps0) (py := py) (y := y) (l := pos.line)
      cases b with
      | false => exact ss_asg pe pg hb hst hea
      | true =>
        have ok := blkOk_by q2
        have okX : BlkOk X.N X.env.scope sc0 (ownOf N own) := by
          rw [o.hN, o.hsc]
          exact ok
        have hN : X.N.Nodup := by rw [o.hN]; exact o.nd
        obtain ⟨i, rfl⟩ := gname_inv h3
        have h3' : (decide (N[i]? = some y) && stB sc y) = true := h3
        rw [Bool.and_eq_true] at h3'
        have r := ss_asgLc (W := W) (it := it) (a := el) (c := c) (g := gg) (tt := tXT X.K X.mg W0 c) (pos := ps0) o.calm hN (o.ix h3'.1) (hl rfl) hb ((sndE it).hi (tg := tgc) o gd.1 tk q6 q5.2) okX (fun s H C cl fp => (sndE (lv := lv) gg).hg (o.blk ok s H C cl fp) q7) (fun s H C cl fp => (sndE c).hc (W := W0) (o.blk ok s H C cl fp) gd.2.1 takesF q8)
          (fun s H C cl fp => (sndE el).he (W := W0) (o.blk ok s H C cl fp) gd.2.2 takesF q9) (folded_of q5.1) (by rw [q3]; exact q4) fun _ _ _ z => z
        rw [q3] at r
        exact r) (fun _ x h => by cases x <;> cases h)
theorem snds_asgO (i : Nat) (e : T) : SndS N lv (.asgO i e) := .st (by
  intro sc X W st o gd tk hp h
  have hN : X.N.Nodup := by rw [o.hN]; exact o.nd
  cases st <;> first | (cases e <;> first | cases h | (rename_i op _ _; cases op <;> cases h)) | skip
  rename_i tgs v pos
  cases e <;> first | (match tgs, v, h with | _, _, h => cases h) | skip
  · -- +
    rename_i op a b
    cases op <;> first | cases h | skip
    match tgs, v, h with
    | [.Name y p], .BinOp ea .Add eb p2, h =>
      have h' : (decide (N[i]? = some y) && stB sc y && chk N false sc sc a ea && chk N false sc sc b eb) = true := h
      simp only [Bool.and_eq_true] at h'
      exact ss_asgO_add hN (o.ix h'.1.1.1) (o.loc h'.1.1.2).1 (o.loc h'.1.1.2).2 ((sndE a).he o gd.1 tk h'.1.2) ((sndE b).he o gd.2 tk h'.2)
  · rename_i l
    match tgs, v, h with
    | [.Name y p], .List es p2, h =>
      have h' : (decide (N[i]? = some y) && stB sc y && chkA N sc sc l es) = true := h
      simp only [Bool.and_eq_true] at h'
      exact ss_asgO hN (o.ix h'.1.1) (o.loc h'.1.2).1 (o.loc h'.1.2).2 ((sndE l).ha o gd tk h'.2)
  · rename_i own gg it c el
    match tgs, v, h with
    | [.Name y py], .ListComp elt gs scope p, h =>
      have h' : (decide (N[i]? = some y) && stB sc y && chk N false sc sc (.comp own gg it c el) (.ListComp elt gs scope p)) = true := h
      simp only [Bool.and_eq_true] at h'
      obtain ⟨elt', tgc, iter, ifs, scope', p', ex, q2, q3, q4, q5, q6, q7, q8, q9⟩ := comp_shape _ _ h'.2
      cases ex
      have ok := blkOk_by q2
      have okX : BlkOk X.N X.env.scope scope (ownOf N own) := by
        rw [o.hN, o.hsc]
        exact ok
      obtain ⟨b, hb, hl⟩ := swaps_lc (X := X) (elt := elt) (gs := [⟨tgc, iter, ifs, 0⟩]) (scope := scope) (pos := p) (py := py) (y := y) (l := pos.line)
      have hI := (sndE it).hi (tg := tgc) o gd.1 tk q6 q5.2
      have hG := fun (s : Shared) (H : Hp) (C : Addr) (cl : List (Str × Addr)) (fp : List Addr) => (sndE (lv := lv) gg).hg (o.blk ok s H C cl fp) q7
      have hC := fun (s : Shared) (H : Hp) (C : Addr) (cl : List (Str × Addr)) (fp : List Addr) => (sndE c).hc (W := W0) (o.blk ok s H C cl fp) gd.2.1 takesF q8
      have hE := fun (s : Shared) (H : Hp) (C : Addr) (cl : List (Str × Addr)) (fp : List Addr) => (sndE el).he (W := W0) (o.blk ok s H C cl fp) gd.2.2 takesF q9
      cases b with
      | false =>
        have pe := pe_lc (g := tXG X.K gg) (elt := elt) (scope := scope) (ifs := ifs) (te := tX X.K X.mg W0 el) (tt := tXT X.K X.mg W0 c) (pos := p) o.calm hN hI okX hG hC hE (folded_of q5.1)
        rw [q3] at pe
        exact (ps_set hN (o.ix h'.1.1) (o.loc h'.1.2).1 pe hb (o.loc h'.1.2).2).weak fun D σ H q => asgO_comp q4 (fun _ _ _ z => z) q
      | true =>
        have pe := ps_setLc (g := tXG X.K gg) (elt := elt) (scope := scope) (ifs := ifs) (te := tX X.K X.mg W0 el) (tt := tXT X.K X.mg W0 c) (pos := p) o.calm hN (o.ix h'.1.1) (hl rfl) hb hI okX hG hC hE (folded_of q5.1)
        rw [q3] at pe
        exact pe.weak fun D σ H q => asgO_comp q4 (fun _ _ _ z => z) q) (fun _ x h => by cases x <;> cases h)
theorem par_inv (is : List Nat) {l : T} {sc : Scope} {st : Stmt} (h : chkS N sc (.par is l) st = true) : ∃ ts kt pt vs k2 pt2 pos, st = .Assign [.Tuple ts kt pt] (.Tuple vs k2 pt2) pos := by
  unfold chkS at h
  split at h <;> first | exact ⟨_, _, _, _, _, _, _, rfl⟩ | (rename_i q; cases q) | cases h
theorem snds_par (is : List Nat) (l : T) : SndS N lv (.par is l) := .st (by
  intro sc X W st o gd tk hp h
  have hN : X.N.Nodup := by rw [o.hN]; exact o.nd
  have hloc : ∀ {x : Str}, decide (sc.names.lookup x = some .local) = true → X.env.scope.names.lookup x = some .local := fun {x} q => by
    rw [o.hsc]
    exact of_decide_eq_true q
  match is, h with
  | [], h => cases st <;> cases h
  | [_], h => cases st <;> cases h
  | _ :: _ :: _ :: _ :: _, h => cases st <;> cases h
  | [i, j], h =>
    obtain ⟨ts, kt, pt, vs, k2, pt2, pos, rfl⟩ := par_inv _ h
    (
      match ts, vs, h with
      | [.Name x px, .Name y py], [a, b], h =>
        have h' : (decide (i ≠ j) && decide (N[i]? = some x) && decide (N[j]? = some y) && decide (sc.names.lookup x = some .local) && decide (sc.names.lookup y = some .local) &&
          decide (swapRes sc [.Name x px, .Name y py] [a, b] = some (some [x, y])) && chkA N sc sc l [a, b]) = true := h
        simp only [Bool.and_eq_true] at h'
        obtain ⟨⟨⟨⟨⟨⟨h1, h2⟩, h3⟩, h4⟩, h5⟩, h6⟩, h7⟩ := h'
        exact ss_par2 o.calm hN (o.ix h2) (o.ix h3) (of_decide_eq_true h1) (hloc h4) (hloc h5) ((sndE l).ha o gd tk h7) (swapped_of o.hsc o.kind (of_decide_eq_true h6)))
  | [i, j, k], h =>
    obtain ⟨ts, kt, pt, vs, k2, pt2, pos, rfl⟩ := par_inv _ h
    (
      match ts, vs, h with
      | [.Name x px, .Name y py, .Name z pz], [a, b, c], h =>
        have h' : (decide (i ≠ j) && decide (i ≠ k) && decide (j ≠ k) && decide (N[i]? = some x) && decide (N[j]? = some y) && decide (N[k]? = some z) &&
          decide (sc.names.lookup x = some .local) && decide (sc.names.lookup y = some .local) && decide (sc.names.lookup z = some .local) && decide (swapRes sc [.Name x px, .Name y py, .Name z pz] [a, b, c] = some (some [x, y, z])) && chkA N sc sc l [a, b, c]) = true := h
        simp only [Bool.and_eq_true] at h'
        obtain ⟨⟨⟨⟨⟨⟨⟨⟨⟨⟨a1, a2⟩, a3⟩, h1⟩, h2⟩, h3⟩, h4⟩, h5⟩, h6⟩, h7⟩, h8⟩ := h'
        exact ss_par3 o.calm hN (o.ix h1) (o.ix h2) (o.ix h3) (of_decide_eq_true a1) (of_decide_eq_true a2) (of_decide_eq_true a3) (hloc h4) (hloc h5) (hloc h6) ((sndE l).ha o gd tk h8) (swapped_of o.hsc o.kind (of_decide_eq_true h7)))) (fun _ x h => by cases x <;> cases h)
theorem snds_parL (i j : Nat) (a : T) : SndS N lv (.parL i j a) := .st (by
  intro sc X W st o gd tk hp h
  have hN : X.N.Nodup := by rw [o.hN]; exact o.nd
  have hloc : ∀ {x : Str}, decide (sc.names.lookup x = some .local) = true → X.env.scope.names.lookup x = some .local := fun {x} q => by
    rw [o.hsc]
    exact of_decide_eq_true q
  unfold chkS at h
  split at h <;> first | (rename_i q; cases q; done) | cases h | skip
  rename_i q
  cases q
  simp only [Bool.and_eq_true] at h
  obtain ⟨⟨⟨⟨⟨⟨⟨h1, h2⟩, h3⟩, h4⟩, h5⟩, h6⟩, h7⟩, h8⟩ := h
  exact ss_parL o.calm hN (o.ix h2) (o.ix h3) (of_decide_eq_true h1) (hloc h4) (hloc h5) ((sndE a).he o gd tk h8) (fun es => star_of h7) (swapped_of o.hsc o.kind (of_decide_eq_true h6))) (fun _ x h => by cases x <;> cases h)
theorem snds_app (i : Nat) (e : T) : SndS N lv (.app i e) := .st (by
  intro sc X W st o gd tk hp h
  cases st <;> first | cases h | skip
  rename_i v pos
  cases v <;> first | cases h | skip
  rename_i fn args kws cpos
  cases fn <;> first | cases h | skip
  rename_i ob at_ apos
  cases ob <;> first | cases h | skip
  rename_i y py
  match args, h with
  | [], h => cases h
  | _ :: _ :: _, h => cases h
  | [v], h =>
    cases kws with
    | cons _ _ => cases h
    | nil =>
      have h' : ((at_ == ("append" : Str)) && decide (N[i]? = some y) && visB sc y && (apos.endLine == cpos.line) && notStar v && chk N false sc sc e v) = true := h
      simp only [Bool.and_eq_true] at h'
      obtain ⟨⟨⟨⟨⟨h1, h2⟩, h3⟩, h4⟩, h5⟩, h6⟩ := h'
      have e1 : at_ = "append" := eq_of_beq h1
      subst e1
      obtain ⟨v1, v2, v3⟩ := vis_of h3
      exact ss_app (o.ix h2) (by rw [o.hsc]; exact v1) v2 v3 ((sndE e).he o gd tk h6) (star_of h5) h4) (fun _ _ => app_noB)
theorem bagged_inv {i : Nat} {x : Str} {g : G} {a r : T} {sc : Scope} {sts : List Stmt} (h : chkB N sc (.bagged i x g a r) sts = true) : ∃ y p2 f p e es pos pos2 ss, sts = .Assign [.Name y p2] (.Call (.Name f p) (e :: es) [] pos) pos2 :: ss := by
  unfold chkB at h
  split at h <;> first | exact ⟨_, _, _, _, _, _, _, _, _, rfl⟩ | (rename_i q; cases q) | cases h
theorem bset_inv {i j : Nat} {a : T} {sc : Scope} {st : Stmt} (h : chkS N sc (.bset i j a) st = true) : ∃ y py n p2 pt e pos, st = .Assign [.Subscript (.Name y py) (.Constant (.int (j : Int)) n p2) pt] e pos ∧ j ≤ 1 ∧ decide (N[i]? = some y) = true ∧ visB sc y = true ∧ notComp e = true ∧ chk N false sc sc a e = true := by
  cases st with
  | Assign tgs e pos =>
    cases tgs with
    | nil => cases h
    | cons tg r =>
      cases tg with
      | Subscript en ix pt =>
        cases en with
        | Name y py =>
          cases ix with
          | Constant c n p2 =>
            cases c with
            | int k =>
              cases r with
              | nil =>
                have h' : (decide (k = (j : Int)) && decide (j ≤ 1) && decide (N[i]? = some y) && visB sc y && notComp e && chk N false sc sc a e) = true := h
                simp only [Bool.and_eq_true] at h'
                obtain ⟨⟨⟨⟨⟨h1, h2⟩, h3⟩, h4⟩, h5⟩, h6⟩ := h'
                have e1 := of_decide_eq_true h1
                subst e1
                exact ⟨_, _, _, _, _, _, _, rfl, of_decide_eq_true h2, h3, h4, h5, h6⟩
              | cons _ _ => cases h
            | _ => cases h
          | _ => cases h
        | _ => cases h
      | _ => cases h
  | _ => cases h
theorem raise_inv {x : Str} {a : T} {sc : Scope} {st : Stmt} (h : chkS N sc (.raise x a) st = true) : ∃ p m j p2 pos2 pos, st = .Raise (some (.Call (.Name x p) [.Constant (.str m) j p2] [] pos2)) none pos ∧ glB sc x = true := by
  unfold chkS at h
  split at h <;> first | (rename_i q _; cases q; done) | (rename_i q; cases q; done) | cases h | skip
  all_goals (
    rename_i q
    cases q
    rw [Bool.and_eq_true] at h
    have e1 := of_decide_eq_true h.1
    subst e1
    exact ⟨_, _, _, _, _, _, rfl, h.2⟩)
theorem tryR_inv {x z : Str} {a : T} {sc : Scope} {st : Stmt} (h : chkS N sc (.tryR x a z) st = true) : ∃ e p1 p2 j p3 p4 p5 pos, st = .Try [.Return (some e) p1] [.ExceptHandler (some (.Name x p2)) none [.Return (some (.Constant (.str z) j p3)) p4] p5] [] [] pos ∧ glB sc x = true ∧ chk N false sc sc a e = true := by
  unfold chkS at h
  split at h <;> first | (rename_i q _; cases q; done) | (rename_i q; cases q; done) | cases h | skip
  all_goals (
    rename_i q
    cases q
    simp only [Bool.and_eq_true] at h
    obtain ⟨⟨⟨h1, h2⟩, h3⟩, h4⟩ := h
    have e1 := of_decide_eq_true h1
    have e2 := of_decide_eq_true h3
    subst e1 e2
    exact ⟨_, _, _, _, _, _, _, _, rfl, h2, h4⟩)
theorem swapsSole_of {e : Expr} {tgs : List Expr} {l : Nat} {env : Env} (h : notComp e = true) : swapsWithSole tgs e l env = pure false := by
  cases tgs with
  | nil => cases e <;> first | rfl | cases h
  | cons t r => cases r <;> (cases e <;> first | rfl | cases h)
theorem snds_bset (i j : Nat) (a : T) : SndS N lv (.bset i j a) := .st (by
  intro sc X W st o gd tk hp h
  obtain ⟨y, py, n, p2, pt, e, pos, rfl, h1, h2, h3, h4, h5⟩ := bset_inv h
  obtain ⟨v1, v2, v3⟩ := vis_of h3
  exact ss_bset h1 (o.ix h2) (by rw [o.hsc]; exact v1) v2 v3 ((sndE a).he o gd tk h5) (swapsSole_of h4)) (fun _ x h => by cases x <;> cases h)
theorem sndS : ∀ t : T, SndS N lv t := by
  intro t
  induction t with
  | nil => exact ⟨fun {sc X W st} _ _ _ _ h => (by cases st <;> cases h), fun {sc X W sts} o gd tk hp h => by
      cases sts with
      | nil => exact ss_nil
      | cons _ _ => cases h⟩
  | seq a r iha ihr => exact ⟨fun {sc X W st} _ _ _ _ h => (by cases st <;> cases h), fun {sc X W sts} o gd tk hp h => by
      cases sts with
      | nil => cases h
      | cons s ss =>
        have h' : (chkS N sc a s && chkB N sc r ss) = true := h
        rw [Bool.and_eq_true] at h'
        exact ss_cons (iha.hs o gd.1 tk hp h'.1) (ihr.hb o gd.2 tk hp h'.2)⟩
  | bagged i x g a r iha ihr => exact ⟨fun {sc X W st} _ _ _ _ h => (by cases st <;> cases h), fun {sc X W sts} o gd tk hp h => by
      have hN : X.N.Nodup := by rw [o.hN]; exact o.nd
      obtain ⟨y, p2, f, p, e, es, pos, pos2, ss, rfl⟩ := bagged_inv h
      (
        have h' : (decide (N[i]? = some y) && stB sc y && decide (x = f) && glB sc f && chkA N sc sc a (e :: es) && chkB N sc r ss) = true := h
        simp only [Bool.and_eq_true] at h'
        obtain ⟨⟨⟨⟨⟨h1, h2⟩, h3⟩, h4⟩, h5⟩, h6⟩ := h'
        have e1 : x = f := of_decide_eq_true h3
        subst e1
        obtain ⟨⟨fa, fd, ps, k, hk, hn, hm, hkp, hb, F⟩, gd2, gd3⟩ := gd
        obtain ⟨q1, q2⟩ := chkA_all _ _ h5
        rw [List.all_cons, Bool.and_eq_true] at q1
        exact ss_bagged F (o.room.mono hk) (o.gl h4).1 hm hkp hb tk ((sndE a).ha o gd2 tk h5) (o.gl h4).2 (star_of q1.1) (back_of q1.2) (by rw [q2, hn]) (fun s us s' hs => by rw [evA_len a s us s' hs, q2]) hN (o.ix h1) (o.loc h2).1 (o.loc h2).2 (ihr.hb o gd3 tk hp h6))⟩
  | asg g e _ _ => exact snds_asg g e
  | asgO i e _ => exact snds_asgO i e
  | parL i j a _ => exact snds_parL i j a
  | par is l _ => exact snds_par is l
  | app i e _ => exact snds_app i e
  | bset i j e _ => exact snds_bset i j e
  | raise x a _ => exact .st (by
      intro sc X W st o gd tk hp h
      obtain ⟨p, m, j, p2, pos2, pos, rfl, h1⟩ := raise_inv h
      exact ss_raise o.calm tk gd (o.gl h1).1 (o.gl h1).2) (fun _ x h => by cases x <;> cases h)
  | tryR x e z _ => exact .st (by
      intro sc X W st o gd tk hp h
      obtain ⟨e', p1, p2, j, p3, p4, p5, pos, rfl, h1, h2⟩ := tryR_inv h
      exact ss_tryR hp.stk hp.frm tk gd.1 (o.gl h1).1 (o.gl h1).2 fun W' pn xe t => (sndE e).he (X := X.tr pn xe) (o.tr pn xe) gd.2 t h2) (fun _ x h => by cases x <;> cases h)
  | iff c a b ihc iha ihb => exact .st (by
      intro sc X W st o gd tk hp h
      cases st <;> first | cases h | skip
      rename_i ec sa sb pos
      have h' : (chk N true sc sc c ec && chkB N sc a sa && chkB N sc b sb) = true := h
      simp only [Bool.and_eq_true] at h'
      exact ss_if ((sndE c).pt o gd.1 tk h'.1.1) (iha.hb o gd.2.1 tk hp h'.1.2) (ihb.hb o gd.2.2 tk hp h'.2)) (fun _ x h => by cases x <;> cases h)
  | loop g it b ihg ihi ihb => exact .st (by
      intro sc X W st o gd tk hp h
      cases st <;> first | cases h | skip
      rename_i tg iter body orelse pos
      cases orelse with
      | cons _ _ => cases h
      | nil =>
        have h' : ((notSet iter && tgOk it tg) && chkI N sc sc it iter && chkG N sc sc g tg && chkB N sc b body) = true := h
        simp only [Bool.and_eq_true] at h'
        obtain ⟨⟨⟨h1, h2⟩, h3⟩, h4⟩ := h'
        exact ss_for hp.pass o.calm ((sndE it).hi o gd.1 tk h2 h1.2) ((sndE (lv := lv) g).hg o h3) (ihb.hb o gd.2 tk hp h4) (folded_of h1.1)) (fun _ x h => by cases x <;> cases h)
  | «while» n c b ihc ihb => exact .st (by
      intro sc X W st o gd tk hp h
      cases st <;> first | cases h | skip
      rename_i ec body orelse pos
      cases orelse with
      | cons _ _ => cases h
      | nil =>
        have h' : (chk N true sc sc c ec && chkB N sc b body) = true := h
        simp only [Bool.and_eq_true] at h'
        exact ss_while hp.pass ((sndE c).pt o gd.1 tk h'.1) (ihb.hb o gd.2 tk hp h'.2)) (fun _ x h => by cases x <;> cases h)
  | ret e _ => exact .st (by
      intro sc X W st o gd tk hp h
      cases st <;> first | cases h | skip
      rename_i v pos
      cases v with
      | none => cases h
      | some v => exact ss_ret ((sndE e).he o gd tk h)) (fun _ x h => by cases x <;> cases h)
  | drop e _ => exact .st (by
      intro sc X W st o gd tk hp h
      cases st <;> first | cases h | skip
      rename_i v pos
      have h' : (notComp v && chk N false sc sc e v) = true := h
      simp only [Bool.and_eq_true] at h'
      exact ss_drop ((sndE e).he o gd tk h'.2) (swaps_of h'.1)) (fun _ x h => by cases x <;> cases h)
  | yes => exact ⟨fun {sc X W st} _ _ _ _ _ => ⟨fun pins s σ H D I ⟨C, F, s0, r, h⟩ => h.elim⟩, fun {sc X W sts} _ _ _ _ _ => ⟨fun pins s σ H D I ⟨C, F, s0, r, h⟩ => h.elim⟩⟩
  | _ => exact .none (fun _ x h => by cases x <;> cases h) (fun _ x h => by cases x <;> cases h)
end

/-! ### a def -/
section
variable {P : Program} {w : World} {K : PySem.W.Frag} {mg : Str → Option Value} {base : Heap}
theorem passes_def {CX : CXT} {N : List Str} {qual : Str} {scope : Scope} {f : Addr} {cd : Value} {A : Around} {outer : List Env} {s : Shared} {H : Hp} {E : XK} : PassesOwn (model P w) (cxOf CX P w K mg base N qual scope f cd A outer s H E).A (cxOf CX P w K mg base N qual scope f cd A outer s H E).env (cxOf CX P w K mg base N qual scope f cd A outer s H E).xe :=
  passes_of (X := cxOf CX P w K mg base N qual scope f cd A outer s H E) (K := fun e s'' => CX outer H s E e s'') (E₁ := fun e' s'' => CX outer H s E e' s'') rfl
/-- a def's entry -/
theorem rel_start {b : Addr} {F H : Hp} {us : List U} {vs : List V} {N : List Str} {q : Bag} (le : Le F H) (d : Paired (DenU K b F) us vs) (hb : BagAt F H b q) (hl : us.length ≤ N.length) :
    Rel K ⟨F, H, b, q.isSome⟩ F ⟨us.map Slot.val ++ List.replicate (N.length - us.length) Slot.un, q⟩ (L2.start N vs) H where
  le := le
  ge := Le.refl F
  new := fun _ _ e => .inl e
  keep := fun _ _ e _ => e
  hbag := rfl
  bag := hb
  len := by
    have := Paired.length d
    unfold L2.start
    simp only [List.length_append, List.length_map, List.length_replicate]
    omega
  val := fun i u e => by
    have hi : i < us.length := by
      by_cases hi : i < us.length
      · exact hi
      · have e' : (us.map Slot.val ++ List.replicate (N.length - us.length) Slot.un)[i]? = some (.val u) := e
        rw [List.getElem?_append_right (by simpa using hi), List.getElem?_replicate] at e'
        split at e' <;> cases e'
    have e' : (us.map Slot.val ++ List.replicate (N.length - us.length) Slot.un)[i]? = some (.val u) := e
    rw [List.getElem?_append_left (by simpa using hi), List.getElem?_map, List.getElem?_eq_getElem hi] at e'
    have eu : us[i] = u := by cases e'; rfl
    have get : ∀ {us : List U} {vs : List V} {i : Nat} (hi : i < us.length), Paired (DenU K b F) us vs → ∃ v, vs[i]? = some v ∧ DenU K b F us[i] v := by
      intro us
      induction us with
      | nil => intro vs i hi _; exact absurd hi (Nat.not_lt_zero _)
      | cons u us ih =>
        intro vs i hi d
        cases d with
        | cons h t =>
          cases i with
          | zero => exact ⟨_, rfl, h⟩
          | succ i =>
            obtain ⟨v, h1, h2⟩ := ih (Nat.lt_of_succ_lt_succ hi) t
            exact ⟨v, by simpa using h1, h2⟩
    obtain ⟨v, h1, h2⟩ := get hi d
    rw [eu] at h2
    refine ⟨v, ?_, h2⟩
    have hv : i < vs.length := by rw [← Paired.length d]; exact hi
    unfold L2.start
    rw [List.getElem?_append_left (by simpa using hv), List.getElem?_map, h1]
    rfl
  own := fun i ds e => by
    have e' : (us.map Slot.val ++ List.replicate (N.length - us.length) Slot.un)[i]? = some (.ol ds) := e
    have hm := List.mem_of_getElem? e'
    rw [List.mem_append] at hm
    rcases hm with h | h
    · obtain ⟨u, _, z⟩ := List.mem_map.mp h
      cases z
    · cases List.eq_of_mem_replicate h
  apart := fun i j ds es p e _ _ _ => by
    have e' : (us.map Slot.val ++ List.replicate (N.length - us.length) Slot.un)[i]? = some (.ol ds) := e
    have hm := List.mem_of_getElem? e'
    rw [List.mem_append] at hm
    rcases hm with h | h
    · obtain ⟨u, _, z⟩ := List.mem_map.mp h
      cases z
    · cases List.eq_of_mem_replicate h
theorem rel_after {b : Addr} {F H F' H' : Hp} {q : Bag} {s : S} {σ : L2.St} (r : Rel K ⟨F, H, b, q.isSome⟩ F' s σ H') : After K b F H q F' H' s.bag where
  leF := r.ge
  le := r.le
  new := r.new
  keep := fun a o e n => r.keep a o e n
  isb := r.hbag
  bag := r.bag
/-- THE RULE: a def whose tree passes the look keeps the promise that its tree says -/
theorem def_ok {x qual : Str} {params : Arguments} {body : List Stmt} {scope : Scope} {f : Addr} {fd : FuncData} {N ps : List Str} {lv : Nat} (F : FunD K x qual params body scope [] [] f fd) (Sc : FnScope N ps scope) (hB : BltOk mg) (t : T) (hg : Good P w K mg base lv t) (hc : chkB N scope t body = true) :
    FnOk P w K mg base (L2.CX P w) (lv + 1) f fd ps (spG K mg ps.length (run t ps.length N.length)) := by
  refine F.ok Sc (fun vs H Q E h => h.len) fun cdv A outer s H vs Q E hr h => ?_
  obtain ⟨F0, b, us, q, le, hl, d, hb, hm⟩ := h
  have hps : ps.length ≤ N.length := by
    have := congrArg List.length Sc.pre
    rw [List.length_take] at this
    omega
  have o : XOk (cxOf (L2.CX P w) P w K mg base N qual scope f cdv A outer s H E) N scope scope lv :=
    { hN := rfl, hsc := rfl, kind := Sc.kind, nd := Sc.nd, calm := rfl, room := hr, blt := hB, st := fun x h => ⟨h, .inl rfl⟩ }
  have tk : Takes (cxOf (L2.CX P w) P w K mg base N qual scope f cdv A outer s H E) (fun cls d _ H' => E cls d H') := takes_of rfl rfl rfl rfl
  refine ⟨_, (sndS t).hb o hg tk ⟨passes_def, rfl, rfl⟩ hc, ⟨F0, H, b, q.isSome⟩, F0, _, rel_start le d hb (by rw [hl]; exact hps), ?_⟩
  have hm' : match run t ps.length N.length us q with
    | .ok u q' => ∀ v F' H', After K b F0 H q F' H' q' → DenU K b F' u v → Q v H'
    | .exn c p q' => ∀ cls d F' H', After K b F0 H q F' H' q' → ErrIs K mg F' H' c p cls d → E cls d H'
    | .stuck => False := hm
  unfold run at hm'
  rw [if_pos hl, ← hl] at hm'
  show PostS K mg _ _ F0 (ex t ⟨us.map Slot.val ++ List.replicate (N.length - us.length) Slot.un, q⟩) _
  revert hm'
  cases ex t ⟨us.map Slot.val ++ List.replicate (N.length - us.length) Slot.un, q⟩ with
  | ok o s1 =>
    cases o with
    | nx => exact fun hm F' σ' H' l r => hm .non F' H' (rel_after r) .non
    | rt u => exact fun hm F' σ' H' v l r dv => hm v F' H' (rel_after r) dv
  | exn c p s1 => exact fun hm F' σ' H' cls d l r e => hm cls d F' H' (rel_after r) e
  | stuck => exact fun hm => hm
end
end RD
set_option Elab.async false
set_option linter.all false
set_option maxRecDepth 100000
/-! RdO: the bag's maker; a module's constants; the top's facts. -/
namespace RD
open PySem L2
section
variable {P : Program} {w : World} {K : PySem.W.Frag} {mg : Str → Option Value} {base : Heap}
theorem bag_inv {N : List Str} {sc : Scope} {a l : T} {body : List Stmt} (h : chkB N sc (.seq a (.seq (.ret (.lst l)) .nil)) body = true) : ∃ s1 es p1 p2, body = [s1, .Return (some (.List es p1)) p2] ∧ chkS N sc a s1 = true ∧ chkA N sc sc l es = true := by
  cases body with
  | nil => cases h
  | cons s1 r =>
    have h' : (chkS N sc a s1 && chkB N sc (.seq (.ret (.lst l)) .nil) r) = true := h
    rw [Bool.and_eq_true] at h'
    obtain ⟨h1, h2⟩ := h'
    cases r with
    | nil => cases h2
    | cons s2 r =>
      have h' : (chkS N sc (.ret (.lst l)) s2 && chkB N sc .nil r) = true := h2
      rw [Bool.and_eq_true] at h'
      obtain ⟨h3, h4⟩ := h'
      cases r with
      | cons _ _ => cases h4
      | nil =>
        cases s2 with
        | Return v p2 =>
          cases v with
          | none => cases h3
          | some e =>
            have h5 : chk N false sc sc (.lst l) e = true := h3
            cases e with
            | List es p1 => exact ⟨s1, es, p1, p2, rfl, h1, h5⟩
            | _ => cases h5
        | _ => cases h3
/-- a def whose last statement hands back a new list of two: the bag's maker -/
theorem bag_ok {x qual : Str} {params : Arguments} {body : List Stmt} {scope : Scope} {f : Addr} {fd : FuncData} {N ps : List Str} {lv : Nat} (F : FunD K x qual params body scope [] [] f fd) (Sc : FnScope N ps scope) (hB : BltOk mg) (i : Nat) (e l : T)
    (hg : Good P w K mg base lv (.seq (.asg (.tname i) e) (.seq (.ret (.lst l)) .nil))) (hc : chkB N scope (.seq (.asg (.tname i) e) (.seq (.ret (.lst l)) .nil)) body = true) :
    FnOk P w K mg base (L2.CX P w) (lv + 1) f fd ps (spB K ps.length (run (.seq (.asg (.tname i) e) (.seq (.ret (.lst l)) .nil)) ps.length N.length)) := by
  refine F.ok Sc (fun vs H Q E h => ?_) fun cdv A outer s H vs Q E hr h => ?_
  · obtain ⟨F, b, us, x, y, _, h1, h2, _⟩ := h
    rw [← h1]
    exact (Paired.length h2).symm
  obtain ⟨F0, b, us, zx, zy, le, hl, d, hrun, hq⟩ := h
  have hps : ps.length ≤ N.length := by
    have := congrArg List.length Sc.pre
    rw [List.length_take] at this
    omega
  have o : XOk (cxOf (L2.CX P w) P w K mg base N qual scope f cdv A outer s H E) N scope scope lv :=
    { hN := rfl, hsc := rfl, kind := Sc.kind, nd := Sc.nd, calm := rfl, room := hr, blt := hB, st := fun x h => ⟨h, .inl rfl⟩ }
  have tk : Takes (cxOf (L2.CX P w) P w K mg base N qual scope f cdv A outer s H E) (fun cls d _ H' => E cls d H') := takes_of rfl rfl rfl rfl
  obtain ⟨s1, es, p1, p2, rfl, c1, c2⟩ := bag_inv hc
  (
    have p1 := (sndS (.asg (.tname i) e)).hs o hg.1 tk ⟨passes_def, rfl, rfl⟩ c1
    have p2 := (sndE l).ha o hg.2.1 tk c2
    refine ⟨_, pss_cons p1 (pss_one (ps_ret (pe_lst p2))), ⟨F0, H, b, false⟩, F0, _, rel_start le d (fun x y h => nomatch h) (q := none) (by rw [hl]; exact hps), ?_⟩
    unfold run at hrun
    rw [if_pos hl, ← hl] at hrun
    show PostS K mg _ _ F0 (ex (.asg (.tname i) e) ⟨us.map Slot.val ++ List.replicate (N.length - us.length) Slot.un, none⟩) _
    have hrun' : (match (ex (.asg (.tname i) e) ⟨us.map Slot.val ++ List.replicate (N.length - us.length) Slot.un, none⟩).bind (fun o s => match o with
        | Out.nx => ex (.seq (.ret (.lst l)) .nil) s
        | Out.rt u => .ok (Out.rt u) s) with
      | .ok .nx s => RB.ok (.d .none) s.bag
      | .ok (.rt u) s => .ok u s.bag
      | .exn c p s => .exn c p s.bag
      | .stuck => .stuck) = .ok (.d (.list [.int zx, .int zy])) none := hrun
    have hnx : ∀ u s, ex (.asg (.tname i) e) ⟨us.map Slot.val ++ List.replicate (N.length - us.length) Slot.un, none⟩ ≠ .ok (.rt u) s := by
      intro u s h
      have h0 : ((ev e ⟨us.map Slot.val ++ List.replicate (N.length - us.length) Slot.un, none⟩).dat fun x s => (R.ofS (asgT (.tname i) x s)).bind fun _ s => R.ok Out.nx s) = R.ok (Out.rt u) s := h
      unfold R.dat at h0
      obtain ⟨z, s1, _, h2⟩ := bind_ok h0
      cases z with
      | d x =>
        obtain ⟨z, s2, _, h4⟩ := bind_ok h2
        cases h4
      | _ => cases h2
    revert hrun'
    cases e1 : ex (.asg (.tname i) e) ⟨us.map Slot.val ++ List.replicate (N.length - us.length) Slot.un, none⟩ with
    | ok o s1 =>
      cases o with
      | rt u => exact absurd e1 (hnx u s1)
      | nx =>
        intro hrun'
        intro F1 σ1 H1 l1 r1
        refine ⟨⟨F0, H, b, false⟩, F1, s1, r1, ?_⟩
        have h2 : (match (match (evA l s1).bind (fun us s => match datas us with
          | some xs => if xs.length ≤ big then R.ok (U.d (.list xs)) s else .stuck
          | none => .stuck) with
          | .ok u s => R.ok (Out.rt u) s
          | .exn c p s => .exn c p s
          | .stuck => .stuck) with
          | .ok .nx s => RB.ok (.d .none) s.bag
          | .ok (.rt u) s => .ok u s.bag
          | .exn c p s => .exn c p s.bag
          | .stuck => .stuck) = .ok (.d (.list [.int zx, .int zy])) none := by
          have h3 : (match (ex (.seq (.ret (.lst l)) .nil) s1) with
            | .ok .nx s => RB.ok (.d .none) s.bag
            | .ok (.rt u) s => .ok u s.bag
            | .exn c p s => .exn c p s.bag
            | .stuck => .stuck) = .ok (.d (.list [.int zx, .int zy])) none := hrun'
          have e3 : ex (.seq (.ret (.lst l)) .nil) s1 = (match (evA l s1).bind (fun us s => match datas us with
            | some xs => if xs.length ≤ big then R.ok (U.d (.list xs)) s else .stuck
            | none => .stuck) with
            | .ok u s => R.ok (Out.rt u) s
            | .exn c p s => .exn c p s
            | .stuck => .stuck) := by
            show R.bind (R.bind (ev (.lst l) s1) fun u s => R.ok (Out.rt u) s) (fun o s => match o with | Out.nx => ex .nil s | Out.rt u => .ok (Out.rt u) s) = _
            show R.bind (R.bind ((evA l s1).bind (fun us s => match datas us with
              | some xs => if xs.length ≤ big then R.ok (U.d (.list xs)) s else .stuck
              | none => .stuck)) fun u s => R.ok (Out.rt u) s) (fun o s => match o with | Out.nx => ex .nil s | Out.rt u => .ok (Out.rt u) s) = _
            cases (evA l s1).bind (fun us s => match datas us with
              | some xs => if xs.length ≤ big then R.ok (U.d (.list xs)) s else .stuck
              | none => .stuck) <;> rfl
          rw [e3] at h3
          exact h3
        revert h2
        cases e2 : evA l s1 with
        | ok ys s2 =>
          intro h2
          intro F2 H2 l2 r2 vs2 hv
          have h4 : (match (match datas ys with
            | some xs => if xs.length ≤ big then R.ok (U.d (.list xs)) s2 else .stuck
            | none => .stuck) with
            | .ok u s => RB.ok u s.bag
            | .exn c p s => .exn c p s.bag
            | .stuck => .stuck) = .ok (.d (.list [.int zx, .int zy])) none := by
            revert h2
            show (match (match (match datas ys with
              | some xs => if xs.length ≤ big then R.ok (U.d (.list xs)) s2 else .stuck
              | none => .stuck) with
              | .ok u s => R.ok (Out.rt u) s
              | .exn c p s => .exn c p s
              | .stuck => .stuck) with
              | .ok .nx s => RB.ok (.d .none) s.bag
              | .ok (.rt u) s => .ok u s.bag
              | .exn c p s => .exn c p s.bag
              | .stuck => .stuck) = _ → _
            cases (match datas ys with
              | some xs => if xs.length ≤ big then R.ok (U.d (.list xs)) s2 else .stuck
              | none => .stuck) <;> exact fun h => h
          cases e5 : datas ys with
          | none => rw [e5] at h4; cases h4
          | some xs =>
            rw [e5] at h4
            by_cases hb : xs.length ≤ big
            · have h6 : (match (if xs.length ≤ big then R.ok (U.d (.list xs)) s2 else .stuck) with
                | .ok u s => RB.ok u s.bag
                | .exn c p s => .exn c p s.bag
                | .stuck => .stuck) = .ok (.d (.list [.int zx, .int zy])) none := h4
              rw [if_pos hb] at h6
              have h7 : RB.ok (.d (.list xs)) s2.bag = .ok (.d (.list [.int zx, .int zy])) none := h6
              injection h7 with h7 h8
              injection h7 with h7
              injection h7 with h7
              subst h7
              have dn := datas_dn hv e5
              have ev2 : vs2 = [.int zx, .int zy] := by
                cases dn with
                | cons d1 t =>
                  cases d1
                  cases t with
                  | cons d2 t2 =>
                    cases d2
                    cases t2
                    rfl
              subst ev2
              refine ⟨by show 2 ≤ sizeLine; decide, fun p hp => ?_⟩
              refine hq p _ (r2.fresh0 hp) (fun a o e => ?_) upd_same
              rw [upd_ne (ne_of_none (r2.keep a o e (.inl rfl)) hp)]
              exact r2.keep a o e (.inl rfl)
            · have h6 : (match (if xs.length ≤ big then R.ok (U.d (.list xs)) s2 else .stuck) with
                | .ok u s => RB.ok u s.bag
                | .exn c p s => .exn c p s.bag
                | .stuck => .stuck) = .ok (.d (.list [.int zx, .int zy])) none := h4
              rw [if_neg hb] at h6
              cases h6
        | exn c p s2 =>
          intro h2
          cases h2
        | stuck =>
          intro h2
          cases h2
    | exn c p s1 =>
      intro hrun'
      cases hrun'
    | stuck =>
      intro hrun'
      cases hrun')
end

/-! ### constants -/
mutual
def datB (K : PySem.W.Frag) : PyData → Value → Bool
  | .none, .none => true
  | .bool b, .bool c => b == c
  | .int i, .int j _ => decide (i = j)
  | .str x, .str y _ => decide (x = y)
  | .tuple ds, .ref a => (match K.lookup a with
    | some ⟨.type c, _, .seq its _, _⟩ => decide (c = "tuple") && decide (its.size ≤ sizeLine) && datsB K ds its.toList
    | _ => false)
  | _, _ => false
def datsB (K : PySem.W.Frag) : List PyData → List Value → Bool
  | [], [] => true
  | d :: ds, v :: vs => datB K d v && datsB K ds vs
  | _, _ => false
end
mutual
theorem datB_ok {K : PySem.W.Frag} : ∀ (d : PyData) (u : Value), datB K d u = true → ∃ v, RelV v u ∧ ∀ F, Dn K F v d
  | .none, u, h => by
    cases u <;> first | cases h | skip
    exact ⟨.non, rfl, fun F => .non⟩
  | .bool b, u, h => by
    cases u <;> first | cases h | skip
    rename_i c
    have h' : (b == c) = true := h
    rw [eq_of_beq h']
    exact ⟨.bl c, rfl, fun F => .bl c⟩
  | .int i, u, h => by
    cases u <;> first | cases h | skip
    rename_i j t
    have h' : decide (i = j) = true := h
    rw [of_decide_eq_true h']
    exact ⟨.int j, ⟨t, rfl⟩, fun F => .int j⟩
  | .str x, u, h => by
    cases u <;> first | cases h | skip
    rename_i y t
    have h' : decide (x = y) = true := h
    rw [of_decide_eq_true h']
    exact ⟨.str y, ⟨t, rfl⟩, fun F => .str y⟩
  | .tuple ds, u, h => by
    cases u <;> first | cases h | skip
    rename_i a
    have h0 : (match K.lookup a with
      | some ⟨.type c, _, .seq its _, _⟩ => decide (c = "tuple") && decide (its.size ≤ sizeLine) && datsB K ds its.toList
      | _ => false) = true := h
    split at h0
    · rename_i c od its n osl e
      rw [Bool.and_eq_true, Bool.and_eq_true] at h0
      obtain ⟨⟨h1, h2⟩, h3⟩ := h0
      obtain ⟨vs, q1, q2⟩ := datsB_ok ds its.toList h3
      refine ⟨.ref a, rfl, fun F => .tup (xs := vs) (.inr ⟨_, its, n, e, ?_, rfl, of_decide_eq_true h2, q1⟩) (q2 F)⟩
      exact congrArg Value.type (of_decide_eq_true h1)
    · cases h0
  | .list ds, u, h => by cases u <;> cases h
  | .dict ds, u, h => by cases u <;> cases h
theorem datsB_ok {K : PySem.W.Frag} : ∀ (ds : List PyData) (us : List Value), datsB K ds us = true → ∃ vs, Vals vs us ∧ ∀ F, DnAll K F vs ds
  | [], us, h => by
    cases us with
    | nil => exact ⟨[], .nil, fun F => .nil⟩
    | cons _ _ => cases h
  | d :: ds, us, h => by
    cases us with
    | nil => cases h
    | cons u us =>
      have h' : (datB K d u && datsB K ds us) = true := h
      rw [Bool.and_eq_true] at h'
      obtain ⟨v, h1, h2⟩ := datB_ok d u h'.1
      obtain ⟨vs, h3, h4⟩ := datsB_ok ds us h'.2
      exact ⟨v :: vs, .cons h1 h3, fun F => .cons (h2 F) (h4 F)⟩
end
def gloB (K : PySem.W.Frag) (q : Str × PyData) : Bool := match PySem.W.nsIn K mainGlobals q.1 with
  | some (some u) => datB K q.2 u
  | _ => false
theorem gloB_ok {K : PySem.W.Frag} {h : Heap} {mg : Str → Option Value} (X : K.In h) (G : h.Ns mainGlobals mg) {q : Str × PyData} (c : gloB K q = true) : GlobOk K mg q.1 q.2 := by
  unfold gloB at c
  split at c
  · rename_i u e
    obtain ⟨v, h1, h2⟩ := datB_ok _ _ c
    exact ⟨u, v, PySem.W.mg_of X G e, h1, h2⟩
  · cases c

/-! ### the top's facts -/
def obsX (fa : List He.Fa) (gl : List (Str × PyData)) (fn : List He.DefD) (K : PySem.W.Frag) : He.AlD := ((He.obsD fa fn K).1 && gl.all (gloB K), (He.obsD fa fn K).2)
def obsXG (n : Nat) (fa : List He.Fa) (gl : List (Str × PyData)) (fn : List He.DefD) (g : Addr → Option Obj) : He.AlD := obsX fa gl fn (He.frG g (He.asD g n))
def SaysX (fa : List He.Fa) (gl : List (Str × PyData)) (fn : List He.DefD) (K : PySem.W.Frag) : Prop := obsX fa gl fn K = He.valD fn
def hookX (n : Nat) (fa : List He.Fa) (gl : List (Str × PyData)) (fn : List He.DefD) : PySem.W.Hook where
  α := He.AlD
  obs := fun s => obsXG n fa gl fn s.heap.get?
  val := fun _ => He.valD fn
  says := fun _ h => ∃ K : PySem.W.Frag, K.In h ∧ SaysX fa gl fn K
  of := fun _ _ e => ⟨_, He.frG_in, e⟩
  keeps := fun _ _ _ ⟨K, hK, c⟩ k => ⟨K, PySem.W.Frag.In.keeps hK k, c⟩
theorem obsXG_eq {n : Nat} {fa : List He.Fa} {gl : List (Str × PyData)} {fn : List He.DefD} {g : Addr → Option Obj} {s : Shared} (h : ∀ a, g a = s.heap.get? a) : obsXG n fa gl fn g = (hookX n fa gl fn).obs s := by
  have e : g = s.heap.get? := funext h
  rw [e]
  rfl
theorem SaysX.old {fa : List He.Fa} {gl : List (Str × PyData)} {fn : List He.DefD} {K : PySem.W.Frag} (c : SaysX fa gl fn K) : He.SaysD fa fn K := by
  have c1 : ((He.obsD fa fn K).1 && gl.all (gloB K)) = true := congrArg (fun z : He.AlD => z.1) c
  have c2 : (He.obsD fa fn K).2 = fn.map He.DefD.val := congrArg (fun z : He.AlD => z.2) c
  rw [Bool.and_eq_true] at c1
  exact Prod.ext c1.1 c2
theorem SaysX.glob {fa : List He.Fa} {gl : List (Str × PyData)} {fn : List He.DefD} {K : PySem.W.Frag} (c : SaysX fa gl fn K) {h : Heap} {mg : Str → Option Value} (X : K.In h) (G : h.Ns mainGlobals mg) (i : Nat) {q : Str × PyData} (e : gl[i]? = some q := by rfl) : GlobOk K mg q.1 q.2 := by
  have c1 : ((He.obsD fa fn K).1 && gl.all (gloB K)) = true := congrArg (fun z : He.AlD => z.1) c
  rw [Bool.and_eq_true] at c1
  exact gloB_ok X G (List.all_eq_true.mp c1.2 q (List.mem_of_getElem? e))
/-- the law's promise of its script -/
theorem spG_law {K : PySem.W.Frag} {mg : Str → Option Value} {g : G} {H : Hp} {a : Addr} {ns : List Int} (hS : SqL K H a (ns.map V.int)) (hg : g [.scr ns] none = .ok (.d (.bool true)) none) : spG K mg 1 g [.ref a] H (fun v _ => v = .bl true) (fun _ _ _ => False) := by
  refine ⟨H, 0, [.scr ns], none, Le.refl H, rfl, .cons ⟨a, rfl, hS⟩ .nil, (by intro x y h; cases h), ?_⟩
  rw [hg]
  intro v F' H' _ d
  cases d
  rfl
/-- what may be let out, whatever the program and the world -/
def CXA : CXT := fun outer H s E e s' => ∃ P w, L2.CX P w outer H s E e s'
/-- nothing comes out of a law that lets nothing out -/
theorem law_out (H : Hp) (s : Shared) (e : Value) (s' : Shared) (h : CXA [] H s (fun _ _ _ => False) e s') : False := by
  obtain ⟨P, w, h⟩ := h
  obtain ⟨_, _, _, _, _, _, _, _, _, _, _, _, z⟩ := h
  exact z
theorem fn_cxa {P : Program} {w : World} {K : PySem.W.Frag} {mg : Str → Option Value} {base : Heap} {k : Nat} {f : Addr} {fd : FuncData} {ps : List Str} {sp : Sp} (F : FnOk P w K mg base (L2.CX P w) k f fd ps sp) : FnOk P w K mg base CXA k f fd ps sp :=
  ⟨F.len, fun A outer s H args us vs Q E h1 h2 h3 h4 h5 => codeAny_mono (F.run A outer s H args us vs Q E h1 h2 h3 h4 h5) fun r s' q => by
    match r, q with
    | .ok (.ret u), q => exact q
    | .error e, q => exact ⟨P, w, q⟩⟩
theorem GB.mono {P : Program} {w : World} {K : PySem.W.Frag} {mg : Str → Option Value} {base : Heap} {lv lv' n : Nat} {x : Str} {g : G} (h : GB P w K mg base lv n x g) (l : lv ≤ lv') : GB P w K mg base lv' n x g := by
  obtain ⟨f, fd, ps, k, h1, r⟩ := h
  exact ⟨f, fd, ps, k, Nat.le_trans h1 l, r⟩
theorem fn_stuck {P : Program} {w : World} {K : PySem.W.Frag} {mg : Str → Option Value} {base : Heap} {CX : CXT} {k : Nat} {f : Addr} {fd : FuncData} {ps : List Str} : FnOk P w K mg base CX k f fd ps (spG K mg ps.length fun _ _ => .stuck) :=
  ⟨fun vs H Q E ⟨F, b, us, q, _, _, _, _, h⟩ => h.elim, fun A outer s H args us vs Q E _ _ _ _ ⟨F, b, us', q, _, _, _, _, h⟩ => h.elim⟩
end RD
set_option Elab.async false
set_option linter.all false
set_option maxRecDepth 100000
/-! RdP: plain facts about the evaluator. -/
namespace RD
open PySem L2
theorem forR_inv {f : PyData → S → R Out} {P : S → Prop} : ∀ (xs : List PyData) (s : S), P s → (∀ x ∈ xs, ∀ s, P s → ∃ s', f x s = .ok .nx s' ∧ P s') → ∃ s', forR f xs s = .ok .nx s' ∧ P s'
  | [], s, h, _ => ⟨s, rfl, h⟩
  | x :: xs, s, h, k => by
    obtain ⟨s1, h1, h2⟩ := k x (List.mem_cons_self ..) s h
    obtain ⟨s2, h3, h4⟩ := forR_inv xs s1 h2 fun y hy => k y (List.mem_cons_of_mem _ hy)
    refine ⟨s2, ?_, h4⟩
    show (f x s).bind _ = _
    rw [h1]
    exact h3
theorem mem_rangeD {lo : Int} {n : Nat} {x : PyData} (h : x ∈ rangeD lo n) : ∃ k : Nat, k < n ∧ x = .int (lo + k) := by
  unfold rangeD at h
  obtain ⟨k, h1, h2⟩ := List.mem_map.mp h
  exact ⟨k, List.mem_range.mp h1, h2.symm⟩
/-! ### for simp -/
@[simp] theorem get_val {s : S} {i : Nat} {u : U} (h : s.rho[i]? = some (.val u)) : s.get i = .ok u s := by
  unfold S.get
  rw [h]
@[simp] theorem get_mk {rho : List Slot} {q : Bag} {i : Nat} {u : U} (h : rho[i]? = some (.val u)) : (S.mk rho q).get i = .ok u ⟨rho, q⟩ := get_val h
@[simp] theorem set_mk (rho : List Slot) (q : Bag) (i : Nat) (x : PyData) : (S.mk rho q).set i x = ⟨rho.set i (.val (.d x)), q⟩ := rfl
@[simp] theorem bin_add (i j : Int) : binop .add (.int i) (.int j) = some (.int (i + j)) := rfl
@[simp] theorem bin_sub (i j : Int) : binop .sub (.int i) (.int j) = some (.int (i - j)) := rfl
@[simp] theorem bin_mul (i j : Int) : binop .mul (.int i) (.int j) = if CMul i j then some (.int (i * j)) else none := rfl
@[simp] theorem bin_fdiv (i j : Int) : binop .fdiv (.int i) (.int j) = if CDivN i j then some (.int (i.fdiv j)) else none := rfl
@[simp] theorem bin_mod (i j : Int) : binop .mod (.int i) (.int j) = if j = 0 then none else some (.int (i.fmod j)) := rfl
@[simp] theorem bin_pow (i j : Int) : binop .pow (.int i) (.int j) = if CPow i j then some (.int (i ^ j.toNat)) else none := rfl
@[simp] theorem bin_lst (i j : List PyData) : binop .add (.list i) (.list j) = if i.length + j.length ≤ big then some (.list (i ++ j)) else none := rfl
@[simp] theorem cmp_lt (i j : Int) : cmpop .lt (.int i) (.int j) = some (decide (i < j)) := rfl
@[simp] theorem cmp_le (i j : Int) : cmpop .le (.int i) (.int j) = some (decide (i ≤ j)) := rfl
@[simp] theorem cmp_gt (i j : Int) : cmpop .gt (.int i) (.int j) = some (decide (j < i)) := rfl
@[simp] theorem cmp_ge (i j : Int) : cmpop .ge (.int i) (.int j) = some (decide (j ≤ i)) := rfl
@[simp] theorem cmp_eqi (i j : Int) : cmpop .eq (.int i) (.int j) = some (i == j) := rfl
@[simp] theorem cmp_nei (i j : Int) : cmpop .ne (.int i) (.int j) = some (!(i == j)) := rfl
theorem shaped_str {i : Str} (h : (PyData.str i).canLay0 = true) : SeqAt.shaped (.str i) = true := by
  unfold SeqAt.shaped
  rw [h]
  rfl
theorem cmp_eqs {i j : Str} (hi : (PyData.str i).canLay0 = true) (hj : (PyData.str j).canLay0 = true) : cmpop .eq (.str i) (.str j) = some (i == j) := by
  show (if (SeqAt.shaped (.str i) && SeqAt.shaped (.str j)) = true then some (PyData.eqv (.str i) (.str j)) else none) = _
  rw [shaped_str hi, shaped_str hj]
  rfl
theorem cmp_nes {i j : Str} (hi : (PyData.str i).canLay0 = true) (hj : (PyData.str j).canLay0 = true) : cmpop .ne (.str i) (.str j) = some (!(i == j)) := by
  show (if (SeqAt.shaped (.str i) && SeqAt.shaped (.str j)) = true then some (!PyData.eqv (.str i) (.str j)) else none) = _
  rw [shaped_str hi, shaped_str hj]
  rfl
@[simp] theorem blt_lent (xs : List PyData) : bltop .len [.tuple xs] = some (.int xs.length) := rfl
@[simp] theorem blt_lenl (xs : List PyData) : bltop .len [.list xs] = some (.int xs.length) := rfl
@[simp] theorem blt_int (i : Int) : bltop .int [.int i] = some (.int i) := rfl
@[simp] theorem blt_abs (i : Int) : bltop .abs [.int i] = some (.int (if i < 0 then -i else i)) := rfl
@[simp] theorem blt_max (i j : Int) : bltop .max2 [.int i, .int j] = some (.int (if j > i then j else i)) := rfl
@[simp] theorem blt_min (i j : Int) : bltop .min2 [.int i, .int j] = some (.int (if j < i then j else i)) := rfl
@[simp] theorem ix_t (xs : List PyData) (i : Int) : idxop (.tuple xs) (.int i) = atI xs i := rfl
@[simp] theorem ix_l (xs : List PyData) (i : Int) : idxop (.list xs) (.int i) = atI xs i := rfl
@[simp] theorem at0 {α : Type} (x : α) (xs : List α) : atI (x :: xs) 0 = some x := by
  simp [atI, ixN]
@[simp] theorem at1 {α : Type} (x y : α) (xs : List α) : atI (x :: y :: xs) 1 = some y := by
  have : (1 : Int) < (xs.length : Int) + 1 + 1 := by omega
  simp [atI, ixN, this]
@[simp] theorem at2 {α : Type} (x y z : α) (xs : List α) : atI (x :: y :: z :: xs) 2 = some z := by
  have : (2 : Int) < (xs.length : Int) + 1 + 1 + 1 := by omega
  simp [atI, ixN, this]
@[simp] theorem at3 {α : Type} (x y z u : α) (xs : List α) : atI (x :: y :: z :: u :: xs) 3 = some u := by
  have : (3 : Int) < (xs.length : Int) + 1 + 1 + 1 + 1 := by omega
  simp [atI, ixN, this]
@[simp] theorem at4 {α : Type} (x y z u v : α) (xs : List α) : atI (x :: y :: z :: u :: v :: xs) 4 = some v := by
  have : (4 : Int) < (xs.length : Int) + 1 + 1 + 1 + 1 + 1 := by omega
  simp [atI, ixN, this]
@[simp] theorem sl_l (xs : List PyData) (lo hi : Option Int) : slcop (.list xs) lo hi = some (.list (cutD xs lo hi)) := rfl
@[simp] theorem sl_t (xs : List PyData) (lo hi : Option Int) : slcop (.tuple xs) lo hi = some (.tuple (cutD xs lo hi)) := rfl
@[simp] theorem ofS_bind {α : Type} (s : S) (k : Unit → S → R α) : (R.ofS (some s)).bind k = k () s := rfl
@[simp] theorem asg_name (i : Nat) (x : PyData) (s : S) : asgT (.tname i) x s = some (s.set i x) := rfl
@[simp] theorem asg_tup (a : T) (xs : List PyData) (s : S) : asgT (.ttup a) (.tuple xs) s = asgT.asgTs a xs s := rfl
@[simp] theorem asgs_nil (s : S) : asgT.asgTs .anil [] s = some s := rfl
@[simp] theorem asgs_cons (a r : T) (x : PyData) (xs : List PyData) (s : S) : asgT.asgTs (.acons a r) (x :: xs) s = (asgT a x s).bind fun s => asgT.asgTs r xs s := rfl
@[simp] theorem setAll_nil (s : S) : setAll [] [] s = some s := rfl
@[simp] theorem setAll_cons (i : Nat) (is : List Nat) (x : PyData) (xs : List PyData) (s : S) : setAll (i :: is) (x :: xs) s = setAll is xs (s.set i x) := rfl
end RD
set_option Elab.async false
set_option linter.all false
set_option maxRecDepth 100000
/-! RdQ: blocks, walks, comprehensions: what they do, told once. -/
namespace RD
open PySem L2
theorem compR_ok {f : PyData → S → RD.R (Option PyData)} {P : S → Prop} {g : PyData → Option PyData} : ∀ (xs acc : List PyData) (s : S), P s → (∀ x ∈ xs, ∀ s, P s → ∃ s', f x s = .ok (g x) s' ∧ P s') → acc.length + xs.length ≤ big →
    ∃ s', compR f acc xs s = .ok (acc ++ xs.filterMap g) s' ∧ P s'
  | [], acc, s, h, _, _ => ⟨s, by simp [compR], h⟩
  | x :: xs, acc, s, h, k, hl => by
    obtain ⟨s1, e1, h1⟩ := k x (List.mem_cons_self ..) s h
    have hl' : acc.length + (xs.length + 1) ≤ big := hl
    have hk := fun y (hy : y ∈ xs) => k y (List.mem_cons_of_mem _ hy)
    cases hg : g x with
    | none =>
      obtain ⟨s2, e2, h2⟩ := compR_ok xs acc s1 h1 hk (by omega)
      refine ⟨s2, ?_, h2⟩
      show (f x s).bind _ = _
      rw [e1, hg, List.filterMap_cons, hg]
      exact e2
    | some y =>
      obtain ⟨s2, e2, h2⟩ := compR_ok xs (acc ++ [y]) s1 h1 hk (by rw [List.length_append]; simp; omega)
      refine ⟨s2, ?_, h2⟩
      show (f x s).bind _ = _
      rw [e1, hg, List.filterMap_cons, hg]
      show (if acc.length < big then compR f (acc ++ [y]) xs s1 else .stuck) = _
      rw [if_pos (by omega), e2, List.append_assoc]
      rfl
/-- a comprehension whose items are drawn -/
theorem compR_draw {f : PyData → S → RD.R (Option PyData)} {P : S → Prop} {Good : PyData → Prop} : ∀ (xs acc : List PyData) (s : S), P s → (∀ x ∈ xs, ∀ s, P s → ∃ y s', f x s = .ok (some y) s' ∧ Good y ∧ P s') → acc.length + xs.length ≤ big →
    ∃ ys s', compR f acc xs s = .ok (acc ++ ys) s' ∧ ys.length = xs.length ∧ (∀ y ∈ ys, Good y) ∧ P s'
  | [], acc, s, h, _, _ => ⟨[], s, by simp [compR], rfl, fun y hy => (by cases hy), h⟩
  | x :: xs, acc, s, h, k, hl => by
    obtain ⟨y, s1, e1, gy, h1⟩ := k x (List.mem_cons_self ..) s h
    have hl' : acc.length + (xs.length + 1) ≤ big := hl
    obtain ⟨ys, s2, e2, n2, g2, h2⟩ := compR_draw xs (acc ++ [y]) s1 h1 (fun z hz => k z (List.mem_cons_of_mem _ hz)) (by rw [List.length_append]; simp; omega)
    refine ⟨y :: ys, s2, ?_, by simp [n2], fun z hz => ?_, h2⟩
    · show (f x s).bind _ = _
      rw [e1]
      show (if acc.length < big then compR f (acc ++ [y]) xs s1 else .stuck) = _
      rw [if_pos (by omega), e2, List.append_assoc]
      rfl
    · rcases List.mem_cons.mp hz with rfl | hz
      · exact gy
      · exact g2 z hz
section
variable {i : Nat} {it c e : T} {rho : List Slot} {q : Bag} {xs : List PyData}
/-- [e for i in it] -/
theorem comp_all {f : PyData → PyData} (hi : evI it ⟨rho, q⟩ = .ok xs ⟨rho, q⟩) (hl : xs.length ≤ big) (he : ∀ x ∈ xs, ev e ⟨rho.set i (.val (.d x)), q⟩ = .ok (.d (f x)) ⟨rho.set i (.val (.d x)), q⟩) :
    ev (.comp [i] (.tname i) it .yes e) ⟨rho, q⟩ = .ok (.d (.list (xs.map f))) ⟨rho.set i .un, q⟩ := by
  show (R.bind (evI it _) _) = _
  rw [hi]
  obtain ⟨s', e1, v, rfl⟩ := compR_ok (f := fun x s => (R.ofS (asgT (.tname i) x ⟨wipeS s.rho [i], s.bag⟩)).bind fun _ s => (ev .yes s).tst fun k s => if k = true then (ev e s).dat fun y s => .ok (some y) s else .ok none s)
    (P := fun s => ∃ v, s = ⟨rho.set i v, q⟩) (g := fun x => some (f x)) xs [] ⟨rho.set i (rho.getD i .un), q⟩ ⟨_, rfl⟩ (fun x hx s ⟨v, hs⟩ => by
      subst hs
      refine ⟨⟨rho.set i (.val (.d x)), q⟩, ?_, _, rfl⟩
      have h := he x hx
      show (ev e ⟨((rho.set i v).set i .un).set i (.val (.d x)), q⟩).dat _ = _
      rw [List.set_set, List.set_set, h]
      rfl) (by simpa using hl)
  have e0 : rho.set i (rho.getD i .un) = rho := by
    by_cases h : i < rho.length
    · rw [List.getD_eq_getElem?_getD, List.getElem?_eq_getElem h]
      simp
    · rw [List.set_eq_of_length_le (by omega)]
  rw [e0] at e1
  show (match compR _ [] xs ⟨rho, q⟩ with
    | .ok ys s => R.ok (U.d (.list ys)) ⟨wipeS s.rho [i], s.bag⟩
    | _ => .stuck) = _
  rw [e1, List.nil_append, show xs.filterMap (fun x => some (f x)) = xs.map f by simp]
  show R.ok (U.d (.list (xs.map f))) ⟨(rho.set i v).set i .un, q⟩ = _
  rw [List.set_set]
/-- [e for i in it if c] -/
theorem comp_if {f : PyData → PyData} {p : PyData → Bool} (hi : evI it ⟨rho, q⟩ = .ok xs ⟨rho, q⟩) (hl : xs.length ≤ big) (hc : ∀ x ∈ xs, ev c ⟨rho.set i (.val (.d x)), q⟩ = .ok (.d (.bool (p x))) ⟨rho.set i (.val (.d x)), q⟩)
    (he : ∀ x ∈ xs, p x = true → ev e ⟨rho.set i (.val (.d x)), q⟩ = .ok (.d (f x)) ⟨rho.set i (.val (.d x)), q⟩) :
    ev (.comp [i] (.tname i) it c e) ⟨rho, q⟩ = .ok (.d (.list ((xs.filter p).map f))) ⟨rho.set i .un, q⟩ := by
  show (R.bind (evI it _) _) = _
  rw [hi]
  obtain ⟨s', e1, v, rfl⟩ := compR_ok (f := fun x s => (R.ofS (asgT (.tname i) x ⟨wipeS s.rho [i], s.bag⟩)).bind fun _ s => (ev c s).tst fun k s => if k = true then (ev e s).dat fun y s => .ok (some y) s else .ok none s)
    (P := fun s => ∃ v, s = ⟨rho.set i v, q⟩) (g := fun x => if p x = true then some (f x) else none) xs [] ⟨rho.set i (rho.getD i .un), q⟩ ⟨_, rfl⟩ (fun x hx s ⟨v, hs⟩ => by
      subst hs
      refine ⟨⟨rho.set i (.val (.d x)), q⟩, ?_, _, rfl⟩
      show (ev c ⟨((rho.set i v).set i .un).set i (.val (.d x)), q⟩).tst _ = _
      rw [List.set_set, List.set_set, hc x hx]
      show (if p x = true then (ev e ⟨rho.set i (.val (.d x)), q⟩).dat _ else _) = _
      by_cases h : p x = true
      · rw [if_pos h, if_pos h, he x hx h]
        rfl
      · rw [if_neg h, if_neg h]) (by simpa using hl)
  have e0 : rho.set i (rho.getD i .un) = rho := by
    by_cases h : i < rho.length
    · rw [List.getD_eq_getElem?_getD, List.getElem?_eq_getElem h]
      simp
    · rw [List.set_eq_of_length_le (by omega)]
  rw [e0] at e1
  show (match compR _ [] xs ⟨rho, q⟩ with
    | .ok ys s => R.ok (U.d (.list ys)) ⟨wipeS s.rho [i], s.bag⟩
    | _ => .stuck) = _
  have e2 : xs.filterMap (fun x => if p x = true then some (f x) else none) = (xs.filter p).map f := by
    clear hi hl hc he e1
    induction xs with
    | nil => rfl
    | cons x xs ih =>
      by_cases h : p x = true
      · simp [h, ih]
      · simp [h, ih]
  rw [e1, List.nil_append, e2]
  show R.ok (U.d (.list ((xs.filter p).map f))) ⟨(rho.set i v).set i .un, q⟩ = _
  rw [List.set_set]
/-- [a drawn thing for i in it] -/
theorem comp_draw {Good : PyData → Prop} {x y : Int} (hi : ∃ x' y', evI it ⟨rho, some (x, y)⟩ = .ok xs ⟨rho, some (x', y')⟩) (hl : xs.length ≤ big)
    (he : ∀ z ∈ xs, ∀ x y, ∃ w x' y', Good w ∧ ev e ⟨rho.set i (.val (.d z)), some (x, y)⟩ = .ok (.d w) ⟨rho.set i (.val (.d z)), some (x', y')⟩) :
    ∃ ys x' y', ys.length = xs.length ∧ (∀ w ∈ ys, Good w) ∧ ev (.comp [i] (.tname i) it .yes e) ⟨rho, some (x, y)⟩ = .ok (.d (.list ys)) ⟨rho.set i .un, some (x', y')⟩ := by
  obtain ⟨x1, y1, hi⟩ := hi
  obtain ⟨ys, s', e1, n1, g1, v, x2, y2, rfl⟩ := compR_draw (f := fun x s => (R.ofS (asgT (.tname i) x ⟨wipeS s.rho [i], s.bag⟩)).bind fun _ s => (ev .yes s).tst fun k s => if k = true then (ev e s).dat fun y s => .ok (some y) s else .ok none s)
    (P := fun s => ∃ v x y, s = ⟨rho.set i v, some (x, y)⟩) (Good := Good) xs [] ⟨rho.set i (rho.getD i .un), some (x1, y1)⟩ ⟨_, _, _, rfl⟩ (fun z hz s ⟨v, x, y, hs⟩ => by
      subst hs
      obtain ⟨w, x', y', gw, h⟩ := he z hz x y
      refine ⟨w, ⟨rho.set i (.val (.d z)), some (x', y')⟩, ?_, gw, _, _, _, rfl⟩
      show (ev e ⟨((rho.set i v).set i .un).set i (.val (.d z)), some (x, y)⟩).dat _ = _
      rw [List.set_set, List.set_set, h]
      rfl) (by simpa using hl)
  have e0 : rho.set i (rho.getD i .un) = rho := by
    by_cases h : i < rho.length
    · rw [List.getD_eq_getElem?_getD, List.getElem?_eq_getElem h]
      simp
    · rw [List.set_eq_of_length_le (by omega)]
  rw [e0] at e1
  refine ⟨ys, x2, y2, n1, g1, ?_⟩
  show (R.bind (evI it _) _) = _
  rw [hi]
  show (match compR _ [] xs ⟨rho, some (x1, y1)⟩ with
    | .ok ys s => R.ok (U.d (.list ys)) ⟨wipeS s.rho [i], s.bag⟩
    | _ => .stuck) = _
  rw [e1]
  show R.ok (U.d (.list ys)) ⟨(rho.set i v).set i .un, some (x2, y2)⟩ = _
  rw [List.set_set]
end
section
variable {a b it : T} {s s' s1 : S} {i : Nat} {xs : List PyData} {u : U}
theorem seq_nx (h : ex a s = .ok .nx s') : ex (.seq a b) s = ex b s' := by
  show (ex a s).bind _ = _
  rw [h]
  rfl
theorem seq_rt (h : ex a s = .ok (.rt u) s') : ex (.seq a b) s = .ok (.rt u) s' := by
  show (ex a s).bind _ = _
  rw [h]
  rfl
/-- a walk that keeps a frame -/
theorem loop_ok {P : S → Prop} (hi : evI it s = .ok xs s1) (h0 : P s1) (hs : ∀ x ∈ xs, ∀ s, P s → ∃ s', ex b (s.set i x) = .ok .nx s' ∧ P s') : ∃ s', ex (.loop (.tname i) it b) s = .ok .nx s' ∧ P s' := by
  obtain ⟨s', h1, h2⟩ := forR_inv (f := fun x s => (R.ofS (asgT (.tname i) x s)).bind fun _ s => ex b s) (P := P) xs s1 h0 fun x hx s h => hs x hx s h
  refine ⟨s', ?_, h2⟩
  show (evI it s).bind _ = _
  rw [hi]
  exact h1
end
/-! ### the bag's frame -/
def nb1 : Slot → Slot
  | .val .bag => .un
  | x => x
theorem noBag_map : ∀ r : List Slot, noBag r = r.map nb1
  | [] => rfl
  | .val .bag :: r => congrArg _ (noBag_map r)
  | .val (.d _) :: r => congrArg _ (noBag_map r)
  | .val (.scr _) :: r => congrArg _ (noBag_map r)
  | .un :: r => congrArg _ (noBag_map r)
  | .ol _ :: r => congrArg _ (noBag_map r)
@[simp] theorem nb1_d (x : PyData) : nb1 (.val (.d x)) = .val (.d x) := rfl
@[simp] theorem nb1_s (ns : List Int) : nb1 (.val (.scr ns)) = .val (.scr ns) := rfl
@[simp] theorem nb1_b : nb1 (.val .bag) = .un := rfl
theorem bagged_ok {j : Nat} {x : Str} {g : G} {a body : T} {rho : List Slot} {us : List U} {p q : Int} {s' : S} (ha : evA a ⟨rho, none⟩ = .ok us ⟨rho, none⟩) (hg : g us none = .ok (.d (.list [.int p, .int q])) none) (hb : ex body ⟨(noBag rho).set j (.val .bag), some (p, q)⟩ = .ok .nx s') :
    ex (.bagged j x g a body) ⟨rho, none⟩ = .ok .nx ⟨noBag s'.rho, none⟩ := by
  show (evA a _).bind _ = _
  rw [ha]
  show (match g us none, (none : Bag) with
    | .ok (.d (.list [.int x, .int y])) none, none => (match ex body ⟨(noBag rho).set j (.val .bag), some (x, y)⟩ with
      | .ok .nx s => R.ok Out.nx ⟨noBag s.rho, none⟩
      | .ok (.rt (.d u)) s => .ok (.rt (.d u)) ⟨noBag s.rho, none⟩
      | _ => .stuck)
    | _, _ => .stuck) = _
  rw [hg]
  show (match ex body ⟨(noBag rho).set j (.val .bag), some (p, q)⟩ with
      | .ok .nx s => R.ok Out.nx ⟨noBag s.rho, none⟩
      | .ok (.rt (.d u)) s => .ok (.rt (.d u)) ⟨noBag s.rho, none⟩
      | _ => .stuck) = _
  rw [hb]
/-! ### comparing -/
theorem lay_all : ∀ {xs : List PyData}, (∀ x ∈ xs, x.canLay0 = true) → PyData.canLayAll0 xs = true
  | [], _ => by simp [PyData.canLayAll0]
  | x :: xs, h => by
    rw [PyData.canLayAll0, h x List.mem_cons_self, lay_all fun y hy => h y (List.mem_cons_of_mem _ hy)]
    rfl
theorem depth_all {n : Nat} : ∀ {xs : List PyData}, (∀ x ∈ xs, x.depth ≤ n) → PyData.depthAll xs ≤ n
  | [], _ => by simp [PyData.depthAll]
  | x :: xs, h => by
    have h1 := h x List.mem_cons_self
    have h2 := depth_all (n := n) fun y hy => h y (List.mem_cons_of_mem _ hy)
    rw [PyData.depthAll]
    omega
theorem shaped_list {n : Nat} {xs : List PyData} (h1 : ∀ x ∈ xs, x.canLay0 = true) (h2 : ∀ x ∈ xs, x.depth ≤ n) (hn : n < 64) : SeqAt.shaped (.list xs) = true := by
  unfold SeqAt.shaped
  have d := depth_all h2
  have e1 : (PyData.list xs).canLay0 = true := by rw [PyData.canLay0]; exact lay_all h1
  have e2 : (PyData.list xs).depth ≤ 64 := by rw [PyData.depth]; omega
  rw [e1, decide_eq_true e2]
  rfl
theorem shaped_tup {n : Nat} {xs : List PyData} (h1 : ∀ x ∈ xs, x.canLay0 = true) (h2 : ∀ x ∈ xs, x.depth ≤ n) (hn : n < 64) : SeqAt.shaped (.tuple xs) = true := by
  unfold SeqAt.shaped
  have d := depth_all h2
  have e1 : (PyData.tuple xs).canLay0 = true := by rw [PyData.canLay0]; exact lay_all h1
  have e2 : (PyData.tuple xs).depth ≤ 64 := by rw [PyData.depth]; omega
  rw [e1, decide_eq_true e2]
  rfl
theorem eq_self {x : PyData} (h : SeqAt.shaped x = true) : cmpop .eq x x = some true := by
  show (if (SeqAt.shaped x && SeqAt.shaped x) = true then some (PyData.eqv x x) else none) = _
  rw [h, SeqAt.eqv_refl x (SeqAt.canLay_of_shaped h)]
  rfl
theorem ne_self {x : PyData} (h : SeqAt.shaped x = true) : cmpop .ne x x = some false := by
  show (if (SeqAt.shaped x && SeqAt.shaped x) = true then some (!PyData.eqv x x) else none) = _
  rw [h, SeqAt.eqv_refl x (SeqAt.canLay_of_shaped h)]
  rfl
theorem shaped_ints (ns : List Int) : SeqAt.shaped (.list (ns.map PyData.int)) = true := shaped_list (n := 0) (fun x hx => by
  obtain ⟨i, _, rfl⟩ := List.mem_map.mp hx
  simp [PyData.canLay0]) (fun x hx => by
  obtain ⟨i, _, rfl⟩ := List.mem_map.mp hx
  simp [PyData.depth]) (by decide)
theorem uniq_len : ∀ ds : List PyData, (uniqD ds).length ≤ ds.length
  | [] => Nat.le_refl _
  | x :: r => by
    have ins : ∀ l : List PyData, (insD x l).length ≤ l.length + 1 := by
      intro l
      induction l with
      | nil => exact Nat.le_refl _
      | cons y l ih =>
        unfold insD
        split
        · exact Nat.le_refl _
        · split
          · exact Nat.succ_le_succ ih
          · exact Nat.le_succ _
    exact Nat.le_trans (ins _) (Nat.succ_le_succ (uniq_len r))
theorem setOk_ints {ns : List Int} (h : ns.length < 64) : uniqOk (ns.map PyData.int) = true := by
  have h1 : (ns.map PyData.int).all isIntD = true := by simp [isIntD]
  unfold uniqOk setOk
  rw [h1]
  simp [h]
theorem uniqop_ints {ns : List Int} (h : ns.length < 64) : uniqop (.list (ns.map PyData.int)) = some (.list (uniqD (ns.map PyData.int))) := by
  show (if uniqOk _ = true then _ else _) = _
  rw [setOk_ints h]
  rfl
/-- what sorted(set) makes of numbers are numbers -/
theorem uniq_ints_of (ns : List Int) : ∃ ms : List Int, uniqD (ns.map PyData.int) = ms.map PyData.int ∧ ∀ k, k ∈ ms ↔ k ∈ ns := by
  have m := uniq_mem (ints_alike ns)
  have all : (uniqD (ns.map PyData.int)).all isIntD = true := List.all_eq_true.mpr fun x hx => by
    obtain ⟨i, _, rfl⟩ := List.mem_map.mp ((m x).mp hx)
    rfl
  obtain ⟨ms, e⟩ := ints_eq all
  refine ⟨ms, e, fun k => ?_⟩
  have h := m (.int k)
  rw [e] at h
  simpa using h
end RD
set_option Elab.async false
set_option linter.all false
set_option maxRecDepth 100000
set_option maxHeartbeats 4000000
/-! PgA: the defs that several laws share, as trees, printed by genpg.py. -/
namespace PG
open PySem L2 RD
def k_NAME : PyData := .str "name"
def k_THIS : PyData := .str "this"
def k_NEXT : PyData := .str "next"
def k_LAST : PyData := .str "last"
def k_IN : PyData := .str "in"
def k_AFTER : PyData := .str "after"
def k_BEFORE : PyData := .str "before"
def k_WEEK : PyData := .str "week"
def k_NAMED : PyData := .tuple [.str "name", .str "this", .str "next", .str "last"]
def k_AROUND : PyData := .tuple [.str "after", .str "before", .str "week"]
def k_BEGINS : PyData := .tuple [.int 0, .int 5, .int 6]
def k_OWN : PyData := .tuple [.str "later", .str "now"]
def k_NEXTS : PyData := .tuple [.str "coming", .str "second", .str "week"]
def k_COUNTS : PyData := .tuple [.str "from", .str "with"]
def k_MOST_WORDS : PyData := .int 4
def k_MOST_DAYS : PyData := .int 15
def k_MOST_TELLINGS : PyData := .int 30
def t_is_number : T := .seq (.ret (.and (.isi .isInt (.var 0)) (.one (.not (.isi .isBool (.var 0)))))) (.nil)
def g_is_number : G := run (t_is_number) 1 1
def t_is_from (g_is_number : G) : T := .seq (.ret (.and (.call "is_number" g_is_number (.acons (.var 0) .anil)) (.one (.chain .le .le (.var 1) (.var 0) (.var 2))))) (.nil)
def g_is_from : G := run (t_is_from g_is_number) 3 3
def t_is_word : T := .seq (.ret (.and (.isi .isStr (.var 0)) (.one (.cmp .isin (.var 0) (.var 1))))) (.nil)
def g_is_word : G := run (t_is_word) 2 2
def t_is_habit (g_is_number : G) (g_is_word : G) : T := .seq (.iff (.or (.not (.isi .isTuple (.var 0))) (.or (.cmp .ne (.blt .len (.acons (.var 0) .anil)) (.cst (.int 4))) (.or (.not (.call "is_number" g_is_number (.acons (.idx (.var 0) (.cst (.int 0))) .anil))) (.one (.cmp .notin (.idx (.var 0) (.cst (.int 0))) (.glob "BEGINS" k_BEGINS)))))) (.seq (.ret (.cst (.bool false))) (.nil)) (.nil)) (.seq (.ret (.and (.call "is_word" g_is_word (.acons (.idx (.var 0) (.cst (.int 1))) (.acons (.glob "OWN" k_OWN) .anil))) (.and (.call "is_word" g_is_word (.acons (.idx (.var 0) (.cst (.int 2))) (.acons (.glob "NEXTS" k_NEXTS) .anil))) (.one (.call "is_word" g_is_word (.acons (.idx (.var 0) (.cst (.int 3))) (.acons (.glob "COUNTS" k_COUNTS) .anil))))))) (.nil))
def g_is_habit : G := run (t_is_habit g_is_number g_is_word) 1 1
def c_is_lot_1 (g_is_habit : G) : T := .comp [1] (.tname 1) (.itt (.var 0)) .yes (.call "is_habit" g_is_habit (.acons (.var 1) .anil))
def t_is_lot (g_is_habit : G) : T := .seq (.iff (.or (.not (.isi .isTuple (.var 0))) (.or (.not (.chain .le .le (.cst (.int 1)) (.blt .len (.acons (.var 0) .anil)) (.cst (.int 8)))) (.one (.not (.blt .all (.acons ((c_is_lot_1 g_is_habit)) .anil)))))) (.seq (.ret (.cst (.bool false))) (.nil)) (.nil)) (.seq (.ret (.cmp .eq (.blt .list (.acons (.var 0) .anil)) (.uniq (.var 0)))) (.nil))
def g_is_lot : G := run (t_is_lot g_is_habit) 1 2
def t_is_phrase_of (g_is_phrase_of : G) (g_is_from : G) : T := .seq (.iff (.or (.not (.isi .isTuple (.var 0))) (.or (.cmp .ne (.blt .len (.acons (.var 0) .anil)) (.cst (.int 2))) (.or (.not (.isi .isStr (.idx (.var 0) (.cst (.int 0))))) (.one (.cmp .eq (.var 1) (.cst (.int 0))))))) (.seq (.ret (.cst (.bool false))) (.nil)) (.nil)) (.seq (.iff (.cmp .isin (.idx (.var 0) (.cst (.int 0))) (.glob "AROUND" k_AROUND)) (.seq (.ret (.call "is_phrase_of" g_is_phrase_of (.acons (.idx (.var 0) (.cst (.int 1))) (.acons (.bin .sub (.var 1) (.cst (.int 1))) .anil)))) (.nil)) (.nil)) (.seq (.iff (.cmp .eq (.idx (.var 0) (.cst (.int 0))) (.glob "IN" k_IN)) (.seq (.ret (.call "is_from" g_is_from (.acons (.idx (.var 0) (.cst (.int 1))) (.acons (.cst (.int 1)) (.acons (.glob "MOST_DAYS" k_MOST_DAYS) .anil))))) (.nil)) (.nil)) (.seq (.ret (.and (.cmp .isin (.idx (.var 0) (.cst (.int 0))) (.glob "NAMED" k_NAMED)) (.one (.call "is_from" g_is_from (.acons (.idx (.var 0) (.cst (.int 1))) (.acons (.cst (.int 0)) (.acons (.cst (.int 6)) .anil))))))) (.nil))))
def g_is_phrase_of : Nat → G
  | 0 => fun _ _ => .stuck
  | n + 1 => run (t_is_phrase_of (g_is_phrase_of n) g_is_from) 2 2
def t_is_phrase (g_is_phrase_of : G) : T := .seq (.ret (.call "is_phrase_of" g_is_phrase_of (.acons (.var 0) (.acons (.glob "MOST_WORDS" k_MOST_WORDS) .anil)))) (.nil)
def g_is_phrase : G := run (t_is_phrase (g_is_phrase_of 6)) 1 1
def t_words_of (g_words_of : G) : T := .seq (.iff (.cmp .isin (.idx (.var 0) (.cst (.int 0))) (.glob "AROUND" k_AROUND)) (.seq (.ret (.bin .add (.lst (.acons (.idx (.var 0) (.cst (.int 0))) .anil)) (.call "words_of" g_words_of (.acons (.idx (.var 0) (.cst (.int 1))) .anil)))) (.nil)) (.nil)) (.seq (.ret (.lst (.acons (.idx (.var 0) (.cst (.int 0))) .anil))) (.nil))
def g_words_of : Nat → G
  | 0 => fun _ _ => .stuck
  | n + 1 => run (t_words_of (g_words_of n)) 1 1
def t_is_before (g_is_before : G) : T := .seq (.iff (.cmp .ne (.idx (.var 0) (.cst (.int 0))) (.idx (.var 1) (.cst (.int 0)))) (.seq (.ret (.cmp .lt (.idx (.var 0) (.cst (.int 0))) (.idx (.var 1) (.cst (.int 0))))) (.nil)) (.nil)) (.seq (.iff (.cmp .isin (.idx (.var 0) (.cst (.int 0))) (.glob "AROUND" k_AROUND)) (.seq (.ret (.call "is_before" g_is_before (.acons (.idx (.var 0) (.cst (.int 1))) (.acons (.idx (.var 1) (.cst (.int 1))) .anil)))) (.nil)) (.nil)) (.seq (.ret (.cmp .lt (.idx (.var 0) (.cst (.int 1))) (.idx (.var 1) (.cst (.int 1))))) (.nil)))
def g_is_before : Nat → G
  | 0 => fun _ _ => .stuck
  | n + 1 => run (t_is_before (g_is_before n)) 2 2
def c_are_ascending_1 (g_is_before : G) : T := .comp [1, 2] (.ttup (.acons (.tname 1) (.acons (.tname 2) (.anil)))) (.itz (.var 0) (.slc (.var 0) (.acons (.cst (.int 1)) .anil) .nopart)) .yes (.call "is_before" g_is_before (.acons (.var 1) (.acons (.var 2) .anil)))
def t_are_ascending (g_is_before : G) : T := .seq (.ret (.blt .all (.acons ((c_are_ascending_1 g_is_before)) .anil))) (.nil)
def g_are_ascending : G := run (t_are_ascending (g_is_before 6)) 1 3
def c_is_book_1 (g_is_phrase : G) : T := .comp [1] (.tname 1) (.itt (.var 0)) .yes (.call "is_phrase" g_is_phrase (.acons (.var 1) .anil))
def t_is_book (g_is_phrase : G) (g_are_ascending : G) : T := .seq (.iff (.or (.not (.isi .isTuple (.var 0))) (.or (.not (.chain .le .le (.cst (.int 1)) (.blt .len (.acons (.var 0) .anil)) (.cst (.int 8)))) (.one (.not (.blt .all (.acons ((c_is_book_1 g_is_phrase)) .anil)))))) (.seq (.ret (.cst (.bool false))) (.nil)) (.nil)) (.seq (.ret (.call "are_ascending" g_are_ascending (.acons (.var 0) .anil))) (.nil))
def g_is_book : G := run (t_is_book g_is_phrase g_are_ascending) 1 2
def t_need_phrase (g_is_phrase : G) : T := .seq (.iff (.not (.call "is_phrase" g_is_phrase (.acons (.var 0) .anil))) (.seq (.raise "InvalidPhrase" .nil) (.nil)) (.nil)) (.nil)
def g_need_phrase : G := run (t_need_phrase g_is_phrase) 1 1
def c_all_habits_there_are_1 : T := .comp [4] (.tname 4) (.itt (.glob "COUNTS" k_COUNTS)) .yes (.tup (.acons (.var 1) (.acons (.var 2) (.acons (.var 3) (.acons (.var 4) .anil)))))
def b_all_habits_there_are_2 : T := .seq (.asg (.tname 0) (.bin .add (.var 0) (c_all_habits_there_are_1))) (.nil)
def b_all_habits_there_are_3 : T := .seq (.loop (.tname 3) (.itt (.glob "NEXTS" k_NEXTS)) b_all_habits_there_are_2) (.nil)
def b_all_habits_there_are_4 : T := .seq (.loop (.tname 2) (.itt (.glob "OWN" k_OWN)) b_all_habits_there_are_3) (.nil)
def t_all_habits_there_are : T := .seq (.asg (.tname 0) (.lst (.anil))) (.seq (.loop (.tname 1) (.itt (.glob "BEGINS" k_BEGINS)) b_all_habits_there_are_4) (.seq (.ret (.var 0)) (.nil)))
def g_all_habits_there_are : G := run (t_all_habits_there_are) 0 5
def t_all_habits (g_all_habits_there_are : G) : T := .seq (.ret (.call "all_habits_there_are" g_all_habits_there_are (.anil))) (.nil)
def g_all_habits : G := run (t_all_habits g_all_habits_there_are) 0 0
def t_words (g_need_phrase : G) (g_words_of : G) : T := .seq (.drop (.call "need_phrase" g_need_phrase (.acons (.var 0) .anil))) (.seq (.ret (.call "words_of" g_words_of (.acons (.var 0) .anil))) (.nil))
def g_words : G := run (t_words g_need_phrase (g_words_of 6)) 1 1
def t__law_bag : T := .seq (.asg (.tname 2) (.ite (.cmp .lt (.var 1) (.lenS 0)) (.blt .abs (.acons (.blt .int (.acons (.sat 0 (.var 1)) .anil)) .anil)) (.bin .add (.bin .mul (.cst (.int 59)) (.var 1)) (.cst (.int 19))))) (.seq (.ret (.lst (.acons (.ite (.cmp .ge (.var 2) (.bin .pow (.cst (.int 10)) (.cst (.int 18)))) (.var 2) (.cst (.int 0))) (.acons (.bin .mod (.blt .int (.acons (.bin .add (.bin .add (.bin .mod (.blt .int (.acons (.var 2) .anil)) (.cst (.int 2147483353))) (.bin .mul (.cst (.int 80021)) (.var 1))) (.cst (.int 41))) .anil)) (.cst (.int 2147483353))) .anil)))) (.nil))
def g__law_bag : G := run (t__law_bag) 2 3
def t__law_take : T := .seq (.iff (.cmp .gt (.bget 0 0) (.cst (.int 0))) (.seq (.asg (.tname 2) (.bin .mod (.blt .int (.acons (.bget 0 0) .anil)) (.var 1))) (.seq (.bset 0 0 (.bin .fdiv (.blt .int (.acons (.bget 0 0) .anil)) (.var 1))) (.seq (.ret (.var 2)) (.nil)))) (.nil)) (.seq (.bset 0 1 (.bin .mod (.blt .int (.acons (.bin .add (.bin .mul (.bget 0 1) (.cst (.int 39373))) (.cst (.int 307))) .anil)) (.cst (.int 2147483353)))) (.seq (.asg (.tname 3) (.bin .mod (.bin .mul (.blt .int (.acons (.bget 0 1) .anil)) (.bin .add (.bin .fdiv (.blt .int (.acons (.bget 0 1) .anil)) (.cst (.int 11))) (.cst (.int 29)))) (.cst (.int 2147483323)))) (.seq (.ret (.bin .mod (.blt .int (.acons (.bin .fdiv (.blt .int (.acons (.var 3) .anil)) (.cst (.int 13))) .anil)) (.var 1))) (.nil))))
def g__law_take : G := run (t__law_take) 2 4
def t__law_of (g__law_take : G) : T := .seq (.ret (.idx (.var 1) (.call "_law_take" g__law_take (.acons (.var 0) (.acons (.blt .len (.acons (.var 1) .anil)) .anil))))) (.nil)
def g__law_of : G := run (t__law_of g__law_take) 2 2
def t__law_habit (g__law_of : G) : T := .seq (.par [1, 2] (.acons (.call "_law_of" g__law_of (.acons (.var 0) (.acons (.lst (.acons (.cst (.int 0)) (.acons (.cst (.int 5)) (.acons (.cst (.int 6)) .anil)))) .anil))) (.acons (.call "_law_of" g__law_of (.acons (.var 0) (.acons (.lst (.acons (.cst (.str "now")) (.acons (.cst (.str "later")) .anil))) .anil))) .anil))) (.seq (.ret (.tup (.acons (.var 1) (.acons (.var 2) (.acons (.call "_law_of" g__law_of (.acons (.var 0) (.acons (.lst (.acons (.cst (.str "coming")) (.acons (.cst (.str "second")) (.acons (.cst (.str "week")) .anil)))) .anil))) (.acons (.call "_law_of" g__law_of (.acons (.var 0) (.acons (.lst (.acons (.cst (.str "from")) (.acons (.cst (.str "with")) .anil))) .anil))) .anil)))))) (.nil))
def g__law_habit : G := run (t__law_habit g__law_of) 1 3
def c__law_lot_1 (g__law_take : G) (g__law_habit : G) : T := .comp [2] (.tname 2) (.itr1 (.bin .add (.cst (.int 1)) (.call "_law_take" g__law_take (.acons (.var 0) (.acons (.var 1) .anil))))) .yes (.call "_law_habit" g__law_habit (.acons (.var 0) .anil))
def t__law_lot (g__law_take : G) (g__law_habit : G) : T := .seq (.ret (.blt .tuple (.acons (.uniq ((c__law_lot_1 g__law_take g__law_habit))) .anil))) (.nil)
def g__law_lot : G := run (t__law_lot g__law_take g__law_habit) 2 3
def t__law_phrase (g__law_take : G) (g__law_phrase : G) (g__law_of : G) : T := .seq (.iff (.and (.cmp .gt (.var 1) (.cst (.int 1))) (.one (.cmp .eq (.call "_law_take" g__law_take (.acons (.var 0) (.acons (.cst (.int 3)) .anil))) (.cst (.int 0))))) (.seq (.ret (.tup (.acons (.call "_law_of" g__law_of (.acons (.var 0) (.acons (.lst (.acons (.cst (.str "after")) (.acons (.cst (.str "before")) (.acons (.cst (.str "week")) .anil)))) .anil))) (.acons (.call "_law_phrase" g__law_phrase (.acons (.var 0) (.acons (.bin .sub (.var 1) (.cst (.int 1))) .anil))) .anil)))) (.nil)) (.nil)) (.seq (.asg (.tname 2) (.call "_law_of" g__law_of (.acons (.var 0) (.acons (.lst (.acons (.cst (.str "name")) (.acons (.cst (.str "this")) (.acons (.cst (.str "next")) (.acons (.cst (.str "next")) (.acons (.cst (.str "last")) (.acons (.cst (.str "in")) .anil))))))) .anil)))) (.seq (.ret (.ite (.cmp .eq (.var 2) (.cst (.str "in"))) (.tup (.acons (.var 2) (.acons (.bin .add (.cst (.int 1)) (.call "_law_take" g__law_take (.acons (.var 0) (.acons (.cst (.int 15)) .anil)))) .anil))) (.tup (.acons (.var 2) (.acons (.call "_law_take" g__law_take (.acons (.var 0) (.acons (.cst (.int 7)) .anil))) .anil))))) (.nil)))
def g__law_phrase : Nat → G
  | 0 => fun _ _ => .stuck
  | n + 1 => run (t__law_phrase g__law_take (g__law_phrase n) g__law_of) 2 3
def t__law_words (g__law_words : G) : T := .seq (.iff (.cmp .isin (.idx (.var 0) (.cst (.int 0))) (.lst (.acons (.cst (.str "after")) (.acons (.cst (.str "before")) (.acons (.cst (.str "week")) .anil))))) (.seq (.asg (.ttup (.acons (.tname 1) (.acons (.tname 2) (.anil)))) (.call "_law_words" g__law_words (.acons (.idx (.var 0) (.cst (.int 1))) .anil))) (.seq (.ret (.tup (.acons (.bin .add (.lst (.acons (.idx (.var 0) (.cst (.int 0))) .anil)) (.var 1)) (.acons (.var 2) .anil)))) (.nil))) (.nil)) (.seq (.ret (.tup (.acons (.lst (.acons (.idx (.var 0) (.cst (.int 0))) .anil)) (.acons (.idx (.var 0) (.cst (.int 1))) .anil)))) (.nil))
def g__law_words : Nat → G
  | 0 => fun _ _ => .stuck
  | n + 1 => run (t__law_words (g__law_words n)) 1 3
def b__law_made__t_1 : T := .seq (.asg (.tname 2) (.tup (.acons (.var 3) (.acons (.var 2) .anil)))) (.nil)
def t__law_made__t : T := .seq (.asg (.tname 2) (.tup (.acons (.idx (.var 0) (.neg (.cst (.int 1)))) (.acons (.var 1) .anil)))) (.seq (.loop (.tname 3) (.itt (.rev (.slc (.var 0) .nopart (.acons (.neg (.cst (.int 1))) .anil)))) b__law_made__t_1) (.seq (.ret (.var 2)) (.nil)))
def g__law_made__t : G := run (t__law_made__t) 2 4
def c__law_sorted_1 (g__law_words : G) : T := .comp [2] (.tname 2) (.itl (.var 0)) .yes (.tup (.acons (.blt .tuple (.acons (.idx (.call "_law_words" g__law_words (.acons (.var 2) .anil)) (.cst (.int 0))) .anil)) (.acons (.idx (.call "_law_words" g__law_words (.acons (.var 2) .anil)) (.cst (.int 1))) .anil)))
def c__law_sorted_2 (g__law_made__t : G) : T := .comp [3, 4] (.ttup (.acons (.tname 3) (.acons (.tname 4) (.anil)))) (.itl (.var 1)) .yes (.call "_law_made" g__law_made__t (.acons (.var 3) (.acons (.var 4) .anil)))
def t__law_sorted (g__law_words : G) (g__law_made__t : G) : T := .seq (.asg (.tname 1) (.uniq ((c__law_sorted_1 g__law_words)))) (.seq (.ret (.blt .tuple (.acons ((c__law_sorted_2 g__law_made__t)) .anil))) (.nil))
def g__law_sorted : G := run (t__law_sorted (g__law_words 6) g__law_made__t) 1 5
def b__law_book_1 (g__law_take : G) (g__law_phrase : G) (g__law_of : G) : T := .seq (.asg (.tname 5) (.call "_law_take" g__law_take (.acons (.var 0) (.acons (.cst (.int 3)) .anil)))) (.seq (.asg (.tname 6) (.ite (.cmp .eq (.var 5) (.cst (.int 0))) (.call "_law_phrase" g__law_phrase (.acons (.var 0) (.acons (.cst (.int 2)) .anil))) (.tup (.acons (.call "_law_of" g__law_of (.acons (.var 0) (.acons (.lst (.acons (.cst (.str "name")) (.acons (.cst (.str "next")) (.acons (.cst (.str "this")) .anil)))) .anil))) (.acons (.var 2) .anil))))) (.seq (.app 3 (.ite (.cmp .eq (.var 5) (.cst (.int 1))) (.call "_law_of" g__law_of (.acons (.var 0) (.acons (.lst (.acons (.tup (.acons (.cst (.str "in")) (.acons (.cst (.int 7)) .anil))) (.acons (.tup (.acons (.cst (.str "in")) (.acons (.cst (.int 8)) .anil))) (.acons (.tup (.acons (.cst (.str "week")) (.acons (.var 6) .anil))) (.acons (.var 6) .anil))))) .anil))) (.var 6))) (.nil)))
def t__law_book (g__law_take : G) (g__law_phrase : G) (g__law_of : G) (g__law_sorted : G) : T := .seq (.parL 2 3 (.call "_law_take" g__law_take (.acons (.var 0) (.acons (.cst (.int 7)) .anil)))) (.seq (.loop (.tname 4) (.itr1 (.bin .add (.cst (.int 1)) (.call "_law_take" g__law_take (.acons (.var 0) (.acons (.var 1) .anil))))) (b__law_book_1 g__law_take g__law_phrase g__law_of)) (.seq (.ret (.call "_law_sorted" g__law_sorted (.acons (.var 3) .anil))) (.nil)))
def g__law_book : G := run (t__law_book g__law_take (g__law_phrase 4) g__law_of g__law_sorted) 2 7
def b__law_made_1 : T := .seq (.asg (.tname 2) (.tup (.acons (.var 3) (.acons (.var 2) .anil)))) (.nil)
def t__law_made : T := .seq (.asg (.tname 2) (.tup (.acons (.idx (.var 0) (.neg (.cst (.int 1)))) (.acons (.var 1) .anil)))) (.seq (.loop (.tname 3) (.itl (.rev (.slc (.var 0) .nopart (.acons (.neg (.cst (.int 1))) .anil)))) b__law_made_1) (.seq (.ret (.var 2)) (.nil)))
def g__law_made : G := run (t__law_made) 2 4
def c__law_any_value_1 (g__law_take : G) (g__law_any_value : G) : T := .comp [5] (.tname 5) (.itr1 (.call "_law_take" g__law_take (.acons (.var 0) (.acons (.cst (.int 5)) .anil)))) .yes (.call "_law_any_value" g__law_any_value (.acons (.var 0) (.acons (.bin .sub (.var 1) (.cst (.int 1))) .anil)))
def t__law_any_value (g__law_take : G) (g__law_of : G) (g__law_any_value : G) : T := .seq (.asg (.tname 2) (.call "_law_take" g__law_take (.acons (.var 0) (.acons (.cst (.int 8)) .anil)))) (.seq (.iff (.or (.cmp .lt (.var 2) (.cst (.int 5))) (.one (.cmp .eq (.var 1) (.cst (.int 0))))) (.seq (.asg (.tname 3) (.lst (.acons (.cst (.int 0)) (.acons (.neg (.cst (.int 1))) (.acons (.cst (.int 1)) (.acons (.cst (.int 5)) (.acons (.cst (.int 6)) (.acons (.cst (.int 7)) (.acons (.cst (.int 15)) (.acons (.cst (.int 16)) (.acons (.cst (.bool true)) (.acons (.cst (.bool false)) (.acons (.cst .none) (.acons (.cst (.str "")) (.acons (.cst (.str "name")) (.acons (.cst (.str "next")) (.acons (.cst (.str "in")) (.acons (.cst (.str "week")) (.acons (.cst (.str "now")) (.acons (.bin .pow (.cst (.int 10)) (.cst (.int 30))) .anil)))))))))))))))))))) (.seq (.ret (.call "_law_of" g__law_of (.acons (.var 0) (.acons (.bin .add (.var 3) (.lst (.acons (.tup (.anil)) (.acons (.lst (.anil)) (.acons (.tup (.acons (.cst (.str "in")) (.acons (.cst (.int 3)) .anil))) (.acons (.tup (.acons (.cst (.str "this")) (.acons (.cst (.int 6)) .anil))) (.acons (.tup (.acons (.cst (.str "after")) (.acons (.tup (.acons (.cst (.str "in")) (.acons (.cst (.int 1)) .anil))) .anil))) (.acons (.tup (.acons (.cst (.int 0)) (.acons (.cst (.str "now")) (.acons (.cst (.str "week")) (.acons (.cst (.str "with")) .anil))))) .anil)))))))) .anil)))) (.nil))) (.nil)) (.seq (.asg (.tname 4) ((c__law_any_value_1 g__law_take g__law_any_value))) (.seq (.ret (.idx (.lst (.acons (.var 4) (.acons (.blt .tuple (.acons (.var 4) .anil)) (.acons (.blt .tuple (.acons (.var 4) .anil)) .anil)))) (.bin .sub (.var 2) (.cst (.int 5))))) (.nil))))
def g__law_any_value : Nat → G
  | 0 => fun _ _ => .stuck
  | n + 1 => run (t__law_any_value g__law_take g__law_of (g__law_any_value n)) 2 6
def t__law_spoiled (g__law_take : G) (g__law_any_value : G) (g__law_of : G) (g__law_spoiled : G) : T := .seq (.iff (.or (.not (.isi .isTuple (.var 1))) (.or (.cmp .eq (.var 1) (.tup (.anil))) (.one (.cmp .eq (.call "_law_take" g__law_take (.acons (.var 0) (.acons (.cst (.int 6)) .anil))) (.cst (.int 0)))))) (.seq (.asg (.tname 2) (.lst (.acons (.call "_law_any_value" g__law_any_value (.acons (.var 0) (.acons (.cst (.int 1)) .anil))) (.acons (.lst (.acons (.var 1) .anil)) .anil)))) (.seq (.iff (.isi .isStr (.var 1)) (.seq (.asg (.tname 2) (.bin .add (.var 2) (.lst (.acons (.bin .add (.var 1) (.cst (.str "s"))) (.acons (.cst (.str "later")) (.acons (.cst (.str "second")) (.acons (.cst (.str "from")) (.acons (.cst (.str "before")) (.acons (.cst (.str "last")) (.acons (.cst (.str "coming")) .anil)))))))))) (.nil)) (.nil)) (.seq (.iff (.isi .isInt (.var 1)) (.seq (.asg (.tname 2) (.bin .add (.var 2) (.lst (.acons (.bin .add (.var 1) (.cst (.int 1))) (.acons (.bin .sub (.var 1) (.cst (.int 1))) (.acons (.cst (.int 6)) (.acons (.cst (.int 0)) (.acons (.cst (.bool true)) .anil)))))))) (.nil)) (.nil)) (.seq (.ret (.call "_law_of" g__law_of (.acons (.var 0) (.acons (.var 2) .anil)))) (.nil))))) (.nil)) (.seq (.par [3, 4] (.acons (.call "_law_take" g__law_take (.acons (.var 0) (.acons (.blt .len (.acons (.var 1) .anil)) .anil))) (.acons (.call "_law_take" g__law_take (.acons (.var 0) (.acons (.cst (.int 8)) .anil))) .anil))) (.seq (.iff (.cmp .eq (.var 4) (.cst (.int 0))) (.seq (.ret (.bin .add (.slc (.var 1) .nopart (.acons (.var 3) .anil)) (.slc (.var 1) (.acons (.bin .add (.var 3) (.cst (.int 1))) .anil) .nopart))) (.nil)) (.nil)) (.seq (.iff (.cmp .eq (.var 4) (.cst (.int 1))) (.seq (.ret (.bin .add (.bin .add (.slc (.var 1) .nopart (.acons (.var 3) .anil)) (.bin .mul (.slc (.var 1) (.acons (.var 3) .anil) (.acons (.bin .add (.var 3) (.cst (.int 1))) .anil)) (.cst (.int 2)))) (.slc (.var 1) (.acons (.bin .add (.var 3) (.cst (.int 1))) .anil) .nopart))) (.nil)) (.nil)) (.seq (.iff (.cmp .eq (.var 4) (.cst (.int 2))) (.seq (.ret (.rev (.var 1))) (.nil)) (.nil)) (.seq (.iff (.cmp .eq (.var 4) (.cst (.int 3))) (.seq (.ret (.blt .list (.acons (.var 1) .anil))) (.nil)) (.nil)) (.seq (.ret (.bin .add (.bin .add (.slc (.var 1) .nopart (.acons (.var 3) .anil)) (.tup (.acons (.call "_law_spoiled" g__law_spoiled (.acons (.var 0) (.acons (.idx (.var 1) (.var 3)) .anil))) .anil))) (.slc (.var 1) (.acons (.bin .add (.var 3) (.cst (.int 1))) .anil) .nopart))) (.nil)))))))
def g__law_spoiled : Nat → G
  | 0 => fun _ _ => .stuck
  | n + 1 => run (t__law_spoiled g__law_take (g__law_any_value 3) g__law_of (g__law_spoiled n)) 2 5
def t__law_is_int : T := .seq (.ret (.and (.isi .isInt (.var 0)) (.and (.not (.isi .isBool (.var 0))) (.one (.chain .le .le (.var 1) (.var 0) (.var 2)))))) (.nil)
def g__law_is_int : G := run (t__law_is_int) 3 3
def t__law_among : T := .seq (.ret (.and (.isi .isStr (.var 0)) (.one (.cmp .isin (.var 0) (.var 1))))) (.nil)
def g__law_among : G := run (t__law_among) 2 2
def t__law_is_habit (g__law_is_int : G) (g__law_among : G) : T := .seq (.iff (.or (.not (.isi .isTuple (.var 0))) (.or (.cmp .ne (.blt .len (.acons (.var 0) .anil)) (.cst (.int 4))) (.or (.not (.call "_law_is_int" g__law_is_int (.acons (.idx (.var 0) (.cst (.int 0))) (.acons (.cst (.int 0)) (.acons (.cst (.int 6)) .anil))))) (.one (.cmp .isin (.idx (.var 0) (.cst (.int 0))) (.lst (.acons (.cst (.int 1)) (.acons (.cst (.int 2)) (.acons (.cst (.int 3)) (.acons (.cst (.int 4)) .anil)))))))))) (.seq (.ret (.cst (.bool false))) (.nil)) (.nil)) (.seq (.iff (.or (.not (.call "_law_among" g__law_among (.acons (.idx (.var 0) (.cst (.int 1))) (.acons (.lst (.acons (.cst (.str "now")) (.acons (.cst (.str "later")) .anil))) .anil)))) (.one (.not (.call "_law_among" g__law_among (.acons (.idx (.var 0) (.cst (.int 3))) (.acons (.lst (.acons (.cst (.str "from")) (.acons (.cst (.str "with")) .anil))) .anil)))))) (.seq (.ret (.cst (.bool false))) (.nil)) (.nil)) (.seq (.ret (.call "_law_among" g__law_among (.acons (.idx (.var 0) (.cst (.int 2))) (.acons (.lst (.acons (.cst (.str "coming")) (.acons (.cst (.str "second")) (.acons (.cst (.str "week")) .anil)))) .anil)))) (.nil)))
def g__law_is_habit : G := run (t__law_is_habit g__law_is_int g__law_among) 1 1
def t__law_is_phrase (g__law_is_phrase : G) (g__law_is_int : G) : T := .seq (.iff (.or (.cmp .eq (.var 1) (.cst (.int 0))) (.or (.not (.isi .isTuple (.var 0))) (.or (.cmp .ne (.blt .len (.acons (.var 0) .anil)) (.cst (.int 2))) (.one (.not (.isi .isStr (.idx (.var 0) (.cst (.int 0))))))))) (.seq (.ret (.cst (.bool false))) (.nil)) (.nil)) (.seq (.iff (.cmp .isin (.idx (.var 0) (.cst (.int 0))) (.lst (.acons (.cst (.str "after")) (.acons (.cst (.str "before")) (.acons (.cst (.str "week")) .anil))))) (.seq (.ret (.call "_law_is_phrase" g__law_is_phrase (.acons (.idx (.var 0) (.cst (.int 1))) (.acons (.bin .sub (.var 1) (.cst (.int 1))) .anil)))) (.nil)) (.nil)) (.seq (.iff (.cmp .eq (.idx (.var 0) (.cst (.int 0))) (.cst (.str "in"))) (.seq (.ret (.call "_law_is_int" g__law_is_int (.acons (.idx (.var 0) (.cst (.int 1))) (.acons (.cst (.int 1)) (.acons (.cst (.int 15)) .anil))))) (.nil)) (.nil)) (.seq (.ret (.and (.cmp .isin (.idx (.var 0) (.cst (.int 0))) (.lst (.acons (.cst (.str "name")) (.acons (.cst (.str "this")) (.acons (.cst (.str "next")) (.acons (.cst (.str "last")) .anil)))))) (.one (.call "_law_is_int" g__law_is_int (.acons (.idx (.var 0) (.cst (.int 1))) (.acons (.cst (.int 0)) (.acons (.cst (.int 6)) .anil))))))) (.nil))))
def g__law_is_phrase : Nat → G
  | 0 => fun _ _ => .stuck
  | n + 1 => run (t__law_is_phrase (g__law_is_phrase n) g__law_is_int) 2 2
def c__law_is_lot_1 (g__law_is_habit : G) : T := .comp [1] (.tname 1) (.itt (.var 0)) (.one (.not (.call "_law_is_habit" g__law_is_habit (.acons (.var 1) .anil)))) (.var 1)
def c__law_is_lot_2 : T := .comp [2] (.tname 2) (.itr1 (.bin .sub (.blt .len (.acons (.var 0) .anil)) (.cst (.int 1)))) (.one (.not (.cmp .lt (.idx (.var 0) (.var 2)) (.idx (.var 0) (.bin .add (.var 2) (.cst (.int 1))))))) (.var 2)
def t__law_is_lot (g__law_is_habit : G) : T := .seq (.iff (.or (.not (.isi .isTuple (.var 0))) (.one (.not (.chain .le .le (.cst (.int 1)) (.blt .len (.acons (.var 0) .anil)) (.cst (.int 8)))))) (.seq (.ret (.cst (.bool false))) (.nil)) (.nil)) (.seq (.iff (.cmp .ne ((c__law_is_lot_1 g__law_is_habit)) (.lst (.anil))) (.seq (.ret (.cst (.bool false))) (.nil)) (.nil)) (.seq (.ret (.cmp .eq (c__law_is_lot_2) (.lst (.anil)))) (.nil)))
def g__law_is_lot : G := run (t__law_is_lot g__law_is_habit) 1 3
def c__law_sorted__t_1 (g__law_words : G) : T := .comp [2] (.tname 2) (.itt (.var 0)) .yes (.tup (.acons (.blt .tuple (.acons (.idx (.call "_law_words" g__law_words (.acons (.var 2) .anil)) (.cst (.int 0))) .anil)) (.acons (.idx (.call "_law_words" g__law_words (.acons (.var 2) .anil)) (.cst (.int 1))) .anil)))
def c__law_sorted__t_2 (g__law_made__t : G) : T := .comp [3, 4] (.ttup (.acons (.tname 3) (.acons (.tname 4) (.anil)))) (.itl (.var 1)) .yes (.call "_law_made" g__law_made__t (.acons (.var 3) (.acons (.var 4) .anil)))
def t__law_sorted__t (g__law_words : G) (g__law_made__t : G) : T := .seq (.asg (.tname 1) (.uniq ((c__law_sorted__t_1 g__law_words)))) (.seq (.ret (.blt .tuple (.acons ((c__law_sorted__t_2 g__law_made__t)) .anil))) (.nil))
def g__law_sorted__t : G := run (t__law_sorted__t (g__law_words 6) g__law_made__t) 1 5
def c__law_is_book_1 (g__law_is_phrase : G) : T := .comp [1] (.tname 1) (.itt (.var 0)) (.one (.not (.call "_law_is_phrase" g__law_is_phrase (.acons (.var 1) (.acons (.cst (.int 4)) .anil))))) (.var 1)
def t__law_is_book (g__law_is_phrase : G) (g__law_sorted__t : G) : T := .seq (.iff (.or (.not (.isi .isTuple (.var 0))) (.one (.not (.chain .le .le (.cst (.int 1)) (.blt .len (.acons (.var 0) .anil)) (.cst (.int 8)))))) (.seq (.ret (.cst (.bool false))) (.nil)) (.nil)) (.seq (.iff (.cmp .ne ((c__law_is_book_1 g__law_is_phrase)) (.lst (.anil))) (.seq (.ret (.cst (.bool false))) (.nil)) (.nil)) (.seq (.ret (.cmp .eq (.var 0) (.call "_law_sorted" g__law_sorted__t (.acons (.var 0) .anil)))) (.nil)))
def g__law_is_book : G := run (t__law_is_book (g__law_is_phrase 6) g__law_sorted__t) 1 2
def c__law_told_right_1 : T := .comp [2] (.tname 2) (.itl (.var 1)) (.one (.not (.isi .isBool (.var 2)))) (.var 2)
def t__law_told_right (g_is_book : G) (g_is_phrase : G) (g_is_lot : G) (g_is_habit : G) (g__law_is_book : G) (g__law_is_phrase : G) (g__law_is_lot : G) (g__law_is_habit : G) : T := .seq (.asg (.tname 1) (.lst (.acons (.call "is_habit" g_is_habit (.acons (.var 0) .anil)) (.acons (.call "is_lot" g_is_lot (.acons (.var 0) .anil)) (.acons (.call "is_phrase" g_is_phrase (.acons (.var 0) .anil)) (.acons (.call "is_book" g_is_book (.acons (.var 0) .anil)) .anil)))))) (.seq (.iff (.cmp .ne (c__law_told_right_1) (.lst (.anil))) (.seq (.ret (.cst (.bool false))) (.nil)) (.nil)) (.seq (.ret (.cmp .eq (.var 1) (.lst (.acons (.call "_law_is_habit" g__law_is_habit (.acons (.var 0) .anil)) (.acons (.call "_law_is_lot" g__law_is_lot (.acons (.var 0) .anil)) (.acons (.call "_law_is_phrase" g__law_is_phrase (.acons (.var 0) (.acons (.cst (.int 4)) .anil))) (.acons (.call "_law_is_book" g__law_is_book (.acons (.var 0) .anil)) .anil))))))) (.nil)))
def g__law_told_right : G := run (t__law_told_right g_is_book g_is_phrase g_is_lot g_is_habit g__law_is_book (g__law_is_phrase 6) g__law_is_lot g__law_is_habit) 1 3
def t_need_habit (g_is_habit : G) : T := .seq (.iff (.not (.call "is_habit" g_is_habit (.acons (.var 0) .anil))) (.seq (.raise "InvalidHabit" .nil) (.nil)) (.nil)) (.nil)
def g_need_habit : G := run (t_need_habit g_is_habit) 1 1
def t_need_lot (g_is_lot : G) : T := .seq (.iff (.not (.call "is_lot" g_is_lot (.acons (.var 0) .anil))) (.seq (.raise "InvalidLot" .nil) (.nil)) (.nil)) (.nil)
def g_need_lot : G := run (t_need_lot g_is_lot) 1 1
def t_need_from (g_is_from : G) : T := .seq (.iff (.not (.call "is_from" g_is_from (.acons (.var 0) (.acons (.var 1) (.acons (.var 2) .anil))))) (.seq (.raise "InvalidNumber" .nil) (.nil)) (.nil)) (.nil)
def g_need_from : G := run (t_need_from g_is_from) 3 3
def t_need_day (g_is_number : G) : T := .seq (.iff (.not (.call "is_number" g_is_number (.acons (.var 0) .anil))) (.seq (.raise "InvalidNumber" .nil) (.nil)) (.nil)) (.nil)
def g_need_day : G := run (t_need_day g_is_number) 1 1
def t_later : T := .seq (.ret (.bin .add (.cst (.int 1)) (.bin .mod (.bin .sub (.bin .sub (.var 1) (.var 0)) (.cst (.int 1))) (.cst (.int 7))))) (.nil)
def g_later : G := run (t_later) 2 2
def t_in_week : T := .seq (.ret (.bin .sub (.bin .mod (.bin .sub (.var 2) (.idx (.var 0) (.cst (.int 0)))) (.cst (.int 7))) (.bin .mod (.bin .sub (.var 1) (.idx (.var 0) (.cst (.int 0)))) (.cst (.int 7))))) (.nil)
def g_in_week : G := run (t_in_week) 3 3
def t_next_step (g_in_week : G) (g_later : G) : T := .seq (.iff (.cmp .eq (.idx (.var 0) (.cst (.int 2))) (.cst (.str "week"))) (.seq (.ret (.bin .add (.call "in_week" g_in_week (.acons (.var 0) (.acons (.var 1) (.acons (.var 2) .anil)))) (.cst (.int 7)))) (.nil)) (.nil)) (.seq (.ret (.bin .add (.call "later" g_later (.acons (.var 1) (.acons (.var 2) .anil))) (.ite (.cmp .eq (.idx (.var 0) (.cst (.int 2))) (.cst (.str "second"))) (.cst (.int 7)) (.cst (.int 0))))) (.nil))
def g_next_step : G := run (t_next_step g_in_week g_later) 3 3
def t_last_step (g_in_week : G) (g_later : G) : T := .seq (.iff (.cmp .eq (.idx (.var 0) (.cst (.int 2))) (.cst (.str "week"))) (.seq (.ret (.bin .sub (.call "in_week" g_in_week (.acons (.var 0) (.acons (.var 1) (.acons (.var 2) .anil)))) (.cst (.int 7)))) (.nil)) (.nil)) (.seq (.ret (.bin .sub (.bin .sub (.cst (.int 0)) (.call "later" g_later (.acons (.var 2) (.acons (.var 1) .anil)))) (.ite (.cmp .eq (.idx (.var 0) (.cst (.int 2))) (.cst (.str "second"))) (.cst (.int 7)) (.cst (.int 0))))) (.nil))
def g_last_step : G := run (t_last_step g_in_week g_later) 3 3
def t_step_of (g_step_of : G) (g_later : G) (g_in_week : G) (g_next_step : G) (g_last_step : G) : T := .seq (.asg (.ttup (.acons (.tname 3) (.acons (.tname 4) (.anil)))) (.var 0)) (.seq (.iff (.cmp .eq (.var 3) (.glob "AFTER" k_AFTER)) (.seq (.ret (.bin .add (.call "step_of" g_step_of (.acons (.var 4) (.acons (.var 1) (.acons (.var 2) .anil)))) (.cst (.int 1)))) (.nil)) (.nil)) (.seq (.iff (.cmp .eq (.var 3) (.glob "BEFORE" k_BEFORE)) (.seq (.ret (.bin .sub (.call "step_of" g_step_of (.acons (.var 4) (.acons (.var 1) (.acons (.var 2) .anil)))) (.cst (.int 1)))) (.nil)) (.nil)) (.seq (.iff (.cmp .eq (.var 3) (.glob "WEEK" k_WEEK)) (.seq (.ret (.bin .add (.call "step_of" g_step_of (.acons (.var 4) (.acons (.var 1) (.acons (.var 2) .anil)))) (.cst (.int 7)))) (.nil)) (.nil)) (.seq (.iff (.cmp .eq (.var 3) (.glob "IN" k_IN)) (.seq (.ret (.bin .sub (.var 4) (.ite (.cmp .eq (.idx (.var 1) (.cst (.int 3))) (.cst (.str "with"))) (.cst (.int 1)) (.cst (.int 0))))) (.nil)) (.nil)) (.seq (.iff (.cmp .eq (.var 3) (.glob "NAME" k_NAME)) (.seq (.ret (.ite (.and (.cmp .eq (.var 4) (.var 2)) (.one (.cmp .eq (.idx (.var 1) (.cst (.int 1))) (.cst (.str "now"))))) (.cst (.int 0)) (.call "later" g_later (.acons (.var 2) (.acons (.var 4) .anil))))) (.nil)) (.nil)) (.seq (.iff (.cmp .eq (.var 3) (.glob "THIS" k_THIS)) (.seq (.ret (.call "in_week" g_in_week (.acons (.var 1) (.acons (.var 2) (.acons (.var 4) .anil))))) (.nil)) (.nil)) (.seq (.ret (.ite (.cmp .eq (.var 3) (.glob "NEXT" k_NEXT)) (.call "next_step" g_next_step (.acons (.var 1) (.acons (.var 2) (.acons (.var 4) .anil)))) (.call "last_step" g_last_step (.acons (.var 1) (.acons (.var 2) (.acons (.var 4) .anil)))))) (.nil))))))))
def g_step_of : Nat → G
  | 0 => fun _ _ => .stuck
  | n + 1 => run (t_step_of (g_step_of n) g_later g_in_week g_next_step g_last_step) 3 5
def t_day_meant (g_step_of : G) : T := .seq (.ret (.bin .add (.var 2) (.call "step_of" g_step_of (.acons (.var 0) (.acons (.var 1) (.acons (.bin .mod (.var 2) (.cst (.int 7))) .anil)))))) (.nil)
def g_day_meant : G := run (t_day_meant (g_step_of 6)) 3 3
def c_steps_of_1 (g_step_of : G) : T := .comp [3] (.tname 3) (.itt (.var 1)) .yes (.blt .int (.acons (.call "step_of" g_step_of (.acons (.var 0) (.acons (.var 3) (.acons (.var 2) .anil)))) .anil))
def t_steps_of (g_step_of : G) : T := .seq (.ret (.uniq ((c_steps_of_1 g_step_of)))) (.nil)
def g_steps_of : G := run (t_steps_of (g_step_of 6)) 3 4
def t_meant (g_need_phrase : G) (g_need_habit : G) (g_need_day : G) (g_day_meant : G) : T := .seq (.drop (.call "need_phrase" g_need_phrase (.acons (.var 0) .anil))) (.seq (.drop (.call "need_habit" g_need_habit (.acons (.var 1) .anil))) (.seq (.drop (.call "need_day" g_need_day (.acons (.var 2) .anil))) (.seq (.ret (.call "day_meant" g_day_meant (.acons (.var 0) (.acons (.var 1) (.acons (.var 2) .anil))))) (.nil))))
def g_meant : G := run (t_meant g_need_phrase g_need_habit g_need_day g_day_meant) 3 3
def t_step (g_need_phrase : G) (g_need_habit : G) (g_need_from : G) (g_step_of : G) : T := .seq (.drop (.call "need_phrase" g_need_phrase (.acons (.var 0) .anil))) (.seq (.drop (.call "need_habit" g_need_habit (.acons (.var 1) .anil))) (.seq (.drop (.call "need_from" g_need_from (.acons (.var 2) (.acons (.cst (.int 0)) (.acons (.cst (.int 6)) .anil))))) (.seq (.ret (.call "step_of" g_step_of (.acons (.var 0) (.acons (.var 1) (.acons (.var 2) .anil))))) (.nil))))
def g_step : G := run (t_step g_need_phrase g_need_habit g_need_from (g_step_of 6)) 3 3
def t_steps (g_need_phrase : G) (g_need_lot : G) (g_need_from : G) (g_steps_of : G) : T := .seq (.drop (.call "need_phrase" g_need_phrase (.acons (.var 0) .anil))) (.seq (.drop (.call "need_lot" g_need_lot (.acons (.var 1) .anil))) (.seq (.drop (.call "need_from" g_need_from (.acons (.var 2) (.acons (.cst (.int 0)) (.acons (.cst (.int 6)) .anil))))) (.seq (.ret (.call "steps_of" g_steps_of (.acons (.var 0) (.acons (.var 1) (.acons (.var 2) .anil))))) (.nil))))
def g_steps : G := run (t_steps g_need_phrase g_need_lot g_need_from g_steps_of) 3 3
def t__law_first : T := .seq (.asg (.tname 2) (.bin .add (.var 0) (.cst (.int 1)))) (.seq (.while 20 (.cmp .ne (.bin .mod (.var 2) (.cst (.int 7))) (.var 1)) (.seq (.asg (.tname 2) (.bin .add (.var 2) (.cst (.int 1)))) (.nil))) (.seq (.ret (.var 2)) (.nil)))
def g__law_first : G := run (t__law_first) 2 3
def t__law_week : T := .seq (.while 20 (.cmp .ne (.bin .mod (.var 1) (.cst (.int 7))) (.idx (.var 0) (.cst (.int 0)))) (.seq (.asg (.tname 1) (.bin .sub (.var 1) (.cst (.int 1)))) (.nil))) (.seq (.ret (.lrg (.var 1) (.bin .add (.var 1) (.cst (.int 7))))) (.nil))
def g__law_week : G := run (t__law_week) 2 2
def c__law_meant_1 (g__law_week : G) : T := .comp [6] (.tname 6) (.itl (.call "_law_week" g__law_week (.acons (.var 1) (.acons (.var 2) .anil)))) (.one (.cmp .eq (.bin .mod (.var 6) (.cst (.int 7))) (.var 4))) (.var 6)
def t__law_meant (g__law_meant : G) (g__law_first : G) (g__law_week : G) : T := .seq (.asg (.ttup (.acons (.tname 3) (.acons (.tname 4) (.anil)))) (.var 0)) (.seq (.iff (.cmp .isin (.var 3) (.lst (.acons (.cst (.str "after")) (.acons (.cst (.str "before")) (.acons (.cst (.str "week")) .anil))))) (.seq (.ret (.bin .add (.call "_law_meant" g__law_meant (.acons (.var 4) (.acons (.var 1) (.acons (.var 2) .anil)))) (.dix ["after", "before", "week"] [1, -1, 7] (.var 3)))) (.nil)) (.nil)) (.seq (.iff (.cmp .eq (.var 3) (.cst (.str "in"))) (.seq (.ret (.bin .sub (.bin .add (.var 2) (.var 4)) (.blt .int (.acons (.cmp .eq (.idx (.var 1) (.cst (.int 3))) (.cst (.str "with"))) .anil)))) (.nil)) (.nil)) (.seq (.iff (.cmp .eq (.var 3) (.cst (.str "name"))) (.seq (.ret (.ite (.and (.cmp .eq (.bin .mod (.var 2) (.cst (.int 7))) (.var 4)) (.one (.cmp .eq (.idx (.var 1) (.cst (.int 1))) (.cst (.str "now"))))) (.var 2) (.call "_law_first" g__law_first (.acons (.var 2) (.acons (.var 4) .anil))))) (.nil)) (.nil)) (.seq (.asg (.tname 5) (.idx ((c__law_meant_1 g__law_week)) (.cst (.int 0)))) (.seq (.iff (.cmp .eq (.var 3) (.cst (.str "this"))) (.seq (.ret (.var 5)) (.nil)) (.nil)) (.seq (.asg (.tname 7) (.ite (.cmp .eq (.var 3) (.cst (.str "next"))) (.cst (.int 1)) (.neg (.cst (.int 1))))) (.seq (.iff (.cmp .eq (.idx (.var 1) (.cst (.int 2))) (.cst (.str "week"))) (.seq (.ret (.bin .add (.var 5) (.bin .mul (.cst (.int 7)) (.var 7)))) (.nil)) (.nil)) (.seq (.asg (.tname 8) (.ite (.cmp .eq (.var 3) (.cst (.str "next"))) (.call "_law_first" g__law_first (.acons (.var 2) (.acons (.var 4) .anil))) (.call "_law_first" g__law_first (.acons (.bin .sub (.var 2) (.cst (.int 8))) (.acons (.var 4) .anil))))) (.seq (.ret (.bin .add (.var 8) (.ite (.cmp .eq (.idx (.var 1) (.cst (.int 2))) (.cst (.str "second"))) (.bin .mul (.cst (.int 7)) (.var 7)) (.cst (.int 0))))) (.nil))))))))))
def g__law_meant : Nat → G
  | 0 => fun _ _ => .stuck
  | n + 1 => run (t__law_meant (g__law_meant n) g__law_first g__law_week) 3 9
def t__law_step (g__law_meant : G) : T := .seq (.ret (.bin .sub (.bin .sub (.call "_law_meant" g__law_meant (.acons (.var 0) (.acons (.var 1) (.acons (.bin .add (.var 2) (.cst (.int 70))) .anil)))) (.var 2)) (.cst (.int 70)))) (.nil)
def g__law_step : G := run (t__law_step (g__law_meant 6)) 3 3
def c__law_steps_1 (g__law_step : G) : T := .comp [3] (.tname 3) (.itt (.var 1)) .yes (.call "_law_step" g__law_step (.acons (.var 0) (.acons (.var 3) (.acons (.var 2) .anil))))
def t__law_steps (g__law_step : G) : T := .seq (.ret (.uniq ((c__law_steps_1 g__law_step)))) (.nil)
def g__law_steps : G := run (t__law_steps g__law_step) 3 4
def c_weekdays_unsure_1 (g_steps_of : G) : T := .comp [2] (.tname 2) (.itl (.lr1 (.cst (.int 7)))) (.one (.cmp .gt (.blt .len (.acons (.call "steps_of" g_steps_of (.acons (.var 0) (.acons (.var 1) (.acons (.var 2) .anil)))) .anil)) (.cst (.int 1)))) (.var 2)
def t_weekdays_unsure (g_steps_of : G) : T := .seq (.ret ((c_weekdays_unsure_1 g_steps_of))) (.nil)
def g_weekdays_unsure : G := run (t_weekdays_unsure g_steps_of) 2 3
def b_spread_of_1 (g_steps_of : G) : T := .seq (.asg (.tname 4) (.call "steps_of" g_steps_of (.acons (.var 0) (.acons (.var 1) (.acons (.var 3) .anil))))) (.seq (.asg (.tname 2) (.blt .max2 (.acons (.var 2) (.acons (.bin .sub (.idx (.var 4) (.neg (.cst (.int 1)))) (.idx (.var 4) (.cst (.int 0)))) .anil)))) (.nil))
def t_spread_of (g_steps_of : G) : T := .seq (.asg (.tname 2) (.cst (.int 0))) (.seq (.loop (.tname 3) (.itr1 (.cst (.int 7))) (b_spread_of_1 g_steps_of)) (.seq (.ret (.var 2)) (.nil)))
def g_spread_of : G := run (t_spread_of g_steps_of) 2 5
def t_is_sure (g_need_phrase : G) (g_need_lot : G) (g_weekdays_unsure : G) : T := .seq (.drop (.call "need_phrase" g_need_phrase (.acons (.var 0) .anil))) (.seq (.drop (.call "need_lot" g_need_lot (.acons (.var 1) .anil))) (.seq (.ret (.cmp .eq (.call "weekdays_unsure" g_weekdays_unsure (.acons (.var 0) (.acons (.var 1) .anil))) (.lst (.anil)))) (.nil)))
def g_is_sure : G := run (t_is_sure g_need_phrase g_need_lot g_weekdays_unsure) 2 2
def t_unsure_on (g_need_phrase : G) (g_need_lot : G) (g_weekdays_unsure : G) : T := .seq (.drop (.call "need_phrase" g_need_phrase (.acons (.var 0) .anil))) (.seq (.drop (.call "need_lot" g_need_lot (.acons (.var 1) .anil))) (.seq (.ret (.call "weekdays_unsure" g_weekdays_unsure (.acons (.var 0) (.acons (.var 1) .anil)))) (.nil)))
def g_unsure_on : G := run (t_unsure_on g_need_phrase g_need_lot g_weekdays_unsure) 2 2
def t_spread (g_need_phrase : G) (g_need_lot : G) (g_spread_of : G) : T := .seq (.drop (.call "need_phrase" g_need_phrase (.acons (.var 0) .anil))) (.seq (.drop (.call "need_lot" g_need_lot (.acons (.var 1) .anil))) (.seq (.ret (.call "spread_of" g_spread_of (.acons (.var 0) (.acons (.var 1) .anil)))) (.nil)))
def g_spread : G := run (t_spread g_need_phrase g_need_lot g_spread_of) 2 2
def c_short_phrases_1 : T := .comp [1] (.tname 1) (.itl (.lrg (.cst (.int 1)) (.bin .add (.glob "MOST_DAYS" k_MOST_DAYS) (.cst (.int 1))))) .yes (.tup (.acons (.glob "IN" k_IN) (.acons (.var 1) .anil)))
def c_short_phrases_2 : T := .comp [3] (.tname 3) (.itl (.lr1 (.cst (.int 7)))) .yes (.tup (.acons (.var 2) (.acons (.var 3) .anil)))
def b_short_phrases_3 : T := .seq (.asg (.tname 0) (.bin .add (.var 0) (c_short_phrases_2))) (.nil)
def t_short_phrases : T := .seq (.asg (.tname 0) (c_short_phrases_1)) (.seq (.loop (.tname 2) (.itt (.tup (.acons (.glob "LAST" k_LAST) (.acons (.glob "NAME" k_NAME) (.acons (.glob "NEXT" k_NEXT) (.acons (.glob "THIS" k_THIS) .anil)))))) b_short_phrases_3) (.seq (.ret (.var 0)) (.nil)))
def g_short_phrases : G := run (t_short_phrases) 0 4
def c_longer_phrases_1 (g_short_phrases : G) : T := .comp [2] (.tname 2) (.itl (.call "short_phrases" g_short_phrases (.anil))) .yes (.tup (.acons (.var 1) (.acons (.var 2) .anil)))
def b_longer_phrases_2 (g_short_phrases : G) : T := .seq (.asg (.tname 0) (.bin .add (.var 0) ((c_longer_phrases_1 g_short_phrases)))) (.nil)
def t_longer_phrases (g_short_phrases : G) : T := .seq (.asg (.tname 0) (.lst (.anil))) (.seq (.loop (.tname 1) (.itt (.glob "AROUND" k_AROUND)) (b_longer_phrases_2 g_short_phrases)) (.seq (.ret (.var 0)) (.nil)))
def g_longer_phrases : G := run (t_longer_phrases g_short_phrases) 0 3
def c_sure_of_1 (g_steps_of : G) : T := .comp [5] (.tname 5) (.itl (.var 3)) (.one (.cmp .eq (.call "steps_of" g_steps_of (.acons (.var 5) (.acons (.var 0) (.acons (.var 1) .anil)))) (.lst (.acons (.var 2) .anil)))) (.var 5)
def b_sure_of_2 (g_steps_of : G) : T := .seq (.asg (.tname 4) ((c_sure_of_1 g_steps_of))) (.seq (.iff (.cmp .ne (.var 4) (.lst (.anil))) (.seq (.ret (.var 4)) (.nil)) (.nil)) (.nil))
def t_sure_of (g_longer_phrases : G) (g_short_phrases : G) (g_steps_of : G) : T := .seq (.loop (.tname 3) (.itt (.tup (.acons (.call "short_phrases" g_short_phrases (.anil)) (.acons (.call "longer_phrases" g_longer_phrases (.anil)) .anil)))) (b_sure_of_2 g_steps_of)) (.seq (.ret (.lst (.anil))) (.nil))
def g_sure_of : G := run (t_sure_of g_longer_phrases g_short_phrases g_steps_of) 3 6
def t_sure_phrases (g_need_lot : G) (g_need_from : G) (g_sure_of : G) : T := .seq (.drop (.call "need_lot" g_need_lot (.acons (.var 0) .anil))) (.seq (.drop (.call "need_from" g_need_from (.acons (.var 1) (.acons (.cst (.int 0)) (.acons (.cst (.int 6)) .anil))))) (.seq (.drop (.call "need_from" g_need_from (.acons (.var 2) (.acons (.neg (.cst (.int 40))) (.acons (.cst (.int 40)) .anil))))) (.seq (.ret (.call "sure_of" g_sure_of (.acons (.var 0) (.acons (.var 1) (.acons (.var 2) .anil))))) (.nil))))
def g_sure_phrases : G := run (t_sure_phrases g_need_lot g_need_from g_sure_of) 3 3
def b_parting_of_1 (g_step_of : G) : T := .seq (.iff (.cmp .ne (.call "step_of" g_step_of (.acons (.var 0) (.acons (.var 4) (.acons (.var 3) .anil)))) (.call "step_of" g_step_of (.acons (.var 1) (.acons (.var 4) (.acons (.var 3) .anil))))) (.seq (.ret (.tup (.acons (.var 3) (.acons (.var 4) .anil)))) (.nil)) (.nil)) (.nil)
def b_parting_of_2 (g_step_of : G) : T := .seq (.loop (.tname 4) (.itt (.var 2)) (b_parting_of_1 g_step_of)) (.nil)
def t_parting_of (g_step_of : G) : T := .seq (.loop (.tname 3) (.itr1 (.cst (.int 7))) (b_parting_of_2 g_step_of)) (.seq (.ret (.cst .none)) (.nil))
def g_parting_of : G := run (t_parting_of (g_step_of 6)) 3 5
def t_need_all (g_need_phrase : G) (g_need_lot : G) : T := .seq (.drop (.call "need_phrase" g_need_phrase (.acons (.var 0) .anil))) (.seq (.drop (.call "need_phrase" g_need_phrase (.acons (.var 1) .anil))) (.seq (.drop (.call "need_lot" g_need_lot (.acons (.var 2) .anil))) (.nil)))
def g_need_all : G := run (t_need_all g_need_phrase g_need_lot) 3 3
def t_alike (g_need_all : G) (g_parting_of : G) : T := .seq (.drop (.call "need_all" g_need_all (.acons (.var 0) (.acons (.var 1) (.acons (.var 2) .anil))))) (.seq (.ret (.isN (.call "parting_of" g_parting_of (.acons (.var 0) (.acons (.var 1) (.acons (.var 2) .anil)))))) (.nil))
def g_alike : G := run (t_alike g_need_all g_parting_of) 3 3
def t_parting (g_need_all : G) (g_parting_of : G) : T := .seq (.drop (.call "need_all" g_need_all (.acons (.var 0) (.acons (.var 1) (.acons (.var 2) .anil))))) (.seq (.ret (.call "parting_of" g_parting_of (.acons (.var 0) (.acons (.var 1) (.acons (.var 2) .anil))))) (.nil))
def g_parting : G := run (t_parting g_need_all g_parting_of) 3 3
def t__law_near (g__law_words : G) (g__law_take : G) (g__law_made : G) (g__law_of : G) (g__law_phrase : G) : T := .seq (.asg (.ttup (.acons (.tname 2) (.acons (.tname 3) (.anil)))) (.call "_law_words" g__law_words (.acons (.var 1) .anil))) (.seq (.asg (.tname 4) (.call "_law_take" g__law_take (.acons (.var 0) (.acons (.cst (.int 4)) .anil)))) (.seq (.iff (.and (.cmp .eq (.var 4) (.cst (.int 0))) (.and (.cmp .eq (.idx (.var 2) (.neg (.cst (.int 1)))) (.cst (.str "in"))) (.and (.cmp .gt (.var 3) (.cst (.int 7))) (.one (.cmp .lt (.blt .len (.acons (.var 2) .anil)) (.cst (.int 4))))))) (.seq (.ret (.call "_law_made" g__law_made (.acons (.bin .add (.bin .add (.lst (.acons (.cst (.str "week")) .anil)) (.slc (.var 2) .nopart (.acons (.neg (.cst (.int 1))) .anil))) (.lst (.acons (.cst (.str "in")) .anil))) (.acons (.bin .sub (.var 3) (.cst (.int 7))) .anil)))) (.nil)) (.nil)) (.seq (.iff (.cmp .eq (.var 4) (.cst (.int 1))) (.seq (.ret (.call "_law_made" g__law_made (.acons (.bin .add (.rev (.slc (.var 2) .nopart (.acons (.neg (.cst (.int 1))) .anil))) (.slc (.var 2) (.acons (.neg (.cst (.int 1))) .anil) .nopart)) (.acons (.var 3) .anil)))) (.nil)) (.nil)) (.seq (.iff (.and (.cmp .eq (.var 4) (.cst (.int 2))) (.one (.cmp .isin (.idx (.var 2) (.neg (.cst (.int 1)))) (.lst (.acons (.cst (.str "name")) (.acons (.cst (.str "this")) (.acons (.cst (.str "next")) .anil))))))) (.seq (.ret (.call "_law_made" g__law_made (.acons (.bin .add (.slc (.var 2) .nopart (.acons (.neg (.cst (.int 1))) .anil)) (.lst (.acons (.call "_law_of" g__law_of (.acons (.var 0) (.acons (.lst (.acons (.cst (.str "name")) (.acons (.cst (.str "this")) (.acons (.cst (.str "next")) .anil)))) .anil))) .anil))) (.acons (.var 3) .anil)))) (.nil)) (.nil)) (.seq (.iff (.and (.cmp .eq (.var 4) (.cst (.int 3))) (.and (.cmp .lt (.blt .len (.acons (.var 2) .anil)) (.cst (.int 3))) (.one (.cmp .ne (.idx (.var 2) (.neg (.cst (.int 1)))) (.cst (.str "in")))))) (.seq (.ret (.call "_law_made" g__law_made (.acons (.bin .add (.lst (.acons (.cst (.str "after")) .anil)) (.var 2)) (.acons (.bin .mod (.bin .add (.var 3) (.cst (.int 6))) (.cst (.int 7))) .anil)))) (.nil)) (.nil)) (.seq (.ret (.call "_law_phrase" g__law_phrase (.acons (.var 0) (.acons (.cst (.int 3)) .anil)))) (.nil)))))))
def g__law_near : G := run (t__law_near (g__law_words 6) g__law_take g__law_made g__law_of (g__law_phrase 4)) 2 5
def t_is_fact (g_is_number : G) (g_is_from : G) (g_is_phrase : G) : T := .seq (.iff (.or (.not (.isi .isTuple (.var 0))) (.one (.cmp .ne (.blt .len (.acons (.var 0) .anil)) (.cst (.int 3))))) (.seq (.ret (.cst (.bool false))) (.nil)) (.nil)) (.seq (.ret (.and (.call "is_phrase" g_is_phrase (.acons (.idx (.var 0) (.cst (.int 0))) .anil)) (.and (.call "is_from" g_is_from (.acons (.idx (.var 0) (.cst (.int 1))) (.acons (.cst (.int 0)) (.acons (.cst (.int 6)) .anil)))) (.one (.call "is_number" g_is_number (.acons (.idx (.var 0) (.cst (.int 2))) .anil)))))) (.nil))
def g_is_fact : G := run (t_is_fact g_is_number g_is_from g_is_phrase) 1 1
def c_habits_with_1 (g_is_fact : G) : T := .comp [1] (.tname 1) (.itt (.var 0)) .yes (.call "is_fact" g_is_fact (.acons (.var 1) .anil))
def c_habits_with_2 (g_step_of : G) : T := .comp [4, 5, 6] (.ttup (.acons (.tname 4) (.acons (.tname 5) (.acons (.tname 6) (.anil))))) (.itt (.var 0)) .yes (.cmp .eq (.call "step_of" g_step_of (.acons (.var 4) (.acons (.var 3) (.acons (.var 5) .anil)))) (.var 6))
def b_habits_with_3 (g_step_of : G) : T := .seq (.iff (.blt .all (.acons ((c_habits_with_2 g_step_of)) .anil)) (.seq (.app 2 (.var 3)) (.nil)) (.nil)) (.nil)
def t_habits_with (g_is_fact : G) (g_all_habits_there_are : G) (g_step_of : G) : T := .seq (.iff (.or (.not (.isi .isTuple (.var 0))) (.or (.cmp .gt (.blt .len (.acons (.var 0) .anil)) (.cst (.int 20))) (.one (.not (.blt .all (.acons ((c_habits_with_1 g_is_fact)) .anil)))))) (.seq (.raise "InvalidFacts" .nil) (.nil)) (.nil)) (.seq (.asgO 2 (.lst (.anil))) (.seq (.loop (.tname 3) (.itl (.call "all_habits_there_are" g_all_habits_there_are (.anil))) (b_habits_with_3 g_step_of)) (.seq (.ret (.var 2)) (.nil))))
def g_habits_with : G := run (t_habits_with g_is_fact g_all_habits_there_are (g_step_of 6)) 1 7
def b__law_is_facts_1 (g__law_is_phrase : G) (g__law_is_int : G) : T := .seq (.iff (.or (.not (.isi .isTuple (.var 1))) (.or (.cmp .ne (.blt .len (.acons (.var 1) .anil)) (.cst (.int 3))) (.one (.not (.call "_law_is_phrase" g__law_is_phrase (.acons (.idx (.var 1) (.cst (.int 0))) (.acons (.cst (.int 4)) .anil))))))) (.seq (.ret (.cst (.bool false))) (.nil)) (.nil)) (.seq (.iff (.or (.not (.call "_law_is_int" g__law_is_int (.acons (.idx (.var 1) (.cst (.int 1))) (.acons (.cst (.int 0)) (.acons (.cst (.int 6)) .anil))))) (.one (.not (.call "_law_is_int" g__law_is_int (.acons (.idx (.var 1) (.cst (.int 2))) (.acons (.neg (.bin .pow (.cst (.int 10)) (.cst (.int 40)))) (.acons (.bin .pow (.cst (.int 10)) (.cst (.int 40))) .anil))))))) (.seq (.ret (.cst (.bool false))) (.nil)) (.nil)) (.nil))
def t__law_is_facts (g__law_is_phrase : G) (g__law_is_int : G) : T := .seq (.iff (.or (.not (.isi .isTuple (.var 0))) (.one (.cmp .gt (.blt .len (.acons (.var 0) .anil)) (.cst (.int 20))))) (.seq (.ret (.cst (.bool false))) (.nil)) (.nil)) (.seq (.loop (.tname 1) (.itt (.var 0)) (b__law_is_facts_1 g__law_is_phrase g__law_is_int)) (.seq (.ret (.cst (.bool true))) (.nil)))
def g__law_is_facts : G := run (t__law_is_facts (g__law_is_phrase 6) g__law_is_int) 1 2
def t__law_told (g_habits_with : G) : T := .seq (.tryR "InvalidFacts" (.call "habits_with" g_habits_with (.acons (.var 0) .anil)) "facts") (.nil)
def g__law_told : G := run (t__law_told g_habits_with) 1 1
def t_last_of (g_last_of : G) : T := .seq (.ret (.ite (.cmp .isin (.idx (.var 0) (.cst (.int 0))) (.glob "AROUND" k_AROUND)) (.call "last_of" g_last_of (.acons (.idx (.var 0) (.cst (.int 1))) .anil)) (.idx (.var 0) (.cst (.int 1))))) (.nil)
def g_last_of : Nat → G
  | 0 => fun _ _ => .stuck
  | n + 1 => run (t_last_of (g_last_of n)) 1 1
def t_text_of (g_words_of : G) (g_last_of : G) : T := .seq (.ret (.mth .join (.cst (.str " ")) (.bin .add (.call "words_of" g_words_of (.acons (.var 0) .anil)) (.lst (.acons (.blt .str (.acons (.call "last_of" g_last_of (.acons (.var 0) .anil)) .anil)) .anil))))) (.nil)
def g_text_of : G := run (t_text_of (g_words_of 6) (g_last_of 6)) 1 1
def b_number_of_1 : T := .seq (.iff (.cmp .eq (.blt .str (.acons (.var 3) .anil)) (.var 0)) (.seq (.ret (.var 3)) (.nil)) (.nil)) (.nil)
def t_number_of : T := .seq (.loop (.tname 3) (.itr2 (.var 1) (.bin .add (.var 2) (.cst (.int 1)))) b_number_of_1) (.seq (.ret (.cst .none)) (.nil))
def g_number_of : G := run (t_number_of) 3 4
def b_phrase_read_1 : T := .seq (.asg (.tname 6) (.tup (.acons (.var 7) (.acons (.var 6) .anil)))) (.nil)
def t_phrase_read (g_number_of : G) : T := .seq (.iff (.not (.isi .isStr (.var 0))) (.yes) (.nil)) (.seq (.par [1, 2] (.acons (.mth .split (.var 0) (.cst (.str " "))) (.acons (.cst (.int 0)) .anil))) (.seq (.while 10 (.and (.cmp .lt (.var 2) (.blt .len (.acons (.var 1) .anil))) (.and (.cmp .lt (.var 2) (.bin .sub (.glob "MOST_WORDS" k_MOST_WORDS) (.cst (.int 1)))) (.one (.cmp .isin (.idx (.var 1) (.var 2)) (.glob "AROUND" k_AROUND))))) (.seq (.asg (.tname 2) (.bin .add (.var 2) (.cst (.int 1)))) (.nil))) (.seq (.iff (.cmp .eq (.var 2) (.blt .len (.acons (.var 1) .anil))) (.yes) (.nil)) (.seq (.iff (.and (.cmp .ne (.idx (.var 1) (.var 2)) (.glob "IN" k_IN)) (.one (.cmp .notin (.idx (.var 1) (.var 2)) (.glob "NAMED" k_NAMED)))) (.yes) (.nil)) (.seq (.iff (.cmp .eq (.bin .add (.var 2) (.cst (.int 1))) (.blt .len (.acons (.var 1) .anil))) (.yes) (.nil)) (.seq (.asg (.ttup (.acons (.tname 3) (.acons (.tname 4) (.anil)))) (.ite (.cmp .eq (.idx (.var 1) (.var 2)) (.glob "IN" k_IN)) (.tup (.acons (.cst (.int 1)) (.acons (.glob "MOST_DAYS" k_MOST_DAYS) .anil))) (.tup (.acons (.cst (.int 0)) (.acons (.cst (.int 6)) .anil))))) (.seq (.asg (.tname 5) (.call "number_of" g_number_of (.acons (.idx (.var 1) (.bin .add (.var 2) (.cst (.int 1)))) (.acons (.var 3) (.acons (.var 4) .anil))))) (.seq (.iff (.isN (.var 5)) (.yes) (.nil)) (.seq (.iff (.cmp .gt (.blt .len (.acons (.var 1) .anil)) (.bin .add (.var 2) (.cst (.int 2)))) (.yes) (.nil)) (.seq (.asg (.tname 6) (.tup (.acons (.idx (.var 1) (.var 2)) (.acons (.var 5) .anil)))) (.seq (.loop (.tname 7) (.itl (.rev (.slc (.var 1) .nopart (.acons (.var 2) .anil)))) b_phrase_read_1) (.seq (.ret (.var 6)) (.nil)))))))))))))
def g_phrase_read : G := run (t_phrase_read g_number_of) 1 8
def t_phrase_text (g_need_phrase : G) (g_text_of : G) : T := .seq (.drop (.call "need_phrase" g_need_phrase (.acons (.var 0) .anil))) (.seq (.ret (.call "text_of" g_text_of (.acons (.var 0) .anil))) (.nil))
def g_phrase_text : G := run (t_phrase_text g_need_phrase g_text_of) 1 1
def t_read_phrase (g_phrase_read : G) : T := .seq (.ret (.call "phrase_read" g_phrase_read (.acons (.var 0) .anil))) (.nil)
def g_read_phrase : G := run (t_read_phrase g_phrase_read) 1 1
def c__law_enough_1 : T := .comp [8] (.tname 8) (.itr2 (.var 7) (.blt .len (.acons (.var 0) .anil))) .yes (.tup (.acons (.bin .add (.var 6) (.tup (.acons (.idx (.var 0) (.var 8)) .anil))) (.acons (.bin .add (.var 8) (.cst (.int 1))) .anil)))
def b__law_enough_2 : T := .seq (.asg (.tname 5) (.bin .add (.var 5) (c__law_enough_1))) (.nil)
def b__law_enough_3 : T := .seq (.asg (.tname 5) (.lst (.anil))) (.seq (.loop (.ttup (.acons (.tname 6) (.acons (.tname 7) (.anil)))) (.itl (.var 3)) b__law_enough_2) (.seq (.asg (.tname 3) (.var 5)) (.nil)))
def c__law_enough_4 : T := .comp [10] (.tname 10) (.itt (.var 6)) .yes (.idx (.var 10) (.var 8))
def c__law_enough_5 : T := .comp [8] (.tname 8) (.itr1 (.var 2)) .yes (.blt .tuple (.acons (c__law_enough_4) .anil))
def b__law_enough_6 : T := .seq (.asg (.tname 9) (c__law_enough_5)) (.seq (.iff (.cmp .eq (.lenset (.var 9)) (.var 2)) (.seq (.ret (.cst (.bool true))) (.nil)) (.nil)) (.nil))
def t__law_enough : T := .seq (.asg (.tname 3) (.lst (.acons (.tup (.acons (.tup (.anil)) (.acons (.cst (.int 0)) .anil))) .anil))) (.seq (.loop (.tname 4) (.itr1 (.var 1)) b__law_enough_3) (.seq (.loop (.ttup (.acons (.tname 6) (.acons (.tname 7) (.anil)))) (.itl (.var 3)) b__law_enough_6) (.seq (.ret (.cst (.bool false))) (.nil))))
def g__law_enough : G := run (t__law_enough) 3 11
def t_need_book (g_is_book : G) : T := .seq (.iff (.not (.call "is_book" g_is_book (.acons (.var 0) .anil))) (.seq (.raise "InvalidBook" .nil) (.nil)) (.nil)) (.nil)
def g_need_book : G := run (t_need_book g_is_book) 1 1
def t_is_telling (g_is_habit : G) (g_is_phrase : G) (g_is_from : G) : T := .seq (.iff (.or (.not (.isi .isTuple (.var 3))) (.or (.cmp .ne (.blt .len (.acons (.var 3) .anil)) (.cst (.int 4))) (.or (.not (.call "is_habit" g_is_habit (.acons (.idx (.var 3) (.cst (.int 0))) .anil))) (.one (.cmp .notin (.idx (.var 3) (.cst (.int 0))) (.var 0)))))) (.seq (.ret (.cst (.bool false))) (.nil)) (.nil)) (.seq (.iff (.or (.not (.call "is_phrase" g_is_phrase (.acons (.idx (.var 3) (.cst (.int 1))) .anil))) (.or (.cmp .notin (.idx (.var 3) (.cst (.int 1))) (.var 1)) (.or (.not (.call "is_habit" g_is_habit (.acons (.idx (.var 3) (.cst (.int 2))) .anil))) (.one (.cmp .notin (.idx (.var 3) (.cst (.int 2))) (.var 0)))))) (.seq (.ret (.cst (.bool false))) (.nil)) (.nil)) (.seq (.ret (.call "is_from" g_is_from (.acons (.idx (.var 3) (.cst (.int 3))) (.acons (.cst (.int 0)) (.acons (.var 2) .anil))))) (.nil)))
def g_is_telling : G := run (t_is_telling g_is_habit g_is_phrase g_is_from) 4 4
def b_led_by_1 (g_is_telling : G) (g_step_of : G) : T := .seq (.iff (.not (.call "is_telling" g_is_telling (.acons (.var 0) (.acons (.var 1) (.acons (.var 2) (.acons (.var 7) .anil)))))) (.seq (.ret (.tup (.acons (.cst .none) (.acons (.cst (.int 0)) (.acons (.cst (.bool false)) .anil))))) (.nil)) (.nil)) (.seq (.par [8, 9] (.acons (.call "step_of" g_step_of (.acons (.idx (.var 7) (.cst (.int 1))) (.acons (.idx (.var 7) (.cst (.int 0))) (.acons (.var 4) .anil)))) (.acons (.call "step_of" g_step_of (.acons (.idx (.var 7) (.cst (.int 1))) (.acons (.idx (.var 7) (.cst (.int 2))) (.acons (.var 4) .anil)))) .anil))) (.seq (.iff (.and (.notN (.var 5)) (.one (.or (.cmp .ne (.var 8) (.var 5)) (.one (.cmp .lt (.var 5) (.cst (.int 0))))))) (.seq (.ret (.tup (.acons (.cst .none) (.acons (.cst (.int 0)) (.acons (.cst (.bool false)) .anil))))) (.nil)) (.nil)) (.seq (.par [4, 5, 6] (.acons (.bin .mod (.bin .add (.var 4) (.idx (.var 7) (.cst (.int 3)))) (.cst (.int 7))) (.acons (.bin .sub (.var 9) (.idx (.var 7) (.cst (.int 3)))) (.acons (.bin .sub (.bin .add (.var 6) (.var 9)) (.var 8)) .anil)))) (.nil))))
def t_led_by (g_is_telling : G) (g_step_of : G) : T := .seq (.par [4, 5, 6] (.acons (.idx (.var 3) (.cst (.int 0))) (.acons (.cst .none) (.acons (.cst (.int 0)) .anil)))) (.seq (.loop (.tname 7) (.itt (.idx (.var 3) (.cst (.int 1)))) (b_led_by_1 g_is_telling g_step_of)) (.seq (.ret (.tup (.acons (.ite (.isN (.var 5)) (.cst .none) (.tup (.acons (.var 4) (.acons (.var 5) .anil)))) (.acons (.var 6) (.acons (.cst (.bool true)) .anil))))) (.nil)))
def g_led_by : G := run (t_led_by g_is_telling (g_step_of 6)) 4 10
def t_chains_so (g_is_from : G) (g_led_by : G) : T := .seq (.iff (.or (.not (.isi .isTuple (.var 3))) (.or (.cmp .ne (.blt .len (.acons (.var 3) .anil)) (.cst (.int 2))) (.one (.not (.call "is_from" g_is_from (.acons (.idx (.var 3) (.cst (.int 0))) (.acons (.cst (.int 0)) (.acons (.cst (.int 6)) .anil)))))))) (.seq (.ret (.cst (.bool false))) (.nil)) (.nil)) (.seq (.iff (.or (.not (.isi .isTuple (.idx (.var 3) (.cst (.int 1))))) (.one (.cmp .gt (.blt .len (.acons (.idx (.var 3) (.cst (.int 1))) .anil)) (.glob "MOST_TELLINGS" k_MOST_TELLINGS)))) (.seq (.ret (.cst (.bool false))) (.nil)) (.nil)) (.seq (.ret (.idx (.call "led_by" g_led_by (.acons (.var 0) (.acons (.var 1) (.acons (.var 2) (.acons (.var 3) .anil))))) (.cst (.int 2)))) (.nil)))
def g_chains_so : G := run (t_chains_so g_is_from g_led_by) 4 4
def t_need_all__2 (g_need_lot : G) (g_need_book : G) (g_need_from : G) : T := .seq (.drop (.call "need_lot" g_need_lot (.acons (.var 0) .anil))) (.seq (.drop (.call "need_book" g_need_book (.acons (.var 1) .anil))) (.seq (.drop (.call "need_from" g_need_from (.acons (.var 2) (.acons (.cst (.int 0)) (.acons (.cst (.int 3)) .anil))))) (.nil)))
def g_need_all__2 : G := run (t_need_all__2 g_need_lot g_need_book g_need_from) 3 3
def t_need_chain (g_need_all : G) (g_chains_so : G) : T := .seq (.drop (.call "need_all" g_need_all (.acons (.var 0) (.acons (.var 1) (.acons (.var 2) .anil))))) (.seq (.iff (.not (.call "chains_so" g_chains_so (.acons (.var 0) (.acons (.var 1) (.acons (.var 2) (.acons (.var 3) .anil)))))) (.seq (.raise "InvalidChain" .nil) (.nil)) (.nil)) (.nil))
def g_need_chain : G := run (t_need_chain g_need_all__2 g_chains_so) 4 4
def t_is_chain (g_need_all : G) (g_chains_so : G) : T := .seq (.drop (.call "need_all" g_need_all (.acons (.var 0) (.acons (.var 1) (.acons (.var 2) .anil))))) (.seq (.ret (.call "chains_so" g_chains_so (.acons (.var 0) (.acons (.var 1) (.acons (.var 2) (.acons (.var 3) .anil)))))) (.nil))
def g_is_chain : G := run (t_is_chain g_need_all__2 g_chains_so) 4 4
def t_drift (g_need_chain : G) (g_led_by : G) : T := .seq (.drop (.call "need_chain" g_need_chain (.acons (.var 0) (.acons (.var 1) (.acons (.var 2) (.acons (.var 3) .anil)))))) (.seq (.ret (.idx (.call "led_by" g_led_by (.acons (.var 0) (.acons (.var 1) (.acons (.var 2) (.acons (.var 3) .anil))))) (.cst (.int 1)))) (.nil))
def g_drift : G := run (t_drift g_need_chain g_led_by) 4 4
def t_state_behind (g_need_chain : G) (g_led_by : G) : T := .seq (.drop (.call "need_chain" g_need_chain (.acons (.var 0) (.acons (.var 1) (.acons (.var 2) (.acons (.var 3) .anil)))))) (.seq (.ret (.idx (.call "led_by" g_led_by (.acons (.var 0) (.acons (.var 1) (.acons (.var 2) (.acons (.var 3) .anil))))) (.cst (.int 0)))) (.nil))
def g_state_behind : G := run (t_state_behind g_need_chain g_led_by) 4 4
def c__law_tellings_1 : T := .comp [11] (.tname 11) (.itr1 (.bin .add (.var 2) (.cst (.int 1)))) .yes (.tup (.acons (.tup (.acons (.var 7) (.acons (.var 6) (.acons (.var 8) (.acons (.var 11) .anil))))) (.acons (.var 9) (.acons (.var 10) .anil))))
def b__law_tellings_2 (g__law_step : G) : T := .seq (.asg (.ttup (.acons (.tname 9) (.acons (.tname 10) (.anil)))) (.tup (.acons (.call "_law_step" g__law_step (.acons (.var 6) (.acons (.var 7) (.acons (.var 4) .anil)))) (.acons (.call "_law_step" g__law_step (.acons (.var 6) (.acons (.var 8) (.acons (.var 4) .anil)))) .anil)))) (.seq (.asg (.tname 5) (.bin .add (.var 5) (c__law_tellings_1))) (.nil))
def b__law_tellings_3 (g__law_step : G) : T := .seq (.loop (.tname 8) (.itt (.var 0)) (b__law_tellings_2 g__law_step)) (.nil)
def b__law_tellings_4 (g__law_step : G) : T := .seq (.loop (.tname 7) (.itt (.var 0)) (b__law_tellings_3 g__law_step)) (.nil)
def b__law_tellings_5 (g__law_step : G) : T := .seq (.asg (.tname 5) (.lst (.anil))) (.seq (.loop (.tname 6) (.itt (.var 1)) (b__law_tellings_4 g__law_step)) (.seq (.app 3 (.var 5)) (.nil)))
def t__law_tellings (g__law_step : G) : T := .seq (.asgO 3 (.lst (.anil))) (.seq (.loop (.tname 4) (.itr1 (.cst (.int 7))) (b__law_tellings_5 g__law_step)) (.seq (.ret (.var 3)) (.nil)))
def g__law_tellings : G := run (t__law_tellings g__law_step) 3 12
def b__law_on_1 : T := .seq (.iff (.and (.cmp .ge (.var 3) (.cst (.int 0))) (.one (.cmp .eq (.var 6) (.var 3)))) (.seq (.app 4 (.tup (.acons (.var 5) (.acons (.tup (.acons (.bin .mod (.bin .add (.var 2) (.idx (.var 5) (.cst (.int 3)))) (.cst (.int 7))) (.acons (.bin .sub (.var 7) (.idx (.var 5) (.cst (.int 3)))) .anil))) (.acons (.bin .sub (.var 7) (.var 6)) .anil))))) (.nil)) (.nil)) (.nil)
def t__law_on : T := .seq (.asg (.ttup (.acons (.tname 2) (.acons (.tname 3) (.anil)))) (.var 1)) (.seq (.asgO 4 (.lst (.anil))) (.seq (.loop (.ttup (.acons (.tname 5) (.acons (.tname 6) (.acons (.tname 7) (.anil))))) (.itl (.idx (.var 0) (.var 2))) b__law_on_1) (.seq (.ret (.var 4)) (.nil))))
def g__law_on : G := run (t__law_on) 2 8
def t__law_value : T := .seq (.iff (.cmp .eq (.var 1) (.cst (.str "tuple"))) (.seq (.ret (.isi .isTuple (.var 0))) (.nil)) (.nil)) (.seq (.ret (.and (.isi .isInt (.var 0)) (.one (.not (.isi .isBool (.var 0)))))) (.nil))
def g__law_value : G := run (t__law_value) 2 2
def c__law_led_1 : T := .comp [10] (.tname 10) (.itl (.idx (.var 0) (.var 2))) (.one (.cmp .eq (.blt .str (.acons (.idx (.var 10) (.cst (.int 0))) .anil)) (.blt .str (.acons (.var 6) .anil)))) (.var 10)
def b__law_led_2 : T := .seq (.asg (.tname 7) (c__law_led_1)) (.seq (.iff (.or (.cmp .eq (.var 7) (.lst (.anil))) (.one (.and (.notN (.var 3)) (.one (.or (.cmp .lt (.var 3) (.cst (.int 0))) (.one (.cmp .ne (.idx (.idx (.var 7) (.cst (.int 0))) (.cst (.int 1))) (.var 3)))))))) (.seq (.ret (.cst .none)) (.nil)) (.nil)) (.seq (.par [8, 9] (.acons (.idx (.idx (.var 7) (.cst (.int 0))) (.cst (.int 1))) (.acons (.idx (.idx (.var 7) (.cst (.int 0))) (.cst (.int 2))) .anil))) (.seq (.par [2, 3] (.acons (.bin .mod (.bin .add (.var 2) (.idx (.var 6) (.cst (.int 3)))) (.cst (.int 7))) (.acons (.bin .sub (.var 9) (.idx (.var 6) (.cst (.int 3)))) .anil))) (.seq (.asg (.tname 4) (.bin .sub (.bin .add (.var 4) (.var 9)) (.var 8))) (.seq (.asg (.tname 5) (.tup (.acons (.var 2) (.acons (.var 3) .anil)))) (.nil))))))
def t__law_led (g__law_value : G) : T := .seq (.iff (.or (.not (.call "_law_value" g__law_value (.acons (.var 1) (.acons (.cst (.str "tuple")) .anil)))) (.or (.cmp .ne (.blt .len (.acons (.var 1) .anil)) (.cst (.int 2))) (.one (.not (.call "_law_value" g__law_value (.acons (.idx (.var 1) (.cst (.int 0))) (.acons (.cst (.str "int")) .anil))))))) (.seq (.ret (.cst .none)) (.nil)) (.nil)) (.seq (.iff (.not (.chain .le .lt (.cst (.int 0)) (.idx (.var 1) (.cst (.int 0))) (.cst (.int 7)))) (.seq (.ret (.cst .none)) (.nil)) (.nil)) (.seq (.iff (.or (.not (.call "_law_value" g__law_value (.acons (.idx (.var 1) (.cst (.int 1))) (.acons (.cst (.str "tuple")) .anil)))) (.one (.cmp .gt (.blt .len (.acons (.idx (.var 1) (.cst (.int 1))) .anil)) (.cst (.int 30))))) (.seq (.ret (.cst .none)) (.nil)) (.nil)) (.seq (.asg (.ttup (.acons (.tname 2) (.acons (.tname 3) (.acons (.tname 4) (.acons (.tname 5) (.anil)))))) (.tup (.acons (.idx (.var 1) (.cst (.int 0))) (.acons (.cst .none) (.acons (.cst (.int 0)) (.acons (.cst .none) .anil)))))) (.seq (.loop (.tname 6) (.itt (.idx (.var 1) (.cst (.int 1)))) b__law_led_2) (.seq (.ret (.tup (.acons (.var 5) (.acons (.var 4) .anil)))) (.nil))))))
def g__law_led : G := run (t__law_led g__law_value) 2 11
def b__law_chain_1 (g__law_on : G) (g__law_of : G) : T := .seq (.asg (.tname 10) (.call "_law_on" g__law_on (.acons (.var 1) (.acons (.var 8) .anil)))) (.seq (.iff (.cmp .ne (.var 10) (.lst (.anil))) (.seq (.asg (.ttup (.acons (.tname 4) (.acons (.tname 8) (.acons (.tname 11) (.anil))))) (.call "_law_of" g__law_of (.acons (.var 0) (.acons (.var 10) .anil)))) (.seq (.asg (.tname 7) (.bin .add (.var 7) (.tup (.acons (.var 4) .anil)))) (.nil))) (.nil)) (.nil))
def t__law_chain (g__law_take : G) (g__law_of : G) (g__law_on : G) : T := .seq (.asg (.tname 3) (.call "_law_take" g__law_take (.acons (.var 0) (.acons (.cst (.int 7)) .anil)))) (.seq (.asg (.ttup (.acons (.tname 4) (.acons (.tname 5) (.acons (.tname 6) (.anil))))) (.call "_law_of" g__law_of (.acons (.var 0) (.acons (.idx (.var 1) (.var 3)) .anil)))) (.seq (.par [7, 8] (.acons (.tup (.acons (.var 4) .anil)) (.acons (.tup (.acons (.bin .mod (.bin .add (.var 3) (.idx (.var 4) (.cst (.int 3)))) (.cst (.int 7))) (.acons (.bin .sub (.var 6) (.idx (.var 4) (.cst (.int 3)))) .anil))) .anil))) (.seq (.loop (.tname 9) (.itr1 (.call "_law_take" g__law_take (.acons (.var 0) (.acons (.var 2) .anil)))) (b__law_chain_1 g__law_on g__law_of)) (.seq (.ret (.tup (.acons (.var 3) (.acons (.var 7) .anil)))) (.nil)))))
def g__law_chain : G := run (t__law_chain g__law_take g__law_of g__law_on) 3 12
end PG
set_option Elab.async false
set_option linter.all false
set_option maxRecDepth 100000
set_option maxHeartbeats 4000000
/-! PgB: what the law's defs compute. -/
namespace PG
open PySem L2 RD
theorem fm0 (x : Int) {m : Int} (h : 0 < m) : 0 ≤ x.fmod m := by
  rw [Int.fmod_eq_emod_of_nonneg x (Int.le_of_lt h)]
  exact Int.emod_nonneg x (by omega)
theorem fm1 (x : Int) {m : Int} (h : 0 < m) : x.fmod m < m := by
  rw [Int.fmod_eq_emod_of_nonneg x (Int.le_of_lt h)]
  exact Int.emod_lt_of_pos x h
theorem take_ok {m : Int} (h1 : 1 ≤ m) (h2 : m < 1073741824) (x y : Int) : ∃ r x' y', 0 ≤ r ∧ r < m ∧ g__law_take [.bag, .d (.int m)] (some (x, y)) = .ok (.d (.int r)) (some (x', y')) := by
  have hm : m ≠ 0 := by omega
  have hd : CDivN x m := ⟨hm, by omega⟩
  by_cases hx : 0 < x
  · refine ⟨x.fmod m, x.fdiv m, y, fm0 x (by omega), fm1 x (by omega), ?_⟩
    simp [g__law_take, RD.run, ex, ev, evA, big, t__law_take, hx, hm, hd]
  · have c1 : CMul y 39373 := .inr ⟨by decide, by decide⟩
    have b0 := fm0 (y * 39373 + 307) (m := 2147483353) (by decide)
    have b1 := fm1 (y * 39373 + 307) (m := 2147483353) (by decide)
    have c3 : ∀ z, CDivN z 11 := fun z => ⟨by decide, by decide⟩
    have c4 : ∀ z, CDivN z 13 := fun z => ⟨by decide, by decide⟩
    have c2 : ∀ z, CMul ((y * 39373 + 307).fmod 2147483353) z := fun z => .inl ⟨by omega, by omega⟩
    refine ⟨((((y * 39373 + 307).fmod 2147483353 * (((y * 39373 + 307).fmod 2147483353).fdiv 11 + 29)).fmod 2147483323).fdiv 13).fmod m, x, (y * 39373 + 307).fmod 2147483353, fm0 _ (m := m) (by omega), fm1 _ (m := m) (by omega), ?_⟩
    simp [g__law_take, RD.run, ex, ev, evA, big, t__law_take, hx, hm, c1, c2, c3, c4]
/-- one of a list -/
theorem of_ok (l : List PyData) (h0 : l ≠ []) (h1 : l.length < 1000) (x y : Int) : ∃ v x' y', v ∈ l ∧ g__law_of [.bag, .d (.list l)] (some (x, y)) = .ok (.d v) (some (x', y')) := by
  have hl : 1 ≤ l.length := by
    cases l with
    | nil => exact absurd rfl h0
    | cons _ _ => exact Nat.succ_le_succ (Nat.zero_le _)
  obtain ⟨r, x', y', a, b, e⟩ := take_ok (m := l.length) (by omega) (by omega) x y
  have hr : r.toNat < l.length := by omega
  refine ⟨l[r.toNat], x', y', List.getElem_mem hr, ?_⟩
  have ei : atI l r = some l[r.toNat] := by
    have h := atI_nat (List.getElem?_eq_getElem hr)
    rwa [show ((r.toNat : Nat) : Int) = r by omega] at h
  simp [g__law_of, RD.run, ex, ev, evA, big, t__law_of, e, ei]
def ws : List PyData := [.str "after", .str "before", .str "week"]
def ls : List PyData := [.str "name", .str "this", .str "next", .str "last"]
def leaves : List PyData := (ls.flatMap fun w => (List.range 7).map fun (k : Nat) => PyData.tuple [w, .int (k : Int)]) ++ (List.range 15).map fun (k : Nat) => PyData.tuple [.str "in", .int (1 + (k : Int))]
/-- all phrases of at most n + 1 words -/
def phs : Nat → List PyData
  | 0 => leaves
  | n + 1 => leaves ++ ws.flatMap fun w => (phs n).map fun p => PyData.tuple [w, p]
theorem leaf_in : ∀ (n : Nat) (p : PyData), p ∈ leaves → p ∈ phs n
  | 0, _, h => h
  | _ + 1, _, h => List.mem_append_left _ h
theorem wrap_in {n : Nat} {p w : PyData} (hw : w ∈ ws) (h : p ∈ phs n) : PyData.tuple [w, p] ∈ phs (n + 1) :=
  List.mem_append_right _ (List.mem_flatMap.mpr ⟨w, hw, List.mem_map_of_mem h⟩)
theorem leaf1 {w : PyData} {k : Int} (hw : w ∈ ls) (h0 : 0 ≤ k) (h1 : k < 7) : PyData.tuple [w, .int k] ∈ leaves := by
  refine List.mem_append_left _ (List.mem_flatMap.mpr ⟨w, hw, ?_⟩)
  have : k = ((k.toNat : Nat) : Int) := by omega
  rw [this]
  exact List.mem_map_of_mem (a := k.toNat) (f := fun (k : Nat) => PyData.tuple [w, .int (k : Int)]) (List.mem_range.mpr (by omega))
theorem leaf2 {k : Int} (h0 : 0 ≤ k) (h1 : k < 15) : PyData.tuple [.str "in", .int (1 + k)] ∈ leaves := by
  refine List.mem_append_right _ ?_
  have : k = ((k.toNat : Nat) : Int) := by omega
  rw [this]
  exact List.mem_map_of_mem (a := k.toNat) (f := fun (k : Nat) => PyData.tuple [.str "in", .int (1 + (k : Int))]) (List.mem_range.mpr (by omega))
/-- the words that are drawn -/
def six : List PyData := [.str "name", .str "this", .str "next", .str "next", .str "last", .str "in"]
theorem six_in {w : PyData} (h : w ∈ six) : ∃ z, w = .str z ∧ cmpop .eq (.str z) (.str "in") = some (z == ("in" : Str)) ∧ ((z == ("in" : Str)) = true ∧ w = .str "in" ∨ (z == ("in" : Str)) = false ∧ w ∈ ls) := by
  unfold six at h
  simp only [List.mem_cons, List.not_mem_nil, or_false] at h
  rcases h with rfl | rfl | rfl | rfl | rfl | rfl
  · exact ⟨_, rfl, cmp_eqs (by decide +kernel) (by decide +kernel), .inr ⟨by decide +kernel, by simp [ls]⟩⟩
  · exact ⟨_, rfl, cmp_eqs (by decide +kernel) (by decide +kernel), .inr ⟨by decide +kernel, by simp [ls]⟩⟩
  · exact ⟨_, rfl, cmp_eqs (by decide +kernel) (by decide +kernel), .inr ⟨by decide +kernel, by simp [ls]⟩⟩
  · exact ⟨_, rfl, cmp_eqs (by decide +kernel) (by decide +kernel), .inr ⟨by decide +kernel, by simp [ls]⟩⟩
  · exact ⟨_, rfl, cmp_eqs (by decide +kernel) (by decide +kernel), .inr ⟨by decide +kernel, by simp [ls]⟩⟩
  · exact ⟨_, rfl, cmp_eqs (by decide +kernel) (by decide +kernel), .inl ⟨by decide +kernel, rfl⟩⟩
/-- the word and its number -/
theorem leaf_ok (x y : Int) : ∃ (z : Str) (x1 y1 x2 y2 : Int) (r : Int), g__law_of [.bag, .d (.list six)] (some (x, y)) = .ok (.d (.str z)) (some (x1, y1)) ∧ cmpop .eq (.str z) (.str "in") = some (z == ("in" : Str)) ∧
    ((z == ("in" : Str)) = true ∧ g__law_take [.bag, .d (.int 15)] (some (x1, y1)) = .ok (.d (.int r)) (some (x2, y2)) ∧ PyData.tuple [.str z, .int (1 + r)] ∈ leaves ∨
     (z == ("in" : Str)) = false ∧ g__law_take [.bag, .d (.int 7)] (some (x1, y1)) = .ok (.d (.int r)) (some (x2, y2)) ∧ PyData.tuple [.str z, .int r] ∈ leaves) := by
  obtain ⟨w, x1, y1, hw, e1⟩ := of_ok six (by simp [six]) (by simp [six]) x y
  obtain ⟨z, rfl, hc, hz | hz⟩ := six_in hw
  · obtain ⟨r, x2, y2, a, b, e2⟩ := take_ok (m := 15) (by decide) (by decide) x1 y1
    have : z = "in" := eq_of_beq hz.1
    exact ⟨z, x1, y1, x2, y2, r, e1, hc, .inl ⟨hz.1, e2, by rw [this]; exact leaf2 a b⟩⟩
  · obtain ⟨r, x2, y2, a, b, e2⟩ := take_ok (m := 7) (by decide) (by decide) x1 y1
    exact ⟨z, x1, y1, x2, y2, r, e1, hc, .inr ⟨hz.1, e2, leaf1 hz.2 a b⟩⟩
theorem phrase_ok : ∀ (n : Nat) (x y : Int), ∃ p x' y', p ∈ phs n ∧ g__law_phrase (n + 1) [.bag, .d (.int ((n : Int) + 1))] (some (x, y)) = .ok (.d p) (some (x', y')) := by
  intro n
  induction n with
  | zero =>
    intro x y
    obtain ⟨z, x1, y1, x2, y2, r, e1, hc, ⟨hz, e2, hm⟩ | ⟨hz, e2, hm⟩⟩ := leaf_ok x y
    all_goals (
      unfold six at e1
      refine ⟨_, x2, y2, hm, ?_⟩
      simp [g__law_phrase, RD.run, ex, ev, evA, big, t__law_phrase, e1, e2, hz, hc])
  | succ n ih =>
    intro x y
    have hn : (1 : Int) < ((n + 1 : Nat) : Int) + 1 := by omega
    have hn2 : ((n + 1 : Nat) : Int) + 1 - 1 = (n : Int) + 1 := by omega
    obtain ⟨r, x0, y0, _, _, e0⟩ := take_ok (m := 3) (by decide) (by decide) x y
    generalize ((n + 1 : Nat) : Int) + 1 = N at hn hn2
    by_cases hr : r = 0
    · subst hr
      obtain ⟨w, x1, y1, hw, e1⟩ := of_ok ws (by simp [ws]) (by simp [ws]) x0 y0
      obtain ⟨p, x2, y2, hp, e2⟩ := ih x1 y1
      refine ⟨_, x2, y2, wrap_in hw hp, ?_⟩
      unfold ws at e1
      rw [g__law_phrase]
      simp [RD.run, ex, ev, evA, big, t__law_phrase, e0, e1, hn, hn2, e2]
    · obtain ⟨z, x1, y1, x2, y2, r, e1, hc, ⟨hz, e2, hm⟩ | ⟨hz, e2, hm⟩⟩ := leaf_ok x0 y0
      all_goals (
        unfold six at e1
        refine ⟨_, x2, y2, leaf_in _ _ hm, ?_⟩
        rw [g__law_phrase]
        simp [RD.run, ex, ev, evA, big, t__law_phrase, e0, e1, hn, hn2, e2, hz, hc, hr])
end PG
set_option Elab.async false
set_option linter.all false
set_option maxRecDepth 1000000
set_option maxHeartbeats 0
/-! PgC: steps. -/
namespace PG
open PySem L2 RD
theorem fe (x : Int) : x.fmod 7 = x % 7 := Int.fmod_eq_emod_of_nonneg x (by decide)
def cF : T := .cmp .ne (.bin .mod (.var 2) (.cst (.int 7))) (.var 1)
theorem first_ok (day w : Int) (h0 : 0 ≤ w) (h1 : w < 7) (q : Bag) : g__law_first [.d (.int day), .d (.int w)] q = .ok (.d (.int (day + 1 + (w - day - 1) % 7))) q := by
  have key : ∀ (j n : Nat) (x : Int), j < n → (w - x) % 7 = j →
      whileR (fun s => ev (.cmp .ne (.bin .mod (.var 2) (.cst (.int 7))) (.var 1)) s) (fun s => ex (.seq (.asg (.tname 2) (.bin .add (.var 2) (.cst (.int 1)))) .nil) s) n ⟨[.val (.d (.int day)), .val (.d (.int w)), .val (.d (.int x))], q⟩ =
      .ok .nx ⟨[.val (.d (.int day)), .val (.d (.int w)), .val (.d (.int (x + j)))], q⟩ := by
    intro j
    induction j with
    | zero =>
      intro n x hn hx
      match n, hn with
      | n + 1, _ =>
        have e : (x % 7 == w) = true := by
          rw [beq_iff_eq]
          omega
        simp [whileR, ev, fe, e]
    | succ j ih =>
      intro n x hn hx
      match n, hn with
      | n + 1, hn =>
        have e : (x % 7 == w) = false := by
          rw [beq_eq_false_iff_ne]
          omega
        have := ih n (x + 1) (by omega) (by omega)
        have e2 : x + ((j + 1 : Nat) : Int) = x + 1 + (j : Int) := by omega
        rw [e2, ← this]
        simp [whileR, ev, ex, fe, e]
  have h := key ((w - (day + 1)) % 7).toNat 20 (day + 1) (by omega) (by omega)
  have e3 : day + 1 + (((w - (day + 1)) % 7).toNat : Int) = day + 1 + (w - day - 1) % 7 := by omega
  rw [e3] at h
  simp [g__law_first, RD.run, ex, ev, evA, big, t__law_first] at h ⊢
  simp [h]
theorem week_ok (b day : Int) (o nx c : PyData) (h0 : 0 ≤ b) (h1 : b < 7) (hd : -900000 ≤ day ∧ day ≤ 900000) (q : Bag) : g__law_week [.d (.tuple [.int b, o, nx, c]), .d (.int day)] q = .ok (.d (.list (rangeD (day - (day - b) % 7) 7))) q := by
  have key : ∀ (j n : Nat) (x : Int), j < n → (x - b) % 7 = j →
      whileR (fun s => ev (.cmp .ne (.bin .mod (.var 1) (.cst (.int 7))) (.idx (.var 0) (.cst (.int 0)))) s) (fun s => ex (.seq (.asg (.tname 1) (.bin .sub (.var 1) (.cst (.int 1)))) .nil) s) n ⟨[.val (.d (.tuple [.int b, o, nx, c])), .val (.d (.int x))], q⟩ =
      .ok .nx ⟨[.val (.d (.tuple [.int b, o, nx, c])), .val (.d (.int (x - j)))], q⟩ := by
    intro j
    induction j with
    | zero =>
      intro n x hn hx
      match n, hn with
      | n + 1, _ =>
        have e : (x % 7 == b) = true := by
          rw [beq_iff_eq]
          omega
        simp [whileR, ev, fe, e]
    | succ j ih =>
      intro n x hn hx
      match n, hn with
      | n + 1, hn =>
        have e : (x % 7 == b) = false := by
          rw [beq_eq_false_iff_ne]
          omega
        have := ih n (x - 1) (by omega) (by omega)
        have e2 : x - ((j + 1 : Nat) : Int) = x - 1 - (j : Int) := by omega
        rw [e2, ← this]
        simp [whileR, ev, ex, fe, e]
  have h := key ((day - b) % 7).toNat 20 day (by omega) (by omega)
  have e3 : day - (((day - b) % 7).toNat : Int) = day - (day - b) % 7 := by omega
  rw [e3] at h
  generalize hz : day - (day - b) % 7 = z at h
  have hz1 : -1000000 ≤ z ∧ z ≤ 900000 := by omega
  have c1 : (-1000000 ≤ z ∧ z ≤ 1000000) ∧ -1000000 ≤ z + 7 ∧ z + 7 ≤ 1000000 := by omega
  have e4 : (z + 7 - z).toNat = 7 := by omega
  simp [g__law_week, RD.run, ex, ev, evA, big, t__law_week] at h ⊢
  simp [h, c1, e4]
/-! ### words -/
theorem c_name : cmpop .eq (.str "name") k_AFTER = some false ∧ cmpop .eq (.str "name") k_BEFORE = some false ∧ cmpop .eq (.str "name") k_WEEK = some false ∧ cmpop .eq (.str "name") k_IN = some false ∧ cmpop .eq (.str "name") k_NAME = some true ∧ cmpop .eq (.str "name") k_THIS = some false ∧ cmpop .eq (.str "name") k_NEXT = some false ∧ cmpop .eq (.str "name") (.str "in") = some false ∧ cmpop .eq (.str "name") (.str "name") = some true ∧ cmpop .eq (.str "name") (.str "this") = some false ∧ cmpop .eq (.str "name") (.str "next") = some false ∧ cmpop .isin (.str "name") (.list [.str "after", .str "before", .str "week"]) = some false := ⟨by kernel_rfl, by kernel_rfl, by kernel_rfl, by kernel_rfl, by kernel_rfl, by kernel_rfl, by kernel_rfl, by kernel_rfl, by kernel_rfl, by kernel_rfl, by kernel_rfl, by kernel_rfl⟩
theorem c_this : cmpop .eq (.str "this") k_AFTER = some false ∧ cmpop .eq (.str "this") k_BEFORE = some false ∧ cmpop .eq (.str "this") k_WEEK = some false ∧ cmpop .eq (.str "this") k_IN = some false ∧ cmpop .eq (.str "this") k_NAME = some false ∧ cmpop .eq (.str "this") k_THIS = some true ∧ cmpop .eq (.str "this") k_NEXT = some false ∧ cmpop .eq (.str "this") (.str "in") = some false ∧ cmpop .eq (.str "this") (.str "name") = some false ∧ cmpop .eq (.str "this") (.str "this") = some true ∧ cmpop .eq (.str "this") (.str "next") = some false ∧ cmpop .isin (.str "this") (.list [.str "after", .str "before", .str "week"]) = some false := ⟨by kernel_rfl, by kernel_rfl, by kernel_rfl, by kernel_rfl, by kernel_rfl, by kernel_rfl, by kernel_rfl, by kernel_rfl, by kernel_rfl, by kernel_rfl, by kernel_rfl, by kernel_rfl⟩
theorem c_next : cmpop .eq (.str "next") k_AFTER = some false ∧ cmpop .eq (.str "next") k_BEFORE = some false ∧ cmpop .eq (.str "next") k_WEEK = some false ∧ cmpop .eq (.str "next") k_IN = some false ∧ cmpop .eq (.str "next") k_NAME = some false ∧ cmpop .eq (.str "next") k_THIS = some false ∧ cmpop .eq (.str "next") k_NEXT = some true ∧ cmpop .eq (.str "next") (.str "in") = some false ∧ cmpop .eq (.str "next") (.str "name") = some false ∧ cmpop .eq (.str "next") (.str "this") = some false ∧ cmpop .eq (.str "next") (.str "next") = some true ∧ cmpop .isin (.str "next") (.list [.str "after", .str "before", .str "week"]) = some false := ⟨by kernel_rfl, by kernel_rfl, by kernel_rfl, by kernel_rfl, by kernel_rfl, by kernel_rfl, by kernel_rfl, by kernel_rfl, by kernel_rfl, by kernel_rfl, by kernel_rfl, by kernel_rfl⟩
theorem c_last : cmpop .eq (.str "last") k_AFTER = some false ∧ cmpop .eq (.str "last") k_BEFORE = some false ∧ cmpop .eq (.str "last") k_WEEK = some false ∧ cmpop .eq (.str "last") k_IN = some false ∧ cmpop .eq (.str "last") k_NAME = some false ∧ cmpop .eq (.str "last") k_THIS = some false ∧ cmpop .eq (.str "last") k_NEXT = some false ∧ cmpop .eq (.str "last") (.str "in") = some false ∧ cmpop .eq (.str "last") (.str "name") = some false ∧ cmpop .eq (.str "last") (.str "this") = some false ∧ cmpop .eq (.str "last") (.str "next") = some false ∧ cmpop .isin (.str "last") (.list [.str "after", .str "before", .str "week"]) = some false := ⟨by kernel_rfl, by kernel_rfl, by kernel_rfl, by kernel_rfl, by kernel_rfl, by kernel_rfl, by kernel_rfl, by kernel_rfl, by kernel_rfl, by kernel_rfl, by kernel_rfl, by kernel_rfl⟩
theorem c_in : cmpop .eq (.str "in") k_AFTER = some false ∧ cmpop .eq (.str "in") k_BEFORE = some false ∧ cmpop .eq (.str "in") k_WEEK = some false ∧ cmpop .eq (.str "in") k_IN = some true ∧ cmpop .eq (.str "in") k_NAME = some false ∧ cmpop .eq (.str "in") k_THIS = some false ∧ cmpop .eq (.str "in") k_NEXT = some false ∧ cmpop .eq (.str "in") (.str "in") = some true ∧ cmpop .eq (.str "in") (.str "name") = some false ∧ cmpop .eq (.str "in") (.str "this") = some false ∧ cmpop .eq (.str "in") (.str "next") = some false ∧ cmpop .isin (.str "in") (.list [.str "after", .str "before", .str "week"]) = some false := ⟨by kernel_rfl, by kernel_rfl, by kernel_rfl, by kernel_rfl, by kernel_rfl, by kernel_rfl, by kernel_rfl, by kernel_rfl, by kernel_rfl, by kernel_rfl, by kernel_rfl, by kernel_rfl⟩
theorem c_after : cmpop .eq (.str "after") k_AFTER = some true ∧ cmpop .eq (.str "after") k_BEFORE = some false ∧ cmpop .eq (.str "after") k_WEEK = some false ∧ cmpop .eq (.str "after") k_IN = some false ∧ cmpop .eq (.str "after") k_NAME = some false ∧ cmpop .eq (.str "after") k_THIS = some false ∧ cmpop .eq (.str "after") k_NEXT = some false ∧ cmpop .eq (.str "after") (.str "in") = some false ∧ cmpop .eq (.str "after") (.str "name") = some false ∧ cmpop .eq (.str "after") (.str "this") = some false ∧ cmpop .eq (.str "after") (.str "next") = some false ∧ cmpop .isin (.str "after") (.list [.str "after", .str "before", .str "week"]) = some true := ⟨by kernel_rfl, by kernel_rfl, by kernel_rfl, by kernel_rfl, by kernel_rfl, by kernel_rfl, by kernel_rfl, by kernel_rfl, by kernel_rfl, by kernel_rfl, by kernel_rfl, by kernel_rfl⟩
theorem c_before : cmpop .eq (.str "before") k_AFTER = some false ∧ cmpop .eq (.str "before") k_BEFORE = some true ∧ cmpop .eq (.str "before") k_WEEK = some false ∧ cmpop .eq (.str "before") k_IN = some false ∧ cmpop .eq (.str "before") k_NAME = some false ∧ cmpop .eq (.str "before") k_THIS = some false ∧ cmpop .eq (.str "before") k_NEXT = some false ∧ cmpop .eq (.str "before") (.str "in") = some false ∧ cmpop .eq (.str "before") (.str "name") = some false ∧ cmpop .eq (.str "before") (.str "this") = some false ∧ cmpop .eq (.str "before") (.str "next") = some false ∧ cmpop .isin (.str "before") (.list [.str "after", .str "before", .str "week"]) = some true := ⟨by kernel_rfl, by kernel_rfl, by kernel_rfl, by kernel_rfl, by kernel_rfl, by kernel_rfl, by kernel_rfl, by kernel_rfl, by kernel_rfl, by kernel_rfl, by kernel_rfl, by kernel_rfl⟩
theorem c_week : cmpop .eq (.str "week") k_AFTER = some false ∧ cmpop .eq (.str "week") k_BEFORE = some false ∧ cmpop .eq (.str "week") k_WEEK = some true ∧ cmpop .eq (.str "week") k_IN = some false ∧ cmpop .eq (.str "week") k_NAME = some false ∧ cmpop .eq (.str "week") k_THIS = some false ∧ cmpop .eq (.str "week") k_NEXT = some false ∧ cmpop .eq (.str "week") (.str "in") = some false ∧ cmpop .eq (.str "week") (.str "name") = some false ∧ cmpop .eq (.str "week") (.str "this") = some false ∧ cmpop .eq (.str "week") (.str "next") = some false ∧ cmpop .isin (.str "week") (.list [.str "after", .str "before", .str "week"]) = some true := ⟨by kernel_rfl, by kernel_rfl, by kernel_rfl, by kernel_rfl, by kernel_rfl, by kernel_rfl, by kernel_rfl, by kernel_rfl, by kernel_rfl, by kernel_rfl, by kernel_rfl, by kernel_rfl⟩

/-- a habit's words -/
structure Hb (o nx c : Str) (on wk sc wi : Bool) : Prop where
  on : cmpop .eq (.str o) (.str "now") = some on
  wk : cmpop .eq (.str nx) (.str "week") = some wk
  sc : cmpop .eq (.str nx) (.str "second") = some sc
  wi : cmpop .eq (.str c) (.str "with") = some wi
def hab (b : Int) (o nx c : Str) : PyData := .tuple [.int b, .str o, .str nx, .str c]
inductive Kd where
  | nm | th | nx | lt | inn
def Kd.str : Kd → Str
  | .nm => "name" | .th => "this" | .nx => "next" | .lt => "last" | .inn => "in"
/-- the step of a phrase without words around -/
def leafStep (kd : Kd) (r b : Int) (on wk sc wi : Bool) (wd : Int) : Int := match kd with
  | .inn => r - (if wi = true then 1 else 0)
  | .nm => if (r == wd) = true ∧ on = true then 0 else 1 + (r - wd - 1) % 7
  | .th => (r - b) % 7 - (wd - b) % 7
  | .nx => if wk = true then (r - b) % 7 - (wd - b) % 7 + 7 else 1 + (r - wd - 1) % 7 + (if sc = true then 7 else 0)
  | .lt => if wk = true then (r - b) % 7 - (wd - b) % 7 - 7 else 0 - (1 + (wd - r - 1) % 7) - (if sc = true then 7 else 0)
theorem later_ok (a b : Int) (q : Bag) : g_later [.d (.int a), .d (.int b)] q = .ok (.d (.int (1 + (b - a - 1) % 7))) q := by
  simp [g_later, RD.run, ex, ev, evA, big, t_later, fe]
theorem inweek_ok (b wd r : Int) (o nx c : PyData) (q : Bag) : g_in_week [.d (.tuple [.int b, o, nx, c]), .d (.int wd), .d (.int r)] q = .ok (.d (.int ((r - b) % 7 - (wd - b) % 7))) q := by
  simp [g_in_week, RD.run, ex, ev, evA, big, t_in_week, fe]
theorem nstep_ok {o nx c : Str} {on wk sc wi : Bool} (H : Hb o nx c on wk sc wi) (b wd r : Int) (q : Bag) : g_next_step [.d (hab b o nx c), .d (.int wd), .d (.int r)] q = .ok (.d (.int (leafStep .nx r b on wk sc wi wd))) q := by
  have h1 := H.wk
  have h2 := H.sc
  have h3 := later_ok wd r q
  have h4 := inweek_ok b wd r (.str o) (.str nx) (.str c) q
  cases wk <;> cases sc <;> simp [g_next_step, RD.run, ex, ev, evA, big, t_next_step, hab, h1, h2, h3, h4, leafStep]
theorem lstep_ok {o nx c : Str} {on wk sc wi : Bool} (H : Hb o nx c on wk sc wi) (b wd r : Int) (q : Bag) : g_last_step [.d (hab b o nx c), .d (.int wd), .d (.int r)] q = .ok (.d (.int (leafStep .lt r b on wk sc wi wd))) q := by
  have h1 := H.wk
  have h2 := H.sc
  have h3 := later_ok r wd q
  have h4 := inweek_ok b wd r (.str o) (.str nx) (.str c) q
  cases wk <;> cases sc <;> simp [g_last_step, RD.run, ex, ev, evA, big, t_last_step, hab, h1, h2, h3, h4, leafStep]
theorem step_leaf {o nx c : Str} {on wk sc wi : Bool} (H : Hb o nx c on wk sc wi) (kd : Kd) (b wd r : Int) (n : Nat) (q : Bag) : g_step_of (n + 1) [.d (.tuple [.str kd.str, .int r]), .d (hab b o nx c), .d (.int wd)] q = .ok (.d (.int (leafStep kd r b on wk sc wi wd))) q := by
  have h1 := nstep_ok H b wd r q
  have h2 := lstep_ok H b wd r q
  have h3 := later_ok wd r q
  have h4 := inweek_ok b wd r (.str o) (.str nx) (.str c) q
  have h5 := H.on
  have h6 := H.wi
  cases kd with
  | nm =>
    obtain ⟨a1, a2, a3, a4, a5, a6, a7, _⟩ := c_name
    by_cases hr : r = wd
    · subst hr
      cases on <;> simp [g_step_of, RD.run, ex, ev, evA, big, t_step_of, Kd.str, a1, a2, a3, a4, a5, h3, h5, leafStep, hab]
    · simp [g_step_of, RD.run, ex, ev, evA, big, t_step_of, Kd.str, a1, a2, a3, a4, a5, h3, h5, leafStep, hab, hr]
  | th =>
    obtain ⟨a1, a2, a3, a4, a5, a6, a7, _⟩ := c_this
    simp [g_step_of, RD.run, ex, ev, evA, big, t_step_of, Kd.str, a1, a2, a3, a4, a5, a6, h4, leafStep, hab]
  | nx =>
    obtain ⟨a1, a2, a3, a4, a5, a6, a7, _⟩ := c_next
    simp [g_step_of, RD.run, ex, ev, evA, big, t_step_of, Kd.str, a1, a2, a3, a4, a5, a6, a7, h1]
  | lt =>
    obtain ⟨a1, a2, a3, a4, a5, a6, a7, _⟩ := c_last
    simp [g_step_of, RD.run, ex, ev, evA, big, t_step_of, Kd.str, a1, a2, a3, a4, a5, a6, a7, h2]
  | inn =>
    obtain ⟨a1, a2, a3, a4, a5, a6, a7, _⟩ := c_in
    cases wi <;> simp [g_step_of, RD.run, ex, ev, evA, big, t_step_of, Kd.str, a1, a2, a3, a4, h6, leafStep, hab]
/-! ### words around -/
inductive Ar where
  | af | bf | wk
def Ar.str : Ar → Str
  | .af => "after" | .bf => "before" | .wk => "week"
def Ar.val : Ar → Int
  | .af => 1 | .bf => -1 | .wk => 7
def encP (kd : Kd) (r : Int) : List Ar → PyData
  | [] => .tuple [.str kd.str, .int r]
  | a :: W => .tuple [.str a.str, encP kd r W]
def sumA : List Ar → Int
  | [] => 0
  | a :: W => sumA W + a.val
theorem step_ok {o nx c : Str} {on wk sc wi : Bool} (H : Hb o nx c on wk sc wi) (kd : Kd) (b wd r : Int) : ∀ (W : List Ar) (n : Nat) (q : Bag), W.length < n → g_step_of n [.d (encP kd r W), .d (hab b o nx c), .d (.int wd)] q = .ok (.d (.int (leafStep kd r b on wk sc wi wd + sumA W))) q
  | W, 0, q, h => absurd h (Nat.not_lt_zero _)
  | [], n + 1, q, _ => by
    have := step_leaf H kd b wd r n q
    simpa [encP, sumA] using this
  | a :: W, n + 1, q, h => by
    have ih := step_ok H kd b wd r W n q (Nat.lt_of_succ_lt_succ h)
    cases a with
    | af =>
      obtain ⟨a1, a2, a3, _⟩ := c_after
      simp [g_step_of, RD.run, ex, ev, evA, big, t_step_of, encP, Ar.str, Ar.val, a1, ih, sumA]
      omega
    | bf =>
      obtain ⟨a1, a2, a3, _⟩ := c_before
      simp [g_step_of, RD.run, ex, ev, evA, big, t_step_of, encP, Ar.str, Ar.val, a1, a2, ih, sumA]
      omega
    | wk =>
      obtain ⟨a1, a2, a3, _⟩ := c_week
      simp [g_step_of, RD.run, ex, ev, evA, big, t_step_of, encP, Ar.str, Ar.val, a1, a2, a3, ih, sumA]
      omega
/-! ### the law's own -/
def seven (r : Int) : PyData → Option PyData
  | .int x => if (x % 7 == r) = true then some (.int x) else none
  | _ => none
theorem seven_ok (z r : Int) (h0 : 0 ≤ r) (h1 : r < 7) : (rangeD z 7).filterMap (seven r) = [.int (z + (r - z) % 7)] := by
  have hr : rangeD z 7 = [.int (z + 0), .int (z + 1), .int (z + 2), .int (z + 3), .int (z + 4), .int (z + 5), .int (z + 6)] := rfl
  rw [hr]
  have s1 : ∀ i : Int, 0 ≤ i → i < 7 → (r - z) % 7 = i → seven r (.int (z + i)) = some (.int (z + (r - z) % 7)) := fun i a b c => by
    have : ((z + i) % 7 == r) = true := by
      rw [beq_iff_eq]
      omega
    show (if ((z + i) % 7 == r) = true then some (PyData.int (z + i)) else none) = _
    rw [if_pos this, c]
  have s2 : ∀ i : Int, 0 ≤ i → i < 7 → (r - z) % 7 ≠ i → seven r (.int (z + i)) = none := fun i a b c => by
    have : ¬ ((z + i) % 7 == r) = true := by
      rw [beq_iff_eq]
      omega
    exact if_neg this
  have hj : (r - z) % 7 = 0 ∨ (r - z) % 7 = 1 ∨ (r - z) % 7 = 2 ∨ (r - z) % 7 = 3 ∨ (r - z) % 7 = 4 ∨ (r - z) % 7 = 5 ∨ (r - z) % 7 = 6 := by omega
  have pick : ∀ i : Int, 0 ≤ i → i < 7 → seven r (.int (z + i)) = if (r - z) % 7 = i then some (.int (z + (r - z) % 7)) else none := fun i a b => by
    by_cases c : (r - z) % 7 = i
    · rw [if_pos c, s1 i a b c]
    · rw [if_neg c, s2 i a b c]
  simp only [List.filterMap_cons, List.filterMap_nil, pick 0 (by decide) (by decide), pick 1 (by decide) (by decide), pick 2 (by decide) (by decide), pick 3 (by decide) (by decide), pick 4 (by decide) (by decide), pick 5 (by decide) (by decide), pick 6 (by decide) (by decide)]
  generalize hm : z + (r - z) % 7 = y
  rcases hj with hj | hj | hj | hj | hj | hj | hj <;> rw [hj] <;> simp
/-- the day of that week -/
theorem here_ok (z r : Int) (h0 : 0 ≤ r) (h1 : r < 7) (a b c d e w : Slot) (q : Bag) : ∃ v, compR (fun x s => (R.ofS (asgT (.tname 6) x ⟨wipeS s.rho [6], s.bag⟩)).bind fun _ s => (ev (.one (.cmp .eq (.bin .mod (.var 6) (.cst (.int 7))) (.var 4))) s).tst fun k s => if k = true then (ev (.var 6) s).dat fun y s => .ok (some y) s else .ok none s) [] (rangeD z 7)
    ⟨[a, b, c, d, .val (.d (.int r)), e, .un, w, .un], q⟩ = .ok [.int (z + (r - z) % 7)] ⟨[a, b, c, d, .val (.d (.int r)), e, v, w, .un], q⟩ := by
  obtain ⟨s', h2, v, rfl⟩ := compR_ok (f := fun x s => (R.ofS (asgT (.tname 6) x ⟨wipeS s.rho [6], s.bag⟩)).bind fun _ s => (ev (.one (.cmp .eq (.bin .mod (.var 6) (.cst (.int 7))) (.var 4))) s).tst fun k s => if k = true then (ev (.var 6) s).dat fun y s => .ok (some y) s else .ok none s)
    (P := fun s => ∃ v, s = ⟨[a, b, c, d, .val (.d (.int r)), e, v, w, .un], q⟩) (g := seven r) (rangeD z 7) [] ⟨[a, b, c, d, .val (.d (.int r)), e, .un, w, .un], q⟩ ⟨.un, rfl⟩ (fun x hx s ⟨v, hs⟩ => by
      subst hs
      obtain ⟨k, _, rfl⟩ := mem_rangeD hx
      refine ⟨⟨[a, b, c, d, .val (.d (.int r)), e, .val (.d (.int (z + k))), w, .un], q⟩, ?_, _, rfl⟩
      cases hc : ((z + (k : Int)) % 7 == r) with
      | true =>
        have hs : seven r (.int (z + k)) = some (.int (z + k)) := if_pos hc
        rw [hs]
        simp [wipeS, ev, fe, hc]
      | false =>
        have hs : seven r (.int (z + k)) = none := if_neg (by rw [hc]; exact Bool.false_ne_true)
        rw [hs]
        simp [wipeS, ev, fe, hc]) (by show 0 + 7 ≤ 16777216; decide)
  refine ⟨v, ?_⟩
  rw [h2, seven_ok z r h0 h1]
  rfl
def hereT (g__law_week : G) : T := .idx (.comp [6] (.tname 6) (.itl (.call "_law_week" g__law_week (.acons (.var 1) (.acons (.var 2) .anil)))) (.one (.cmp .eq (.bin .mod (.var 6) (.cst (.int 7))) (.var 4))) (.var 6)) (.cst (.int 0))
theorem meant_eq (g__law_meant g__law_first g__law_week : G) : t__law_meant g__law_meant g__law_first g__law_week = .seq (.asg (.ttup (.acons (.tname 3) (.acons (.tname 4) (.anil)))) (.var 0)) (.seq (.iff (.cmp .isin (.var 3) (.lst (.acons (.cst (.str "after")) (.acons (.cst (.str "before")) (.acons (.cst (.str "week")) .anil))))) (.seq (.ret (.bin .add (.call "_law_meant" g__law_meant (.acons (.var 4) (.acons (.var 1) (.acons (.var 2) .anil)))) (.dix ["after", "before", "week"] [1, -1, 7] (.var 3)))) (.nil)) (.nil)) (.seq (.iff (.cmp .eq (.var 3) (.cst (.str "in"))) (.seq (.ret (.bin .sub (.bin .add (.var 2) (.var 4)) (.blt .int (.acons (.cmp .eq (.idx (.var 1) (.cst (.int 3))) (.cst (.str "with"))) .anil)))) (.nil)) (.nil)) (.seq (.iff (.cmp .eq (.var 3) (.cst (.str "name"))) (.seq (.ret (.ite (.and (.cmp .eq (.bin .mod (.var 2) (.cst (.int 7))) (.var 4)) (.one (.cmp .eq (.idx (.var 1) (.cst (.int 1))) (.cst (.str "now"))))) (.var 2) (.call "_law_first" g__law_first (.acons (.var 2) (.acons (.var 4) .anil))))) (.nil)) (.nil)) (.seq (.asg (.tname 5) (hereT g__law_week)) (.seq (.iff (.cmp .eq (.var 3) (.cst (.str "this"))) (.seq (.ret (.var 5)) (.nil)) (.nil)) (.seq (.asg (.tname 7) (.ite (.cmp .eq (.var 3) (.cst (.str "next"))) (.cst (.int 1)) (.neg (.cst (.int 1))))) (.seq (.iff (.cmp .eq (.idx (.var 1) (.cst (.int 2))) (.cst (.str "week"))) (.seq (.ret (.bin .add (.var 5) (.bin .mul (.cst (.int 7)) (.var 7)))) (.nil)) (.nil)) (.seq (.asg (.tname 8) (.ite (.cmp .eq (.var 3) (.cst (.str "next"))) (.call "_law_first" g__law_first (.acons (.var 2) (.acons (.var 4) .anil))) (.call "_law_first" g__law_first (.acons (.bin .sub (.var 2) (.cst (.int 8))) (.acons (.var 4) .anil))))) (.seq (.ret (.bin .add (.var 8) (.ite (.cmp .eq (.idx (.var 1) (.cst (.int 2))) (.cst (.str "second"))) (.bin .mul (.cst (.int 7)) (.var 7)) (.cst (.int 0))))) (.nil)))))))))) := rfl
theorem hereT_ok {b day r : Int} {o nx c : PyData} (hb : 0 ≤ b ∧ b < 7) (hr : 0 ≤ r ∧ r < 7) (hd : -800000 ≤ day ∧ day ≤ 800000) (p w : Slot) (q : Bag) : ev (hereT g__law_week) ⟨[p, .val (.d (.tuple [.int b, o, nx, c])), .val (.d (.int day)), w, .val (.d (.int r)), .un, .un, .un, .un], q⟩ =
    .ok (.d (.int (day - (day - b) % 7 + (r - (day - (day - b) % 7)) % 7))) ⟨[p, .val (.d (.tuple [.int b, o, nx, c])), .val (.d (.int day)), w, .val (.d (.int r)), .un, .un, .un, .un], q⟩ := by
  have hw := week_ok b day o nx c hb.1 hb.2 (by omega) q
  have e1 : evI (.itl (.call "_law_week" g__law_week (.acons (.var 1) (.acons (.var 2) .anil)))) ⟨[p, .val (.d (.tuple [.int b, o, nx, c])), .val (.d (.int day)), w, .val (.d (.int r)), .un, .un, .un, .un], q⟩ = .ok (rangeD (day - (day - b) % 7) 7) ⟨[p, .val (.d (.tuple [.int b, o, nx, c])), .val (.d (.int day)), w, .val (.d (.int r)), .un, .un, .un, .un], q⟩ := by
    simp [evI, ev, evA, hw]
  obtain ⟨v, e2⟩ := here_ok (day - (day - b) % 7) r hr.1 hr.2 p (.val (.d (.tuple [.int b, o, nx, c]))) (.val (.d (.int day))) w .un .un q
  have e3 : ev (.comp [6] (.tname 6) (.itl (.call "_law_week" g__law_week (.acons (.var 1) (.acons (.var 2) .anil)))) (.one (.cmp .eq (.bin .mod (.var 6) (.cst (.int 7))) (.var 4))) (.var 6)) ⟨[p, .val (.d (.tuple [.int b, o, nx, c])), .val (.d (.int day)), w, .val (.d (.int r)), .un, .un, .un, .un], q⟩ =
      .ok (.d (.list [.int (day - (day - b) % 7 + (r - (day - (day - b) % 7)) % 7)])) ⟨[p, .val (.d (.tuple [.int b, o, nx, c])), .val (.d (.int day)), w, .val (.d (.int r)), .un, .un, .un, .un], q⟩ := by
    show (R.bind (evI (.itl (.call "_law_week" g__law_week (.acons (.var 1) (.acons (.var 2) .anil)))) _) _) = _
    rw [e1]
    show (match compR _ [] (rangeD (day - (day - b) % 7) 7) ⟨[p, .val (.d (.tuple [.int b, o, nx, c])), .val (.d (.int day)), w, .val (.d (.int r)), .un, .un, .un, .un], q⟩ with
      | .ok ys s => R.ok (U.d (.list ys)) ⟨wipeS s.rho [6], s.bag⟩
      | _ => .stuck) = _
    rw [e2]
    rfl
  show ((ev (.comp [6] (.tname 6) (.itl (.call "_law_week" g__law_week (.acons (.var 1) (.acons (.var 2) .anil)))) (.one (.cmp .eq (.bin .mod (.var 6) (.cst (.int 7))) (.var 4))) (.var 6)) _).dat _) = _
  rw [e3]
  simp [ev]
theorem meant_leaf {o nx c : Str} {on wk sc wi : Bool} (H : Hb o nx c on wk sc wi) (kd : Kd) (b day r : Int) (hb : 0 ≤ b ∧ b < 7) (hr : kd = .inn ∨ 0 ≤ r ∧ r < 7) (hd : -800000 ≤ day ∧ day ≤ 800000) (n : Nat) (q : Bag) :
    g__law_meant (n + 1) [.d (.tuple [.str kd.str, .int r]), .d (hab b o nx c), .d (.int day)] q = .ok (.d (.int (day + leafStep kd r b on wk sc wi (day % 7)))) q := by
  have h5 := H.on
  have h6 := H.wi
  have h7 := H.wk
  have h8 := H.sc
  have hw := week_ok b day (.str o) (.str nx) (.str c) hb.1 hb.2 (by omega) q
  cases kd with
  | inn =>
    obtain ⟨_, _, _, _, _, _, _, a1, a2, a3, a4, a5⟩ := c_in
    cases wi <;> simp [g__law_meant, RD.run, ex, ev, evA, big, t__law_meant, Kd.str, a1, a5, h6, leafStep, hab, bltop] <;> omega
  | nm =>
    obtain ⟨_, _, _, _, _, _, _, a1, a2, a3, a4, a5⟩ := c_name
    obtain ⟨r0, r1⟩ := hr.resolve_left (by intro z; cases z)
    have hf := first_ok day r r0 r1 q
    by_cases e : day % 7 = r
    · cases on
      · simp [g__law_meant, RD.run, ex, ev, evA, big, t__law_meant, Kd.str, a1, a2, a5, h5, leafStep, hab, fe, e, hf]
        omega
      · simp [g__law_meant, RD.run, ex, ev, evA, big, t__law_meant, Kd.str, a1, a2, a5, h5, leafStep, hab, fe, e]
    · have e' : ¬ r = day % 7 := fun z => e z.symm
      simp [g__law_meant, RD.run, ex, ev, evA, big, t__law_meant, Kd.str, a1, a2, a5, h5, leafStep, hab, fe, e, e', hf]
      omega
  | th =>
    obtain ⟨_, _, _, _, _, _, _, a1, a2, a3, a4, a5⟩ := c_this
    have hr' := hr.resolve_left (by intro z; cases z)
    have he := fun p w => hereT_ok (o := .str o) (nx := .str nx) (c := .str c) hb hr' hd p w q
    simp [g__law_meant, RD.run, ex, ev, evA, big, meant_eq, Kd.str, a1, a2, a3, a5, leafStep, hab, he]
    omega
  | nx =>
    obtain ⟨_, _, _, _, _, _, _, a1, a2, a3, a4, a5⟩ := c_next
    have hr' := hr.resolve_left (by intro z; cases z)
    have he := fun p w => hereT_ok (o := .str o) (nx := .str nx) (c := .str c) hb hr' hd p w q
    have hf := first_ok day r hr'.1 hr'.2 q
    have c7 : CMul 7 1 := .inl ⟨by decide, by decide⟩
    cases wk <;> cases sc <;> simp [g__law_meant, RD.run, ex, ev, evA, big, meant_eq, Kd.str, a1, a2, a3, a4, a5, leafStep, hab, he, h7, h8, hf, c7] <;> omega
  | lt =>
    obtain ⟨_, _, _, _, _, _, _, a1, a2, a3, a4, a5⟩ := c_last
    have hr' := hr.resolve_left (by intro z; cases z)
    have he := fun p w => hereT_ok (o := .str o) (nx := .str nx) (c := .str c) hb hr' hd p w q
    have hf := first_ok (day - 8) r hr'.1 hr'.2 q
    have c7 : CMul 7 (-1) := .inl ⟨by decide, by decide⟩
    cases wk <;> cases sc <;> simp [g__law_meant, RD.run, ex, ev, evA, big, meant_eq, Kd.str, a1, a2, a3, a4, a5, leafStep, hab, he, h7, h8, hf, c7] <;> omega
theorem meant_ok {o nx c : Str} {on wk sc wi : Bool} (H : Hb o nx c on wk sc wi) (kd : Kd) (b day r : Int) (hb : 0 ≤ b ∧ b < 7) (hr : kd = .inn ∨ 0 ≤ r ∧ r < 7) (hd : -800000 ≤ day ∧ day ≤ 800000) : ∀ (W : List Ar) (n : Nat) (q : Bag), W.length < n →
    g__law_meant n [.d (encP kd r W), .d (hab b o nx c), .d (.int day)] q = .ok (.d (.int (day + leafStep kd r b on wk sc wi (day % 7) + sumA W))) q
  | W, 0, q, h => absurd h (Nat.not_lt_zero _)
  | [], n + 1, q, _ => by
    have := meant_leaf H kd b day r hb hr hd n q
    simpa [encP, sumA] using this
  | a :: W, n + 1, q, h => by
    have ih := meant_ok H kd b day r hb hr hd W n q (Nat.lt_of_succ_lt_succ h)
    cases a with
    | af =>
      obtain ⟨_, _, _, _, _, _, _, a1, a2, a3, a4, a5⟩ := c_after
      have hx : dsub ["after", "before", "week"] [1, -1, 7] "after" = some (.int 1) := by kernel_rfl
      simp [g__law_meant, RD.run, ex, ev, evA, big, meant_eq, encP, Ar.str, Ar.val, a5, ih, sumA, hx]
      omega
    | bf =>
      obtain ⟨_, _, _, _, _, _, _, a1, a2, a3, a4, a5⟩ := c_before
      have hx : dsub ["after", "before", "week"] [1, -1, 7] "before" = some (.int (-1)) := by kernel_rfl
      simp [g__law_meant, RD.run, ex, ev, evA, big, meant_eq, encP, Ar.str, Ar.val, a5, ih, sumA, hx]
      omega
    | wk =>
      obtain ⟨_, _, _, _, _, _, _, a1, a2, a3, a4, a5⟩ := c_week
      have hx : dsub ["after", "before", "week"] [1, -1, 7] "week" = some (.int 7) := by kernel_rfl
      simp [g__law_meant, RD.run, ex, ev, evA, big, meant_eq, encP, Ar.str, Ar.val, a5, ih, sumA, hx]
      omega
theorem lawstep_ok {o nx c : Str} {on wk sc wi : Bool} (H : Hb o nx c on wk sc wi) (kd : Kd) (b wd r : Int) (hb : 0 ≤ b ∧ b < 7) (hr : kd = .inn ∨ 0 ≤ r ∧ r < 7) (hd : 0 ≤ wd ∧ wd < 7) (W : List Ar) (q : Bag) (h : W.length < 6) :
    g__law_step [.d (encP kd r W), .d (hab b o nx c), .d (.int wd)] q = .ok (.d (.int (leafStep kd r b on wk sc wi wd + sumA W))) q := by
  have h1 := meant_ok H kd b (wd + 70) r hb hr (by omega) W 6 q h
  have h2 : (wd + 70) % 7 = wd := by omega
  rw [h2] at h1
  simp [g__law_step, RD.run, ex, ev, evA, big, t__law_step, h1]
  omega
end PG
set_option Elab.async false
set_option linter.all false
set_option maxRecDepth 1000000
set_option maxHeartbeats 0
/-! PgD: what is a phrase, on both sides. -/
namespace PG
open PySem L2 RD
/-- a whole number, no bool, within -/
def intB (lo hi : Int) : PyData → Bool
  | .int i => decide (lo ≤ i ∧ i ≤ hi)
  | _ => false
theorem isnum_ok (d : PyData) (h : d.canLay0 = true) (q : Bag) : g_is_number [.d d] q = .ok (.d (.bool (match d with | .int _ => true | _ => false))) q := by
  cases d <;> first | (simp [g_is_number, RD.run, ex, ev, evA, big, t_is_number, isiD]; done) | cases h
theorem isfrom_ok (d : PyData) (h : d.canLay0 = true) (lo hi : Int) (q : Bag) : g_is_from [.d d, .d (.int lo), .d (.int hi)] q = .ok (.d (.bool (intB lo hi d))) q := by
  have h1 := isnum_ok d h q
  cases d with
  | int i =>
    simp at h1
    by_cases a : lo ≤ i
    · simp [g_is_from, RD.run, ex, ev, evA, big, t_is_from, h1, intB, a]
    · simp [g_is_from, RD.run, ex, ev, evA, big, t_is_from, h1, intB, a]
  | dict _ => cases h
  | _ => (simp at h1; simp [g_is_from, RD.run, ex, ev, evA, big, t_is_from, h1, intB])
theorem lawint_ok (d : PyData) (h : d.canLay0 = true) (lo hi : Int) (q : Bag) : g__law_is_int [.d d, .d (.int lo), .d (.int hi)] q = .ok (.d (.bool (intB lo hi d))) q := by
  cases d <;> first | (simp [g__law_is_int, RD.run, ex, ev, evA, big, t__law_is_int, isiD, intB]; done) | skip
  · rename_i i
    by_cases a : lo ≤ i
    · simp [g__law_is_int, RD.run, ex, ev, evA, big, t__law_is_int, isiD, intB, a]
    · simp [g__law_is_int, RD.run, ex, ev, evA, big, t__law_is_int, isiD, intB, a]
  · cases h
/-- the words around; the named words -/
def arB (z : Str) : Bool := [("after" : Str), "before", "week"].any fun a => a == z
def nmB (z : Str) : Bool := [("name" : Str), "this", "next", "last"].any fun a => a == z
theorem inA (z : Str) (h : (PyData.str z).canLay0 = true) : cmpop .isin (.str z) k_AROUND = some (arB z) := by
  have h2 : SeqAt.shaped k_AROUND = true := by decide +kernel
  show (if (SeqAt.shaped (.str z) && SeqAt.shaped k_AROUND) = true then some _ else none) = _
  rw [shaped_str h, h2]
  rfl
theorem inAL (z : Str) (h : (PyData.str z).canLay0 = true) : cmpop .isin (.str z) (.list [.str "after", .str "before", .str "week"]) = some (arB z) := by
  have h2 : SeqAt.shaped (.list [.str "after", .str "before", .str "week"]) = true := by decide +kernel
  show (if (SeqAt.shaped (.str z) && SeqAt.shaped (.list [.str "after", .str "before", .str "week"])) = true then some _ else none) = _
  rw [shaped_str h, h2]
  rfl
theorem inN (z : Str) (h : (PyData.str z).canLay0 = true) : cmpop .isin (.str z) k_NAMED = some (nmB z) := by
  have h2 : SeqAt.shaped k_NAMED = true := by decide +kernel
  show (if (SeqAt.shaped (.str z) && SeqAt.shaped k_NAMED) = true then some _ else none) = _
  rw [shaped_str h, h2]
  rfl
theorem inNL (z : Str) (h : (PyData.str z).canLay0 = true) : cmpop .isin (.str z) (.list [.str "name", .str "this", .str "next", .str "last"]) = some (nmB z) := by
  have h2 : SeqAt.shaped (.list [.str "name", .str "this", .str "next", .str "last"]) = true := by decide +kernel
  show (if (SeqAt.shaped (.str z) && SeqAt.shaped (.list [.str "name", .str "this", .str "next", .str "last"])) = true then some _ else none) = _
  rw [shaped_str h, h2]
  rfl
def phB : Nat → PyData → Bool
  | m + 1, .tuple [.str z, x] => if arB z = true then phB m x else if (z == ("in" : Str)) = true then intB 1 15 x else nmB z && intB 0 6 x
  | _, _ => false
theorem can2 {a b : PyData} (h : (PyData.tuple [a, b]).canLay0 = true) : a.canLay0 = true ∧ b.canLay0 = true := by
  simpa [PyData.canLay0, PyData.canLayAll0] using h
theorem isp_any : ∀ (m n : Nat) (d : PyData) (q : Bag), m < n → d.canLay0 = true → g_is_phrase_of n [.d d, .d (.int (m : Int))] q = .ok (.d (.bool (phB m d))) q
  | m, 0, d, q, h, _ => absurd h (Nat.not_lt_zero _)
  | 0, n + 1, .tuple [.str z, x], q, _, hd => by
    simp [g_is_phrase_of, RD.run, ex, ev, evA, big, t_is_phrase_of, isiD, phB]
  | m + 1, n + 1, .tuple [.str z, x], q, h, hd => by
    obtain ⟨hz, hx⟩ := can2 hd
    have ih := isp_any m n x q (Nat.lt_of_succ_lt_succ h) hx
    have e0 : (((m + 1 : Nat) : Int) == 0) = false := by rw [beq_eq_false_iff_ne]; omega
    have e1 : ((m + 1 : Nat) : Int) - 1 = (m : Int) := by omega
    have hi : cmpop .eq (.str z) k_IN = some (z == ("in" : Str)) := cmp_eqs hz (by decide +kernel)
    have f1 := isfrom_ok x hx 1 15 q
    have f2 := isfrom_ok x hx 0 6 q
    generalize ((m + 1 : Nat) : Int) = M at e0 e1 ⊢
    cases ha : arB z <;> cases hb : (z == ("in" : Str)) <;> cases hc : nmB z <;>
      simp [g_is_phrase_of, RD.run, ex, ev, evA, big, t_is_phrase_of, isiD, phB, inA z hz, inN z hz, ha, hb, hc, hi, e0, e1, ih, f1, f2, k_MOST_DAYS]
  | m, n + 1, .none, q, _, hd => by cases m <;> simp [g_is_phrase_of, RD.run, ex, ev, evA, big, t_is_phrase_of, isiD, phB]
  | m, n + 1, .bool _, q, _, hd => by cases m <;> simp [g_is_phrase_of, RD.run, ex, ev, evA, big, t_is_phrase_of, isiD, phB]
  | m, n + 1, .int _, q, _, hd => by cases m <;> simp [g_is_phrase_of, RD.run, ex, ev, evA, big, t_is_phrase_of, isiD, phB]
  | m, n + 1, .str _, q, _, hd => by cases m <;> simp [g_is_phrase_of, RD.run, ex, ev, evA, big, t_is_phrase_of, isiD, phB]
  | m, n + 1, .list _, q, _, hd => by cases m <;> simp [g_is_phrase_of, RD.run, ex, ev, evA, big, t_is_phrase_of, isiD, phB]
  | m, n + 1, .dict _, q, _, hd => by cases hd
  | m, n + 1, .tuple [], q, _, hd => by cases m <;> simp [g_is_phrase_of, RD.run, ex, ev, evA, big, t_is_phrase_of, isiD, phB]
  | m, n + 1, .tuple [_], q, _, hd => by cases m <;> simp [g_is_phrase_of, RD.run, ex, ev, evA, big, t_is_phrase_of, isiD, phB]
  | m, n + 1, .tuple (_ :: _ :: _ :: r), q, _, hd => by
    have e : (((r.length : Int) + 1 + 1 + 1) == 2) = false := by rw [beq_eq_false_iff_ne]; omega
    cases m <;> simp [g_is_phrase_of, RD.run, ex, ev, evA, big, t_is_phrase_of, isiD, phB, e]
  | m, n + 1, .tuple [.none, _], q, _, hd => by cases m <;> simp [g_is_phrase_of, RD.run, ex, ev, evA, big, t_is_phrase_of, isiD, phB]
  | m, n + 1, .tuple [.bool _, _], q, _, hd => by cases m <;> simp [g_is_phrase_of, RD.run, ex, ev, evA, big, t_is_phrase_of, isiD, phB]
  | m, n + 1, .tuple [.int _, _], q, _, hd => by cases m <;> simp [g_is_phrase_of, RD.run, ex, ev, evA, big, t_is_phrase_of, isiD, phB]
  | m, n + 1, .tuple [.list _, _], q, _, hd => by cases m <;> simp [g_is_phrase_of, RD.run, ex, ev, evA, big, t_is_phrase_of, isiD, phB]
  | m, n + 1, .tuple [.tuple _, _], q, _, hd => by cases m <;> simp [g_is_phrase_of, RD.run, ex, ev, evA, big, t_is_phrase_of, isiD, phB]
  | m, n + 1, .tuple [.dict _, _], q, _, hd => by cases (can2 hd).1
theorem lisp_any : ∀ (m n : Nat) (d : PyData) (q : Bag), m < n → d.canLay0 = true → g__law_is_phrase n [.d d, .d (.int (m : Int))] q = .ok (.d (.bool (phB m d))) q
  | m, 0, d, q, h, _ => absurd h (Nat.not_lt_zero _)
  | 0, n + 1, .tuple [.str z, x], q, _, hd => by
    simp [g__law_is_phrase, RD.run, ex, ev, evA, big, t__law_is_phrase, isiD, phB]
  | m + 1, n + 1, .tuple [.str z, x], q, h, hd => by
    obtain ⟨hz, hx⟩ := can2 hd
    have ih := lisp_any m n x q (Nat.lt_of_succ_lt_succ h) hx
    have e0 : (((m + 1 : Nat) : Int) == 0) = false := by rw [beq_eq_false_iff_ne]; omega
    have e1 : ((m + 1 : Nat) : Int) - 1 = (m : Int) := by omega
    have hi : cmpop .eq (.str z) (.str "in") = some (z == ("in" : Str)) := cmp_eqs hz (by decide +kernel)
    have f1 := lawint_ok x hx 1 15 q
    have f2 := lawint_ok x hx 0 6 q
    generalize ((m + 1 : Nat) : Int) = M at e0 e1 ⊢
    cases ha : arB z <;> cases hb : (z == ("in" : Str)) <;> cases hc : nmB z <;>
      simp [g__law_is_phrase, RD.run, ex, ev, evA, big, t__law_is_phrase, isiD, phB, inAL z hz, inNL z hz, ha, hb, hc, hi, e0, e1, ih, f1, f2, k_MOST_DAYS]
  | m, n + 1, .none, q, _, hd => by
    cases m with
    | zero => simp [g__law_is_phrase, RD.run, ex, ev, evA, big, t__law_is_phrase, isiD, phB]
    | succ m =>
      have e0 : (((m : Nat) : Int) + 1 == 0) = false := by rw [beq_eq_false_iff_ne]; omega
      simp [g__law_is_phrase, RD.run, ex, ev, evA, big, t__law_is_phrase, isiD, phB, e0]
  | m, n + 1, .bool _, q, _, hd => by
    cases m with
    | zero => simp [g__law_is_phrase, RD.run, ex, ev, evA, big, t__law_is_phrase, isiD, phB]
    | succ m =>
      have e0 : (((m : Nat) : Int) + 1 == 0) = false := by rw [beq_eq_false_iff_ne]; omega
      simp [g__law_is_phrase, RD.run, ex, ev, evA, big, t__law_is_phrase, isiD, phB, e0]
  | m, n + 1, .int _, q, _, hd => by
    cases m with
    | zero => simp [g__law_is_phrase, RD.run, ex, ev, evA, big, t__law_is_phrase, isiD, phB]
    | succ m =>
      have e0 : (((m : Nat) : Int) + 1 == 0) = false := by rw [beq_eq_false_iff_ne]; omega
      simp [g__law_is_phrase, RD.run, ex, ev, evA, big, t__law_is_phrase, isiD, phB, e0]
  | m, n + 1, .str _, q, _, hd => by
    cases m with
    | zero => simp [g__law_is_phrase, RD.run, ex, ev, evA, big, t__law_is_phrase, isiD, phB]
    | succ m =>
      have e0 : (((m : Nat) : Int) + 1 == 0) = false := by rw [beq_eq_false_iff_ne]; omega
      simp [g__law_is_phrase, RD.run, ex, ev, evA, big, t__law_is_phrase, isiD, phB, e0]
  | m, n + 1, .list _, q, _, hd => by
    cases m with
    | zero => simp [g__law_is_phrase, RD.run, ex, ev, evA, big, t__law_is_phrase, isiD, phB]
    | succ m =>
      have e0 : (((m : Nat) : Int) + 1 == 0) = false := by rw [beq_eq_false_iff_ne]; omega
      simp [g__law_is_phrase, RD.run, ex, ev, evA, big, t__law_is_phrase, isiD, phB, e0]
  | m, n + 1, .dict _, q, _, hd => by cases hd
  | m, n + 1, .tuple [], q, _, hd => by
    cases m with
    | zero => simp [g__law_is_phrase, RD.run, ex, ev, evA, big, t__law_is_phrase, isiD, phB]
    | succ m =>
      have e0 : (((m : Nat) : Int) + 1 == 0) = false := by rw [beq_eq_false_iff_ne]; omega
      simp [g__law_is_phrase, RD.run, ex, ev, evA, big, t__law_is_phrase, isiD, phB, e0]
  | m, n + 1, .tuple [_], q, _, hd => by
    cases m with
    | zero => simp [g__law_is_phrase, RD.run, ex, ev, evA, big, t__law_is_phrase, isiD, phB]
    | succ m =>
      have e0 : (((m : Nat) : Int) + 1 == 0) = false := by rw [beq_eq_false_iff_ne]; omega
      simp [g__law_is_phrase, RD.run, ex, ev, evA, big, t__law_is_phrase, isiD, phB, e0]
  | m, n + 1, .tuple (_ :: _ :: _ :: r), q, _, hd => by
    have e : (((r.length : Int) + 1 + 1 + 1) == 2) = false := by rw [beq_eq_false_iff_ne]; omega
    cases m with
    | zero => simp [g__law_is_phrase, RD.run, ex, ev, evA, big, t__law_is_phrase, isiD, phB, e]
    | succ m =>
      have e0 : (((m : Nat) : Int) + 1 == 0) = false := by rw [beq_eq_false_iff_ne]; omega
      simp [g__law_is_phrase, RD.run, ex, ev, evA, big, t__law_is_phrase, isiD, phB, e, e0]
  | m, n + 1, .tuple [.none, _], q, _, hd => by
    cases m with
    | zero => simp [g__law_is_phrase, RD.run, ex, ev, evA, big, t__law_is_phrase, isiD, phB]
    | succ m =>
      have e0 : (((m : Nat) : Int) + 1 == 0) = false := by rw [beq_eq_false_iff_ne]; omega
      simp [g__law_is_phrase, RD.run, ex, ev, evA, big, t__law_is_phrase, isiD, phB, e0]
  | m, n + 1, .tuple [.bool _, _], q, _, hd => by
    cases m with
    | zero => simp [g__law_is_phrase, RD.run, ex, ev, evA, big, t__law_is_phrase, isiD, phB]
    | succ m =>
      have e0 : (((m : Nat) : Int) + 1 == 0) = false := by rw [beq_eq_false_iff_ne]; omega
      simp [g__law_is_phrase, RD.run, ex, ev, evA, big, t__law_is_phrase, isiD, phB, e0]
  | m, n + 1, .tuple [.int _, _], q, _, hd => by
    cases m with
    | zero => simp [g__law_is_phrase, RD.run, ex, ev, evA, big, t__law_is_phrase, isiD, phB]
    | succ m =>
      have e0 : (((m : Nat) : Int) + 1 == 0) = false := by rw [beq_eq_false_iff_ne]; omega
      simp [g__law_is_phrase, RD.run, ex, ev, evA, big, t__law_is_phrase, isiD, phB, e0]
  | m, n + 1, .tuple [.list _, _], q, _, hd => by
    cases m with
    | zero => simp [g__law_is_phrase, RD.run, ex, ev, evA, big, t__law_is_phrase, isiD, phB]
    | succ m =>
      have e0 : (((m : Nat) : Int) + 1 == 0) = false := by rw [beq_eq_false_iff_ne]; omega
      simp [g__law_is_phrase, RD.run, ex, ev, evA, big, t__law_is_phrase, isiD, phB, e0]
  | m, n + 1, .tuple [.tuple _, _], q, _, hd => by
    cases m with
    | zero => simp [g__law_is_phrase, RD.run, ex, ev, evA, big, t__law_is_phrase, isiD, phB]
    | succ m =>
      have e0 : (((m : Nat) : Int) + 1 == 0) = false := by rw [beq_eq_false_iff_ne]; omega
      simp [g__law_is_phrase, RD.run, ex, ev, evA, big, t__law_is_phrase, isiD, phB, e0]
  | m, n + 1, .tuple [.dict _, _], q, _, hd => by cases (can2 hd).1
end PG
set_option Elab.async false
set_option linter.all false
set_option maxRecDepth 1000000
set_option maxHeartbeats 0
/-! PgF: facts, on both sides. -/
namespace PG
open PySem L2 RD
def isI : PyData → Bool
  | .int _ => true
  | _ => false
def factB : PyData → Bool
  | .tuple [p, w, s] => phB 4 p && (intB 0 6 w && isI s)
  | _ => false
theorem can3 {a b c : PyData} (h : (PyData.tuple [a, b, c]).canLay0 = true) : a.canLay0 = true ∧ b.canLay0 = true ∧ c.canLay0 = true := by
  simpa [PyData.canLay0, PyData.canLayAll0] using h
theorem isphrase_any (d : PyData) (h : d.canLay0 = true) (q : Bag) : g_is_phrase [.d d] q = .ok (.d (.bool (phB 4 d))) q := by
  have := isp_any 4 6 d q (by decide) h
  have e : (((4 : Nat)) : Int) = 4 := rfl
  rw [e] at this
  simp [g_is_phrase, RD.run, ex, ev, evA, big, t_is_phrase, k_MOST_WORDS, this]
theorem isfact_any (d : PyData) (h : d.canLay0 = true) (q : Bag) : g_is_fact [.d d] q = .ok (.d (.bool (factB d))) q := by
  cases d with
  | dict _ => cases h
  | tuple xs =>
    match xs, h with
    | [], h => simp [g_is_fact, RD.run, ex, ev, evA, big, t_is_fact, isiD, factB]
    | [_], h => simp [g_is_fact, RD.run, ex, ev, evA, big, t_is_fact, isiD, factB]
    | [_, _], h => simp [g_is_fact, RD.run, ex, ev, evA, big, t_is_fact, isiD, factB]
    | [a, b, c], h =>
      obtain ⟨ha, hb, hc⟩ := can3 h
      have h1 := isphrase_any a ha q
      have h2 := isfrom_ok b hb 0 6 q
      have h3 : g_is_number [.d c] q = .ok (.d (.bool (isI c))) q := by
        have := isnum_ok c hc q
        cases c <;> exact this
      cases e1 : phB 4 a <;> cases e2 : intB 0 6 b <;> simp [g_is_fact, RD.run, ex, ev, evA, big, t_is_fact, isiD, factB, h1, h2, h3, e1, e2]
    | _ :: _ :: _ :: _ :: r, h =>
      have e : (((r.length : Int) + 1 + 1 + 1 + 1) == 3) = false := by rw [beq_eq_false_iff_ne]; omega
      simp [g_is_fact, RD.run, ex, ev, evA, big, t_is_fact, isiD, factB, e]
  | _ => simp [g_is_fact, RD.run, ex, ev, evA, big, t_is_fact, isiD, factB]
theorem forR_all {f : PyData → S → RD.R Out} {P : S → Prop} {g : PyData → Bool} {u : U} : ∀ (xs : List PyData) (s : S), P s → (∀ x ∈ xs, ∀ s, P s → ∃ s', f x s = .ok (if g x = true then .nx else .rt u) s' ∧ P s') →
    ∃ s', forR f xs s = .ok (if xs.all g = true then .nx else .rt u) s' ∧ P s'
  | [], s, h, _ => ⟨s, rfl, h⟩
  | x :: xs, s, h, k => by
    obtain ⟨s1, e1, h1⟩ := k x (List.mem_cons_self ..) s h
    cases hg : g x with
    | true =>
      obtain ⟨s2, e2, h2⟩ := forR_all xs s1 h1 fun y hy => k y (List.mem_cons_of_mem _ hy)
      refine ⟨s2, ?_, h2⟩
      show (f x s).bind _ = _
      rw [e1, hg, List.all_cons, hg, Bool.true_and]
      exact e2
    | false =>
      refine ⟨s1, ?_, h1⟩
      show (f x s).bind _ = _
      rw [e1, hg, List.all_cons, hg, Bool.false_and]
      rfl
/-- one row, by the law -/
def rowT : T := .seq (.iff (.or (.not (.isi .isTuple (.var 1))) (.or (.cmp .ne (.blt .len (.acons (.var 1) .anil)) (.cst (.int 3))) (.one (.not (.call "_law_is_phrase" (g__law_is_phrase 6) (.acons (.idx (.var 1) (.cst (.int 0))) (.acons (.cst (.int 4)) .anil))))))) (.seq (.ret (.cst (.bool false))) (.nil)) (.nil)) (.seq (.iff (.or (.not (.call "_law_is_int" g__law_is_int (.acons (.idx (.var 1) (.cst (.int 1))) (.acons (.cst (.int 0)) (.acons (.cst (.int 6)) .anil))))) (.one (.not (.call "_law_is_int" g__law_is_int (.acons (.idx (.var 1) (.cst (.int 2))) (.acons (.neg (.bin .pow (.cst (.int 10)) (.cst (.int 40)))) (.acons (.bin .pow (.cst (.int 10)) (.cst (.int 40))) .anil))))))) (.seq (.ret (.cst (.bool false))) (.nil)) (.nil)) (.nil))
def big40 : PyData → Prop
  | .tuple [_, _, .int i] => -(10 ^ 40) ≤ i ∧ i ≤ 10 ^ 40
  | _ => True
theorem row_ok (d : PyData) (h : d.canLay0 = true) (hb : big40 d) (v : PyData) (q : Bag) : ex rowT ⟨[.val (.d v), .val (.d d)], q⟩ = .ok (if factB d = true then .nx else .rt (.d (.bool false))) ⟨[.val (.d v), .val (.d d)], q⟩ := by
  cases d with
  | dict _ => cases h
  | tuple xs =>
    match xs, h, hb with
    | [], h, _ => simp [rowT, ex, ev, evA, big, isiD, factB]
    | [_], h, _ => simp [rowT, ex, ev, evA, big, isiD, factB]
    | [_, _], h, _ => simp [rowT, ex, ev, evA, big, isiD, factB]
    | [a, b, c], h, hb =>
      obtain ⟨ha, hb', hc⟩ := can3 h
      have h1 := lisp_any 4 6 a q (by decide) ha
      have e : (((4 : Nat)) : Int) = 4 := rfl
      rw [e] at h1
      have h2 := lawint_ok b hb' 0 6 q
      have h3 := lawint_ok c hc (-(10 ^ 40)) (10 ^ 40) q
      have hp : CPow 10 40 := ⟨by decide, by decide, by decide⟩
      have h4 : intB (-(10 ^ 40)) (10 ^ 40) c = isI c := by
        cases c with
        | int i =>
          have : -(10 ^ 40) ≤ i ∧ i ≤ 10 ^ 40 := hb
          exact decide_eq_true this
        | _ => rfl
      rw [h4] at h3
      simp at h3
      cases e1 : phB 4 a <;> cases e2 : intB 0 6 b <;> cases e3 : isI c <;> simp [rowT, ex, ev, evA, big, isiD, factB, h1, h2, h3, e1, e2, e3, hp]
    | _ :: _ :: _ :: _ :: r, h, _ =>
      have e : (((r.length : Int) + 1 + 1 + 1 + 1) == 3) = false := by rw [beq_eq_false_iff_ne]; omega
      simp [rowT, ex, ev, evA, big, isiD, factB, e]
  | _ => simp [rowT, ex, ev, evA, big, isiD, factB]
def factsB : PyData → Bool
  | .tuple xs => decide (xs.length ≤ 20) && xs.all factB
  | _ => false
theorem canAll {xs : List PyData} (h : (PyData.tuple xs).canLay0 = true) : ∀ x ∈ xs, x.canLay0 = true := by
  have h' : PyData.canLayAll0 xs = true := by simpa [PyData.canLay0] using h
  clear h
  induction xs with
  | nil => exact fun x hx => by cases hx
  | cons y ys ih =>
    have h2 : (y.canLay0 && PyData.canLayAll0 ys) = true := by simpa [PyData.canLayAll0] using h'
    rw [Bool.and_eq_true] at h2
    intro x hx
    rcases List.mem_cons.mp hx with rfl | hx
    · exact h2.1
    · exact ih h2.2 x hx
theorem lfacts_eq : t__law_is_facts (g__law_is_phrase 6) g__law_is_int = .seq (.iff (.or (.not (.isi .isTuple (.var 0))) (.one (.cmp .gt (.blt .len (.acons (.var 0) .anil)) (.cst (.int 20))))) (.seq (.ret (.cst (.bool false))) (.nil)) (.nil)) (.seq (.loop (.tname 1) (.itt (.var 0)) rowT) (.seq (.ret (.cst (.bool true))) (.nil))) := rfl
theorem lfacts_any (d : PyData) (h : d.canLay0 = true) (hb : ∀ xs, d = .tuple xs → ∀ x ∈ xs, big40 x) (q : Bag) : g__law_is_facts [.d d] q = .ok (.d (.bool (factsB d))) q := by
  cases d with
  | dict _ => cases h
  | tuple xs =>
    by_cases hl : xs.length ≤ 20
    · have hl' : ¬ ((20 : Int) < (xs.length : Int)) := by omega
      have hd : decide (xs.length ≤ 20) = true := decide_eq_true hl
      obtain ⟨s', h1, v, rfl⟩ := forR_all (f := fun x s => (R.ofS (asgT (.tname 1) x s)).bind fun _ s => ex rowT s) (P := fun s => ∃ v, s = ⟨[.val (.d (.tuple xs)), v], q⟩) (g := factB) (u := .d (.bool false)) xs ⟨[.val (.d (.tuple xs)), .un], q⟩ ⟨_, rfl⟩ (fun x hx s ⟨v, hs⟩ => by
        subst hs
        exact ⟨_, row_ok x (canAll h x hx) (hb xs rfl x hx) (.tuple xs) q, _, rfl⟩)
      rw [g__law_is_facts, lfacts_eq]
      cases ha : xs.all factB with
      | true =>
        rw [ha] at h1
        simp [RD.run, ex, ev, evA, evI, big, isiD, hl'] at h1 ⊢
        simp [h1, factsB, hd, ha]
      | false =>
        rw [ha] at h1
        simp [RD.run, ex, ev, evA, evI, big, isiD, hl'] at h1 ⊢
        simp [h1, factsB, hd, ha]
    · have hl' : ((20 : Int) < (xs.length : Int)) := by omega
      have hd : decide (xs.length ≤ 20) = false := decide_eq_false hl
      rw [g__law_is_facts, lfacts_eq]
      simp [RD.run, ex, ev, evA, evI, big, isiD, hl', factsB, hd]
  | _ =>
    rw [g__law_is_facts, lfacts_eq]
    simp [RD.run, ex, ev, evA, big, isiD, factsB]
end PG
set_option Elab.async false
set_option linter.all false
set_option maxRecDepth 1000000
set_option maxHeartbeats 0
/-! PgG: habits told back, on both sides. -/
namespace PG
open PySem L2 RD
theorem any_eq {l : List Str} {z : Str} (h : (l.any fun a => a == z) = true) : z ∈ l := by
  obtain ⟨a, ha, e⟩ := List.any_eq_true.mp h
  have : a = z := eq_of_beq e
  rwa [← this]
/-- what is recognized is a phrase -/
theorem phB_enc : ∀ (m : Nat) (p : PyData), phB m p = true → ∃ kd r W, p = encP kd r W ∧ W.length < m ∧ (kd = .inn ∨ 0 ≤ r ∧ r < 7)
  | 0, p, h => by
    unfold phB at h
    cases h
  | m + 1, p, h => by
    unfold phB at h
    split at h
    · rename_i m' z x e
      cases e
      split at h
      · rename_i ha
        obtain ⟨kd, r, W, rfl, h1, h2⟩ := phB_enc m x h
        have hz := any_eq ha
        simp only [List.mem_cons, List.not_mem_nil, or_false] at hz
        rcases hz with rfl | rfl | rfl
        · exact ⟨kd, r, .af :: W, rfl, Nat.succ_lt_succ h1, h2⟩
        · exact ⟨kd, r, .bf :: W, rfl, Nat.succ_lt_succ h1, h2⟩
        · exact ⟨kd, r, .wk :: W, rfl, Nat.succ_lt_succ h1, h2⟩
      · split at h
        · rename_i hi
          have hz : z = "in" := eq_of_beq hi
          subst hz
          cases x <;> first | cases h | skip
          rename_i r
          exact ⟨.inn, r, [], rfl, Nat.succ_pos m, .inl rfl⟩
        · rw [Bool.and_eq_true] at h
          have hz := any_eq h.1
          have h2 := h.2
          cases x <;> first | cases h2 | skip
          rename_i r
          have hr : 0 ≤ r ∧ r ≤ 6 := of_decide_eq_true h2
          simp only [List.mem_cons, List.not_mem_nil, or_false] at hz
          rcases hz with rfl | rfl | rfl | rfl
          · exact ⟨.nm, r, [], rfl, Nat.succ_pos m, .inr (by omega)⟩
          · exact ⟨.th, r, [], rfl, Nat.succ_pos m, .inr (by omega)⟩
          · exact ⟨.nx, r, [], rfl, Nat.succ_pos m, .inr (by omega)⟩
          · exact ⟨.lt, r, [], rfl, Nat.succ_pos m, .inr (by omega)⟩
    · cases h
def every : List PyData := ([0, 5, 6] : List Int).flatMap fun b => ([("later" : Str), "now"]).flatMap fun o => ([("coming" : Str), "second", "week"]).flatMap fun n => ([("from" : Str), "with"]).map fun c => hab b o n c
theorem every_ok (q : Bag) : g_all_habits_there_are [] q = .ok (.d (.list every)) q := by kernel_rfl
theorem hb_of {o n c : Str} (ho : o ∈ [("later" : Str), "now"]) (hn : n ∈ [("coming" : Str), "second", "week"]) (hc : c ∈ [("from" : Str), "with"]) : ∃ on wk sc wi, Hb o n c on wk sc wi := by
  have a : ∃ on, cmpop .eq (.str o) (.str "now") = some on := by
    simp only [List.mem_cons, List.not_mem_nil, or_false] at ho
    rcases ho with rfl | rfl
    · exact ⟨false, by kernel_rfl⟩
    · exact ⟨true, by kernel_rfl⟩
  have b : ∃ wk sc, cmpop .eq (.str n) (.str "week") = some wk ∧ cmpop .eq (.str n) (.str "second") = some sc := by
    simp only [List.mem_cons, List.not_mem_nil, or_false] at hn
    rcases hn with rfl | rfl | rfl
    · exact ⟨false, false, by kernel_rfl, by kernel_rfl⟩
    · exact ⟨false, true, by kernel_rfl, by kernel_rfl⟩
    · exact ⟨true, false, by kernel_rfl, by kernel_rfl⟩
  have d : ∃ wi, cmpop .eq (.str c) (.str "with") = some wi := by
    simp only [List.mem_cons, List.not_mem_nil, or_false] at hc
    rcases hc with rfl | rfl
    · exact ⟨false, by kernel_rfl⟩
    · exact ⟨true, by kernel_rfl⟩
  obtain ⟨on, a⟩ := a
  obtain ⟨wk, sc, b1, b2⟩ := b
  obtain ⟨wi, d⟩ := d
  exact ⟨on, wk, sc, wi, a, b1, b2, d⟩
theorem every_in {h : PyData} (hh : h ∈ every) : ∃ b o n c on wk sc wi, h = hab b o n c ∧ (0 ≤ b ∧ b < 7) ∧ Hb o n c on wk sc wi := by
  obtain ⟨b, hb, h1⟩ := List.mem_flatMap.mp hh
  obtain ⟨o, ho, h2⟩ := List.mem_flatMap.mp h1
  obtain ⟨n, hn, h3⟩ := List.mem_flatMap.mp h2
  obtain ⟨c, hc, rfl⟩ := List.mem_map.mp h3
  obtain ⟨on, wk, sc, wi, H⟩ := hb_of ho hn hc
  refine ⟨b, o, n, c, on, wk, sc, wi, rfl, ?_, H⟩
  simp only [List.mem_cons, List.not_mem_nil, or_false] at hb
  rcases hb with rfl | rfl | rfl <;> decide
/-- both steps are the same number -/
theorem both_steps {p h : PyData} (hp : phB 4 p = true) (hh : h ∈ every) {wd : Int} (hw : 0 ≤ wd ∧ wd ≤ 6) : ∃ i : Int, ∀ q, g_step_of 6 [.d p, .d h, .d (.int wd)] q = .ok (.d (.int i)) q ∧ g__law_step [.d p, .d h, .d (.int wd)] q = .ok (.d (.int i)) q := by
  obtain ⟨kd, r, W, rfl, h1, h2⟩ := phB_enc 4 p hp
  obtain ⟨b, o, n, c, on, wk, sc, wi, rfl, hb, H⟩ := every_in hh
  exact ⟨_, fun q => ⟨step_ok H kd b wd r W 6 q (by omega), lawstep_ok H kd b wd r hb h2 (by omega) W q (by omega)⟩⟩
end PG
set_option Elab.async false
set_option linter.all false
set_option maxRecDepth 1000000
set_option maxHeartbeats 0
/-! PgH: habits and lots: what is one, what is drawn. -/
namespace PG
open PySem L2 RD
/-! ### habits -/
def beginB : PyData → Bool
  | .int i => i == 0 || (i == 5 || i == 6)
  | _ => false
def wordB (l : List Str) : PyData → Bool
  | .str z => l.any fun a => a == z
  | _ => false
def habB : PyData → Bool
  | .tuple [b, o, n, c] => beginB b && (wordB ["later", "now"] o && (wordB ["coming", "second", "week"] n && wordB ["from", "with"] c))
  | _ => false
theorem isword_any (d : PyData) (h : d.canLay0 = true) (l : List Str) (hl : SeqAt.shaped (.tuple (l.map .str)) = true) (q : Bag) : g_is_word [.d d, .d (.tuple (l.map .str))] q = .ok (.d (.bool (wordB l d))) q := by
  cases d with
  | dict _ => cases h
  | str z =>
    have e : cmpop .isin (.str z) (.tuple (l.map .str)) = some (l.any fun a => a == z) := by
      show (if (SeqAt.shaped (.str z) && SeqAt.shaped (.tuple (l.map .str))) = true then some ((l.map PyData.str).any fun y => PyData.eqv y (.str z)) else none) = _
      rw [shaped_str h, hl, List.any_map]
      rfl
    simp [g_is_word, RD.run, ex, ev, evA, big, t_is_word, isiD, e, wordB]
  | _ => simp [g_is_word, RD.run, ex, ev, evA, big, t_is_word, isiD, wordB]
theorem notBegin (i : Int) : cmpop .notin (.int i) k_BEGINS = some (!(beginB (.int i))) := by
  have h2 : SeqAt.shaped k_BEGINS = true := by decide +kernel
  show (if (SeqAt.shaped (.int i) && SeqAt.shaped k_BEGINS) = true then some _ else none) = _
  rw [h2, show SeqAt.shaped (.int i) = true from rfl]
  show some (!((0 == i) || ((5 == i) || ((6 == i) || false)))) = some (!(i == 0 || (i == 5 || i == 6)))
  have sw : ∀ a b : Int, (a == b) = (b == a) := fun a b => by
    rw [Bool.eq_iff_iff, beq_iff_eq, beq_iff_eq]
    exact eq_comm
  rw [Bool.or_false, sw 0, sw 5, sw 6]
theorem can4 {a b c d : PyData} (h : (PyData.tuple [a, b, c, d]).canLay0 = true) : a.canLay0 = true ∧ b.canLay0 = true ∧ c.canLay0 = true ∧ d.canLay0 = true := by
  simpa [PyData.canLay0, PyData.canLayAll0] using h
theorem ishabit_any (d : PyData) (h : d.canLay0 = true) (q : Bag) : g_is_habit [.d d] q = .ok (.d (.bool (habB d))) q := by
  cases d with
  | dict _ => cases h
  | tuple xs =>
    match xs, h with
    | [], h => simp [g_is_habit, RD.run, ex, ev, evA, big, t_is_habit, isiD, habB]
    | [_], h => simp [g_is_habit, RD.run, ex, ev, evA, big, t_is_habit, isiD, habB]
    | [_, _], h => simp [g_is_habit, RD.run, ex, ev, evA, big, t_is_habit, isiD, habB]
    | [_, _, _], h => simp [g_is_habit, RD.run, ex, ev, evA, big, t_is_habit, isiD, habB]
    | [a, b, c, d], h =>
      obtain ⟨ha, hb, hc, hd⟩ := can4 h
      have h1 := isnum_ok a ha q
      have h2 : g_is_word [.d b, .d k_OWN] q = _ := isword_any b hb ["later", "now"] (by decide +kernel) q
      have h3 : g_is_word [.d c, .d k_NEXTS] q = _ := isword_any c hc ["coming", "second", "week"] (by decide +kernel) q
      have h4 : g_is_word [.d d, .d k_COUNTS] q = _ := isword_any d hd ["from", "with"] (by decide +kernel) q
      cases a with
      | int i =>
        simp at h1
        have h5 := notBegin i
        cases e1 : beginB (.int i) <;> cases e2 : wordB ["later", "now"] b <;> cases e3 : wordB ["coming", "second", "week"] c <;>
          simp [g_is_habit, RD.run, ex, ev, evA, big, t_is_habit, isiD, habB, h1, h2, h3, h4, h5, e1, e2, e3]
      | _ =>
        simp at h1
        simp [g_is_habit, RD.run, ex, ev, evA, big, t_is_habit, isiD, habB, h1, beginB]
    | _ :: _ :: _ :: _ :: _ :: r, h =>
      have e : (((r.length : Int) + 1 + 1 + 1 + 1 + 1) == 4) = false := by rw [beq_eq_false_iff_ne]; omega
      simp [g_is_habit, RD.run, ex, ev, evA, big, t_is_habit, isiD, habB, e]
  | _ => simp [g_is_habit, RD.run, ex, ev, evA, big, t_is_habit, isiD, habB]
theorem habB_in {h : PyData} (e : habB h = true) : h ∈ every := by
  unfold habB at e
  split at e
  · rename_i b o n c
    rw [Bool.and_eq_true, Bool.and_eq_true, Bool.and_eq_true] at e
    obtain ⟨e1, e2, e3, e4⟩ := e
    have f1 : ∃ i ∈ ([0, 5, 6] : List Int), b = .int i := by
      cases b with
      | int i =>
        refine ⟨i, ?_, rfl⟩
        simp [beginB] at e1
        simp [e1]
      | _ => cases e1
    have fw : ∀ {l : List Str} {d : PyData}, wordB l d = true → ∃ z ∈ l, d = .str z := fun {l d} h => by
      cases d with
      | str z => exact ⟨z, any_eq h, rfl⟩
      | _ => cases h
    obtain ⟨i, i1, rfl⟩ := f1
    obtain ⟨o', o1, rfl⟩ := fw e2
    obtain ⟨n', n1, rfl⟩ := fw e3
    obtain ⟨c', c1, rfl⟩ := fw e4
    exact List.mem_flatMap.mpr ⟨i, i1, List.mem_flatMap.mpr ⟨o', o1, List.mem_flatMap.mpr ⟨n', n1, List.mem_map.mpr ⟨c', c1, rfl⟩⟩⟩⟩
  · cases e
def okHab (h : PyData) : Bool := habB h && (h.canLay0 && (decide (h.depth ≤ 1) && (nestB h && (tup1 h && isTupD h))))
theorem every_all : every.all okHab = true := by decide +kernel
theorem every_hab {h : PyData} (hh : h ∈ every) : habB h = true ∧ h.canLay0 = true ∧ h.depth ≤ 1 ∧ nestB h = true ∧ tup1 h = true ∧ isTupD h = true := by
  have := List.all_eq_true.mp every_all h hh
  unfold okHab at this
  simp only [Bool.and_eq_true, decide_eq_true_eq] at this
  exact this
theorem every_alike : (every.all fun x => every.all fun y => PySem.W.alike x y) = true := by decide +kernel
theorem hab_alike {x y : PyData} (hx : x ∈ every) (hy : y ∈ every) : PySem.W.alike x y = true := List.all_eq_true.mp (List.all_eq_true.mp every_alike x hx) y hy
theorem habs_alike {xs : List PyData} (h : ∀ x ∈ xs, x ∈ every) : PySem.W.AllAlike xs := fun x hx y hy => hab_alike (h x hx) (h y hy)
theorem habs_ok {xs : List PyData} (h : ∀ x ∈ xs, x ∈ every) (hl : xs.length < 64) : uniqOk xs = true := by
  have a1 : xs.all isTupD = true := List.all_eq_true.mpr fun x hx => (every_hab (h x hx)).2.2.2.2.2
  have a2 : xs.all nestB = true := List.all_eq_true.mpr fun x hx => (every_hab (h x hx)).2.2.2.1
  have a3 : alikeB xs = true := List.all_eq_true.mpr fun x hx => List.all_eq_true.mpr fun y hy => hab_alike (h x hx) (h y hy)
  have a4 : xs.all tup1 = true := List.all_eq_true.mpr fun x hx => (every_hab (h x hx)).2.2.2.2.1
  have a5 := uniq_len xs
  unfold uniqOk setOk
  rw [a1, a2, a3, a4, decide_eq_true (show (uniqD xs).length < 64 by omega)]
  simp
/-! ### lots -/
theorem shaped_habs {xs : List PyData} (h : ∀ x ∈ xs, x ∈ every) : SeqAt.shaped (.list xs) = true := shaped_list (n := 1) (fun x hx => (every_hab (h x hx)).2.1) (fun x hx => (every_hab (h x hx)).2.2.1) (by decide)
theorem shaped_habsT {xs : List PyData} (h : ∀ x ∈ xs, x ∈ every) : SeqAt.shaped (.tuple xs) = true := shaped_tup (n := 1) (fun x hx => (every_hab (h x hx)).2.1) (fun x hx => (every_hab (h x hx)).2.2.1) (by decide)
/-- each is less than the next -/
def upB : List PyData → Bool
  | x :: y :: r => PySem.W.dataLt x y && upB (y :: r)
  | _ => true
theorem upB_up : ∀ {xs : List PyData}, upB xs = true ↔ Up xs
  | [] => by simp [upB, Up]
  | [x] => by simp [upB, Up]
  | x :: y :: r => by
    have ih := upB_up (xs := y :: r)
    unfold upB
    rw [Bool.and_eq_true, ih]
    constructor
    · rintro ⟨h1, h2⟩
      refine List.pairwise_cons.mpr ⟨fun z hz => ?_, h2⟩
      rcases List.mem_cons.mp hz with rfl | hz
      · exact h1
      · exact lt_tr h1 ((List.pairwise_cons.mp h2).1 z hz)
    · intro h
      obtain ⟨h1, h2⟩ := List.pairwise_cons.mp h
      exact ⟨h1 y List.mem_cons_self, h2⟩
def lotB : PyData → Bool
  | .tuple xs => decide (1 ≤ xs.length ∧ xs.length ≤ 8) && (xs.all habB && upB xs)
  | _ => false
theorem alikeAll_of : ∀ {xs ys : List PyData}, (∀ x ∈ xs, ∀ y ∈ ys, PySem.W.alike x y = true) → PySem.W.alikeAll xs ys = true
  | [], _, _ => by simp [PySem.W.alikeAll]
  | _ :: _, [], _ => by simp [PySem.W.alikeAll]
  | x :: xs, y :: ys, h => by
    rw [PySem.W.alikeAll, h x List.mem_cons_self y List.mem_cons_self, alikeAll_of fun a ha b hb => h a (List.mem_cons_of_mem _ ha) b (List.mem_cons_of_mem _ hb)]
    rfl
theorem allB_map (xs : List PyData) (p : PyData → Bool) : allB (xs.map fun x => PyData.bool (p x)) = some (xs.all p) := by
  induction xs with
  | nil => rfl
  | cons x xs ih =>
    show (allB (xs.map _)).map _ = _
    rw [ih]
    rfl
theorem eq_sorted {xs : List PyData} (h : ∀ x ∈ xs, x ∈ every) : cmpop .eq (.list xs) (.list (uniqD xs)) = some (upB xs) := by
  have al := habs_alike h
  have h2 : ∀ x ∈ uniqD xs, x ∈ every := fun x hx => h x ((uniq_mem al x).mp hx)
  cases hu : upB xs with
  | true =>
    have e : uniqD xs = xs := uniq_eq al (upB_up.mp hu) fun z => Iff.rfl
    rw [e]
    exact eq_self (shaped_habs h)
  | false =>
    show (if (SeqAt.shaped (.list xs) && SeqAt.shaped (.list (uniqD xs))) = true then some (PyData.eqv (.list xs) (.list (uniqD xs))) else none) = _
    rw [shaped_habs h, shaped_habs h2]
    show some (PyData.eqv (.list xs) (.list (uniqD xs))) = _
    cases q : PyData.eqv (.list xs) (.list (uniqD xs)) with
    | false => rfl
    | true =>
      have e := eq_of_eqv _ _ (show PySem.W.alike (.list xs) (.list (uniqD xs)) = true by
        rw [PySem.W.alike]
        exact alikeAll_of fun x hx y hy => hab_alike (h x hx) (h2 y hy)) q
      have e2 : xs = uniqD xs := PyData.list.inj e
      have : upB xs = true := upB_up.mpr (by rw [e2]; exact uniq_up al)
      rw [hu] at this
      cases this
theorem islot_any (d : PyData) (h : d.canLay0 = true) (q : Bag) : g_is_lot [.d d] q = .ok (.d (.bool (lotB d))) q := by
  cases d with
  | dict _ => cases h
  | tuple xs =>
    have hc := canAll h
    by_cases h1 : 1 ≤ xs.length
    · by_cases h8 : xs.length ≤ 8
      · have i1 : (1 : Int) ≤ (xs.length : Int) := by omega
        have i8 : (xs.length : Int) ≤ 8 := by omega
        have hl : decide (1 ≤ xs.length ∧ xs.length ≤ 8) = true := decide_eq_true ⟨h1, h8⟩
        have hm : ev (c_is_lot_1 g_is_habit) ⟨[.val (.d (.tuple xs)), .un], q⟩ = .ok (.d (.list (xs.map fun x => PyData.bool (habB x)))) ⟨[.val (.d (.tuple xs)), .un], q⟩ :=
          comp_all (i := 1) (rho := [.val (.d (.tuple xs)), .un]) (f := fun x => PyData.bool (habB x)) (by simp [evI, ev]) (by show xs.length ≤ 16777216; omega) fun x hx => by
            have := ishabit_any x (hc x hx) q
            simp [ev, evA, this]
        have ha : bltop .all [.list (xs.map fun x => PyData.bool (habB x))] = some (.bool (xs.all habB)) := by
          show (allB _).map PyData.bool = _
          rw [allB_map]
          rfl
        cases hall : xs.all habB with
        | false =>
          simp [g_is_lot, RD.run, ex, ev, evA, big, t_is_lot, isiD, i1, i8, hm, ha, hall, lotB]
        | true =>
          have hin : ∀ x ∈ xs, x ∈ every := fun x hx => habB_in (List.all_eq_true.mp hall x hx)
          have hu : uniqop (.tuple xs) = some (.list (uniqD xs)) := by
            show (if uniqOk xs = true then _ else _) = _
            rw [habs_ok hin (by omega)]
            rfl
          have he := eq_sorted hin
          have hb : bltop .list [.tuple xs] = some (.list xs) := rfl
          simp [g_is_lot, RD.run, ex, ev, evA, big, t_is_lot, isiD, i1, i8, hm, ha, hall, lotB, hu, he, hb, hl]
      · have i1 : (1 : Int) ≤ (xs.length : Int) := by omega
        have i8 : ¬ (xs.length : Int) ≤ 8 := by omega
        have hl : decide (1 ≤ xs.length ∧ xs.length ≤ 8) = false := decide_eq_false fun z => h8 z.2
        simp [g_is_lot, RD.run, ex, ev, evA, big, t_is_lot, isiD, i1, i8, lotB, hl]
    · have i1 : ¬ (1 : Int) ≤ (xs.length : Int) := by omega
      have hl : decide (1 ≤ xs.length ∧ xs.length ≤ 8) = false := decide_eq_false fun z => h1 z.1
      simp [g_is_lot, RD.run, ex, ev, evA, big, t_is_lot, isiD, i1, lotB, hl]
  | _ => simp [g_is_lot, RD.run, ex, ev, evA, big, t_is_lot, isiD, lotB]
/-- a lot, as the law draws it -/
structure LotD (l : List PyData) : Prop where
  hab : ∀ h ∈ l, h ∈ every
  up : Up l
  few : l.length ≤ 8
  some : 1 ≤ l.length
theorem LotD.lot {l : List PyData} (L : LotD l) : lotB (.tuple l) = true := by
  show (decide _ && (l.all habB && upB l)) = true
  rw [decide_eq_true ⟨L.some, L.few⟩, List.all_eq_true.mpr fun h hh => (every_hab (L.hab h hh)).1, upB_up.mpr L.up]
  rfl
theorem LotD.lay {l : List PyData} (L : LotD l) : (PyData.tuple l).canLay0 = true := SeqAt.canLay_of_shaped (shaped_habsT L.hab)
theorem hab_lay {h : PyData} (hh : h ∈ every) : h.canLay0 = true := (every_hab hh).2.1
/-! ### drawing -/
theorem habit_ok (x y : Int) : ∃ h x' y', h ∈ every ∧ g__law_habit [.bag] (some (x, y)) = .ok (.d h) (some (x', y')) := by
  obtain ⟨b, x1, y1, hb, e1⟩ := of_ok [.int 0, .int 5, .int 6] (by simp) (by simp) x y
  obtain ⟨o, x2, y2, ho, e2⟩ := of_ok [.str "now", .str "later"] (by simp) (by simp) x1 y1
  obtain ⟨n, x3, y3, hn, e3⟩ := of_ok [.str "coming", .str "second", .str "week"] (by simp) (by simp) x2 y2
  obtain ⟨c, x4, y4, hc, e4⟩ := of_ok [.str "from", .str "with"] (by simp) (by simp) x3 y3
  refine ⟨.tuple [b, o, n, c], x4, y4, ?_, ?_⟩
  · simp only [List.mem_cons, List.not_mem_nil, or_false] at hb ho hn hc
    have f1 : ∃ i ∈ ([0, 5, 6] : List Int), b = .int i := by
      rcases hb with rfl | rfl | rfl
      · exact ⟨0, by simp, rfl⟩
      · exact ⟨5, by simp, rfl⟩
      · exact ⟨6, by simp, rfl⟩
    have f2 : ∃ z ∈ [("later" : Str), "now"], o = .str z := by
      rcases ho with rfl | rfl
      · exact ⟨_, .tail _ (.head _), rfl⟩
      · exact ⟨_, .head _, rfl⟩
    have f3 : ∃ z ∈ [("coming" : Str), "second", "week"], n = .str z := by
      rcases hn with rfl | rfl | rfl
      · exact ⟨_, .head _, rfl⟩
      · exact ⟨_, .tail _ (.head _), rfl⟩
      · exact ⟨_, .tail _ (.tail _ (.head _)), rfl⟩
    have f4 : ∃ z ∈ [("from" : Str), "with"], c = .str z := by
      rcases hc with rfl | rfl
      · exact ⟨_, .head _, rfl⟩
      · exact ⟨_, .tail _ (.head _), rfl⟩
    obtain ⟨i, i1, rfl⟩ := f1
    obtain ⟨o', o1, rfl⟩ := f2
    obtain ⟨n', n1, rfl⟩ := f3
    obtain ⟨c', c1, rfl⟩ := f4
    exact List.mem_flatMap.mpr ⟨i, i1, List.mem_flatMap.mpr ⟨o', o1, List.mem_flatMap.mpr ⟨n', n1, List.mem_map.mpr ⟨c', c1, rfl⟩⟩⟩⟩
  · simp [g__law_habit, RD.run, ex, ev, evA, big, t__law_habit, e1, e2, e3, e4]
theorem lot_ok {m : Int} (h1 : 1 ≤ m) (h8 : m ≤ 8) (x y : Int) : ∃ l x' y', LotD l ∧ l.length ≤ m.toNat ∧ g__law_lot [.bag, .d (.int m)] (some (x, y)) = .ok (.d (.tuple l)) (some (x', y')) := by
  obtain ⟨r, x1, y1, r0, r1, e1⟩ := take_ok (m := m) h1 (by omega) x y
  have hr : 1 + r ≤ 1000000 ∧ -1000000 ≤ 1 + r := by omega
  obtain ⟨ys, x2, y2, n1, g1, e2⟩ := comp_draw (i := 2) (it := .itr1 (.bin .add (.cst (.int 1)) (.call "_law_take" g__law_take (.acons (.var 0) (.acons (.var 1) .anil))))) (e := .call "_law_habit" g__law_habit (.acons (.var 0) .anil))
    (rho := [.val .bag, .val (.d (.int m)), .un]) (xs := rangeD 0 (1 + r).toNat) (Good := fun h => h ∈ every) (x := x) (y := y) ⟨x1, y1, by simp [evI, ev, evA, e1, hr]⟩ (by simp [rangeD, big]; omega) fun z _ x y => by
      obtain ⟨h, x', y', hh, e⟩ := habit_ok x y
      exact ⟨h, x', y', hh, by simp [ev, evA, e]⟩
  have e2' : ev (c__law_lot_1 g__law_take g__law_habit) ⟨[.val .bag, .val (.d (.int m)), .un], some (x, y)⟩ = .ok (.d (.list ys)) ⟨[.val .bag, .val (.d (.int m)), .un], some (x2, y2)⟩ := e2
  have ln : ys.length = (1 + r).toNat := by rw [n1]; simp [rangeD]
  have al := habs_alike g1
  have hu : uniqop (.list ys) = some (.list (uniqD ys)) := by
    show (if uniqOk ys = true then _ else _) = _
    rw [habs_ok g1 (by omega)]
    rfl
  have ul := uniq_len ys
  refine ⟨uniqD ys, x2, y2, ⟨fun h hh => g1 h ((uniq_mem al h).mp hh), uniq_up al, by omega, ?_⟩, by omega, ?_⟩
  · have : ys ≠ [] := fun z => by rw [z] at ln; simp at ln; omega
    obtain ⟨a, t, e⟩ := List.exists_cons_of_ne_nil this
    have : a ∈ uniqD ys := (uniq_mem al a).mpr (by rw [e]; exact List.mem_cons_self)
    exact List.length_pos_of_mem this
  · have hb : bltop .tuple [.list (uniqD ys)] = some (.tuple (uniqD ys)) := rfl
    simp [g__law_lot, RD.run, ex, ev, evA, big, t__law_lot, e2', hu, hb]
end PG
set_option Elab.async false
set_option linter.all false
set_option maxRecDepth 1000000
set_option maxHeartbeats 0
/-! PgI: steps, on both sides, as one number. -/
namespace PG
open PySem L2 RD
theorem phB_mono : ∀ {m : Nat} {p : PyData}, phB m p = true → phB (m + 1) p = true
  | 0, p, h => by
    unfold phB at h
    cases h
  | m + 1, p, h => by
    unfold phB at h
    split at h
    · rename_i m' z x e
      cases e
      show (if arB z = true then phB (m + 1) x else if (z == ("in" : Str)) = true then intB 1 15 x else nmB z && intB 0 6 x) = true
      split at h
      · rename_i ha
        rw [if_pos ha]
        exact phB_mono h
      · rename_i ha
        rw [if_neg ha]
        exact h
    · cases h
theorem phB_le {m n : Nat} {p : PyData} (h : phB m p = true) (hl : m ≤ n) : phB n p = true := by
  induction hl with
  | refl => exact h
  | step _ ih => exact phB_mono ih
theorem leaf_ph {p : PyData} (h : p ∈ leaves) : phB 1 p = true := by
  have : leaves.all (fun p => phB 1 p) = true := by decide +kernel
  exact List.all_eq_true.mp this p h
theorem phs_ph : ∀ (n : Nat) (p : PyData), p ∈ phs n → phB (n + 1) p = true
  | 0, p, h => leaf_ph h
  | n + 1, p, h => by
    rcases List.mem_append.mp h with h | h
    · exact phB_le (leaf_ph h) (by omega)
    · obtain ⟨w, hw, h⟩ := List.mem_flatMap.mp h
      obtain ⟨p, hp, rfl⟩ := List.mem_map.mp h
      have ih := phs_ph n p hp
      have hz : ∃ z, w = .str z ∧ arB z = true := by
        unfold ws at hw
        simp only [List.mem_cons, List.not_mem_nil, or_false] at hw
        rcases hw with rfl | rfl | rfl
        · exact ⟨_, rfl, by decide +kernel⟩
        · exact ⟨_, rfl, by decide +kernel⟩
        · exact ⟨_, rfl, by decide +kernel⟩
      obtain ⟨z, rfl, hz⟩ := hz
      show (if arB z = true then phB (n + 1) p else _) = true
      rw [if_pos hz]
      exact ih
theorem enc_lay (kd : Kd) (r : Int) : ∀ W : List Ar, (encP kd r W).canLay0 = true ∧ (encP kd r W).depth ≤ W.length + 1
  | [] => by
    cases kd <;> refine ⟨?_, ?_⟩ <;> first | (simp [encP, PyData.canLay0, PyData.canLayAll0, Kd.str]; decide +kernel) | simp [encP, PyData.depth, PyData.depthAll]
  | a :: W => by
    obtain ⟨h1, h2⟩ := enc_lay kd r W
    have hs : (PyData.str a.str).canLay0 = true := by cases a <;> decide +kernel
    refine ⟨?_, ?_⟩
    · simp only [encP, PyData.canLay0, PyData.canLayAll0]
      rw [h1]
      simpa [PyData.canLay0] using hs
    · simp only [encP, PyData.depth, PyData.depthAll, List.length_cons]
      omega
theorem ph_lay {m : Nat} {p : PyData} (h : phB m p = true) : p.canLay0 = true ∧ p.depth ≤ m := by
  obtain ⟨kd, r, W, rfl, h1, _⟩ := phB_enc m p h
  have := enc_lay kd r W
  exact ⟨this.1, by omega⟩
theorem ph_shaped {m : Nat} {p : PyData} (h : phB m p = true) (hm : m ≤ 64) : SeqAt.shaped p = true := by
  obtain ⟨h1, h2⟩ := ph_lay h
  unfold SeqAt.shaped
  rw [h1, decide_eq_true (show p.depth ≤ 64 by omega)]
  rfl
/-- the step of a phrase by a habit on a weekday -/
def stp (p h : PyData) (wd : Int) : Int := match g_step_of 6 [.d p, .d h, .d (.int wd)] none with
  | .ok (.d (.int i)) _ => i
  | _ => 0
theorem step_all {p h : PyData} (hp : phB 4 p = true) (hh : h ∈ every) (wd : Int) (q : Bag) : g_step_of 6 [.d p, .d h, .d (.int wd)] q = .ok (.d (.int (stp p h wd))) q := by
  obtain ⟨kd, r, W, rfl, h1, h2⟩ := phB_enc 4 p hp
  obtain ⟨b, o, n, c, on, wk, sc, wi, rfl, hb, H⟩ := every_in hh
  have e := fun q => step_ok H kd b wd r W 6 q (by omega)
  unfold stp
  rw [e none, e q]
theorem lmeant_all {p h : PyData} (hp : phB 4 p = true) (hh : h ∈ every) {day : Int} (hd : -800000 ≤ day ∧ day ≤ 800000) (q : Bag) : g__law_meant 6 [.d p, .d h, .d (.int day)] q = .ok (.d (.int (day + stp p h (day % 7)))) q := by
  have e := step_all hp hh (day % 7) q
  obtain ⟨kd, r, W, rfl, h1, h2⟩ := phB_enc 4 p hp
  obtain ⟨b, o, n, c, on, wk, sc, wi, rfl, hb, H⟩ := every_in hh
  rw [step_ok H kd b (day % 7) r W 6 q (by omega)] at e
  have e2 := meant_ok H kd b day r hb h2 hd W 6 q (by omega)
  have e3 : leafStep kd r b on wk sc wi (day % 7) + sumA W = stp (encP kd r W) (hab b o n c) (day % 7) := by
    injection e with e _
    injection e with e
    injection e
  rw [e2, ← e3, Int.add_assoc]
theorem lstep_all {p h : PyData} (hp : phB 4 p = true) (hh : h ∈ every) {wd : Int} (hd : 0 ≤ wd ∧ wd ≤ 6) (q : Bag) : g__law_step [.d p, .d h, .d (.int wd)] q = .ok (.d (.int (stp p h wd))) q := by
  have h1 := lmeant_all hp hh (day := wd + 70) (by omega) q
  have h2 : (wd + 70) % 7 = wd := by omega
  rw [h2] at h1
  simp [g__law_step, RD.run, ex, ev, evA, big, t__law_step, h1]
  omega
theorem daymeant_all {p h : PyData} (hp : phB 4 p = true) (hh : h ∈ every) (day : Int) (q : Bag) : g_day_meant [.d p, .d h, .d (.int day)] q = .ok (.d (.int (day + stp p h (day % 7)))) q := by
  have h1 := step_all hp hh (day % 7) q
  simp [g_day_meant, RD.run, ex, ev, evA, big, t_day_meant, fe, h1]
/-! ### what must be -/
theorem needphrase_ok {p : PyData} (hp : phB 4 p = true) (q : Bag) : g_need_phrase [.d p] q = .ok (.d .none) q := by
  have h1 := isphrase_any p (ph_lay hp).1 q
  rw [hp] at h1
  simp [g_need_phrase, RD.run, ex, ev, evA, big, t_need_phrase, h1]
theorem needhabit_ok {h : PyData} (hh : h ∈ every) (q : Bag) : g_need_habit [.d h] q = .ok (.d .none) q := by
  have h1 := ishabit_any h (hab_lay hh) q
  rw [(every_hab hh).1] at h1
  simp [g_need_habit, RD.run, ex, ev, evA, big, t_need_habit, h1]
theorem needlot_ok {l : List PyData} (L : LotD l) (q : Bag) : g_need_lot [.d (.tuple l)] q = .ok (.d .none) q := by
  have h1 := islot_any (.tuple l) L.lay q
  rw [L.lot] at h1
  simp [g_need_lot, RD.run, ex, ev, evA, big, t_need_lot, h1]
theorem needfrom_ok {i lo hi : Int} (h : lo ≤ i ∧ i ≤ hi) (q : Bag) : g_need_from [.d (.int i), .d (.int lo), .d (.int hi)] q = .ok (.d .none) q := by
  have h1 := isfrom_ok (.int i) (by simp [PyData.canLay0]) lo hi q
  have h2 : intB lo hi (.int i) = true := decide_eq_true h
  rw [h2] at h1
  simp [g_need_from, RD.run, ex, ev, evA, big, t_need_from, h1]
theorem needday_ok (i : Int) (q : Bag) : g_need_day [.d (.int i)] q = .ok (.d .none) q := by
  have h1 := isnum_ok (.int i) (by simp [PyData.canLay0]) q
  simp at h1
  simp [g_need_day, RD.run, ex, ev, evA, big, t_need_day, h1]
theorem gmeant_all {p h : PyData} (hp : phB 4 p = true) (hh : h ∈ every) (day : Int) (q : Bag) : g_meant [.d p, .d h, .d (.int day)] q = .ok (.d (.int (day + stp p h (day % 7)))) q := by
  simp [g_meant, RD.run, ex, ev, evA, big, t_meant, needphrase_ok hp, needhabit_ok hh, needday_ok, daymeant_all hp hh]
theorem gstep_all {p h : PyData} (hp : phB 4 p = true) (hh : h ∈ every) {wd : Int} (hd : 0 ≤ wd ∧ wd ≤ 6) (q : Bag) : g_step [.d p, .d h, .d (.int wd)] q = .ok (.d (.int (stp p h wd))) q := by
  simp [g_step, RD.run, ex, ev, evA, big, t_step, needphrase_ok hp, needhabit_ok hh, needfrom_ok hd, step_all hp hh]
/-! ### by the habits of a lot -/
def stpsL (p : PyData) (l : List PyData) (wd : Int) : List PyData := uniqD (l.map fun h => PyData.int (stp p h wd))
theorem uniqop_stps {p : PyData} {l : List PyData} {wd : Int} (hl : l.length < 64) : uniqop (.list (l.map fun h => PyData.int (stp p h wd))) = some (.list (stpsL p l wd)) := by
  have e : (l.map fun h => PyData.int (stp p h wd)) = (l.map fun h => stp p h wd).map PyData.int := by simp
  unfold stpsL
  rw [e]
  exact uniqop_ints (by simpa using hl)
theorem shaped_stps (p : PyData) (l : List PyData) (wd : Int) : SeqAt.shaped (.list (stpsL p l wd)) = true := by
  have e : (l.map fun h => PyData.int (stp p h wd)) = (l.map fun h => stp p h wd).map PyData.int := by simp
  unfold stpsL
  rw [e]
  obtain ⟨ms, e2, _⟩ := uniq_ints_of (l.map fun h => stp p h wd)
  rw [e2]
  exact shaped_ints ms
theorem stepsof_all {p : PyData} {l : List PyData} (hp : phB 4 p = true) (L : LotD l) (wd : Int) (q : Bag) : g_steps_of [.d p, .d (.tuple l), .d (.int wd)] q = .ok (.d (.list (stpsL p l wd))) q := by
  have few := L.few
  have e1 : ev (c_steps_of_1 (g_step_of 6)) ⟨[.val (.d p), .val (.d (.tuple l)), .val (.d (.int wd)), .un], q⟩ = .ok (.d (.list (l.map fun h => PyData.int (stp p h wd)))) ⟨[.val (.d p), .val (.d (.tuple l)), .val (.d (.int wd)), .un], q⟩ :=
    comp_all (i := 3) (rho := [.val (.d p), .val (.d (.tuple l)), .val (.d (.int wd)), .un]) (f := fun h => PyData.int (stp p h wd)) (by simp [evI, ev]) (by show l.length ≤ 16777216; omega) fun h hh => by
      have := step_all hp (L.hab h hh) wd q
      simp [ev, evA, this]
  have e2 := uniqop_stps (p := p) (wd := wd) (show l.length < 64 by omega)
  simp [g_steps_of, RD.run, ex, ev, evA, big, t_steps_of, e1, e2]
theorem lsteps_all {p : PyData} {l : List PyData} (hp : phB 4 p = true) (L : LotD l) {wd : Int} (hd : 0 ≤ wd ∧ wd ≤ 6) (q : Bag) : g__law_steps [.d p, .d (.tuple l), .d (.int wd)] q = .ok (.d (.list (stpsL p l wd))) q := by
  have few := L.few
  have e1 : ev (c__law_steps_1 g__law_step) ⟨[.val (.d p), .val (.d (.tuple l)), .val (.d (.int wd)), .un], q⟩ = .ok (.d (.list (l.map fun h => PyData.int (stp p h wd)))) ⟨[.val (.d p), .val (.d (.tuple l)), .val (.d (.int wd)), .un], q⟩ :=
    comp_all (i := 3) (rho := [.val (.d p), .val (.d (.tuple l)), .val (.d (.int wd)), .un]) (f := fun h => PyData.int (stp p h wd)) (by simp [evI, ev]) (by show l.length ≤ 16777216; omega) fun h hh => by
      have := lstep_all hp (L.hab h hh) hd q
      simp [ev, evA, this]
  have e2 := uniqop_stps (p := p) (wd := wd) (show l.length < 64 by omega)
  simp [g__law_steps, RD.run, ex, ev, evA, big, t__law_steps, e1, e2]
theorem gsteps_all {p : PyData} {l : List PyData} (hp : phB 4 p = true) (L : LotD l) {wd : Int} (hd : 0 ≤ wd ∧ wd ≤ 6) (q : Bag) : g_steps [.d p, .d (.tuple l), .d (.int wd)] q = .ok (.d (.list (stpsL p l wd))) q := by
  simp [g_steps, RD.run, ex, ev, evA, big, t_steps, needphrase_ok hp, needlot_ok L, needfrom_ok hd, stepsof_all hp L]
/-- a walk over range(n), n written -/
theorem loop_r {n : Int} (h0n : 0 ≤ n) (hn : n ≤ 1000000) {i : Nat} {b : T} {P : S → Prop} (s : S) (h0 : P s) (hs : ∀ k : Int, 0 ≤ k → k < n → ∀ s, P s → ∃ s', ex b (s.set i (.int k)) = .ok .nx s' ∧ P s') :
    ∃ s', ex (.loop (.tname i) (.itr1 (.cst (.int n))) b) s = .ok .nx s' ∧ P s' := by
  refine loop_ok (xs := rangeD 0 n.toNat) (s1 := s) ?_ h0 fun x hx s h => ?_
  · show (if n ≤ 1000000 ∧ -1000000 ≤ n then _ else _) = _
    rw [if_pos (by omega)]
  · obtain ⟨k, hk, rfl⟩ := mem_rangeD hx
    exact hs _ (by omega) (by omega) s h
theorem run_rt {t : T} {np n : Nat} {us : List U} {b : Bag} {u : U} {s' : S} (hl : us.length = np) (h : ex t ⟨us.map Slot.val ++ List.replicate (n - np) Slot.un, b⟩ = .ok (.rt u) s') : RD.run t np n us b = .ok u s'.bag := by
  unfold RD.run
  rw [if_pos hl, h]
/-! ### the law's bags -/
theorem bag_made (ns : List Int) (k : Nat) : ∃ x y, g__law_bag [.scr ns, .d (.int k)] none = .ok (.d (.list [.int x, .int y])) none := by
  have c1 : CMul 59 k := .inl ⟨by decide, by decide⟩
  have c2 : CMul 80021 k := .inl ⟨by decide, by decide⟩
  have c3 : CPow 10 18 := ⟨by decide, by decide, by decide⟩
  by_cases h : (k : Int) < ns.length
  · have hk : k < ns.length := by omega
    have e : atI ns (k : Int) = some ns[k] := atI_nat (List.getElem?_eq_getElem hk)
    generalize hz : (if ns[k] < 0 then - ns[k] else ns[k]) = z
    by_cases h2 : (1000000000000000000 : Int) ≤ z
    · refine ⟨z, (z.fmod 2147483353 + 80021 * k + 41).fmod 2147483353, ?_⟩
      simp [g__law_bag, RD.run, ex, ev, evA, big, t__law_bag, h, e, c1, c2, c3, hz, h2]
    · refine ⟨0, (z.fmod 2147483353 + 80021 * k + 41).fmod 2147483353, ?_⟩
      simp [g__law_bag, RD.run, ex, ev, evA, big, t__law_bag, h, e, c1, c2, c3, hz, h2]
  · by_cases h2 : (1000000000000000000 : Int) ≤ 59 * (k : Int) + 19
    · refine ⟨59 * (k : Int) + 19, ((59 * (k : Int) + 19).fmod 2147483353 + 80021 * k + 41).fmod 2147483353, ?_⟩
      simp [g__law_bag, RD.run, ex, ev, evA, big, t__law_bag, h, c1, c2, c3, h2]
    · refine ⟨0, ((59 * (k : Int) + 19).fmod 2147483353 + 80021 * k + 41).fmod 2147483353, ?_⟩
      simp [g__law_bag, RD.run, ex, ev, evA, big, t__law_bag, h, c1, c2, c3, h2]
def turnsT (a b c : Int) : T := .itr1 (.blt .max2 (.acons (.cst (.int a)) (.acons (.blt .min2 (.acons (.cst (.int b)) (.acons (.bin .add (.lenS 0) (.cst (.int c))) .anil))) .anil)))
theorem turns_ok {a b c : Int} (ha : -1000 ≤ a ∧ a ≤ 1000) (hb : -1000 ≤ b ∧ b ≤ 1000) (hc : -1000 ≤ c ∧ c ≤ 1000) (ns : List Int) (r : List Slot) (hn : ns.length ≤ 63) : ∃ n : Nat, evI (turnsT a b c) ⟨.val (.scr ns) :: r, none⟩ = .ok (rangeD 0 n) ⟨.val (.scr ns) :: r, none⟩ := by
  have e : ev (.blt .max2 (.acons (.cst (.int a)) (.acons (.blt .min2 (.acons (.cst (.int b)) (.acons (.bin .add (.lenS 0) (.cst (.int c))) .anil))) .anil))) ⟨.val (.scr ns) :: r, none⟩ = .ok (.d (.int (if (if (ns.length : Int) + c < b then (ns.length : Int) + c else b) > a then (if (ns.length : Int) + c < b then (ns.length : Int) + c else b) else a))) ⟨.val (.scr ns) :: r, none⟩ := rfl
  generalize hj : (if (if (ns.length : Int) + c < b then (ns.length : Int) + c else b) > a then (if (ns.length : Int) + c < b then (ns.length : Int) + c else b) else a) = j at e
  have hb : j ≤ 1000000 ∧ -1000000 ≤ j := by
    rw [← hj]
    split <;> split <;> omega
  refine ⟨j.toNat, ?_⟩
  show (ev _ _).dat _ = _
  rw [e]
  show (if j ≤ 1000000 ∧ -1000000 ≤ j then _ else _) = _
  rw [if_pos hb]
/-- the walk over the bags: the rest of the frame meets Fr ahead of each bag and behind -/
theorem bags_ok {a b c : Int} (ha : -1000 ≤ a ∧ a ≤ 1000) (hb : -1000 ≤ b ∧ b ≤ 1000) (hc : -1000 ≤ c ∧ c ≤ 1000) {i j : Nat} {body : T} (ns : List Int) (hn : ns.length ≤ 63) (Fr : List Slot → Prop) (rho : List Slot) (h0 : Fr rho) (hs : ∀ r, Fr r → ∃ t, r = .val (.scr ns) :: t)
    (step : ∀ r (k : Nat) x y, Fr r → ((r.set i (.val (.d (.int k))))[i]? = some (.val (.d (.int k))) ∧ (r.set i (.val (.d (.int k))))[0]? = some (.val (.scr ns))) ∧ ∃ s', ex body ⟨(noBag (r.set i (.val (.d (.int k))))).set j (.val .bag), some (x, y)⟩ = .ok .nx s' ∧ Fr (noBag s'.rho)) :
    ∃ rho', Fr rho' ∧ ex (.loop (.tname i) (turnsT a b c) (.bagged j "_law_bag" g__law_bag (.acons (.var 0) (.acons (.var i) .anil)) body)) ⟨rho, none⟩ = .ok .nx ⟨rho', none⟩ := by
  obtain ⟨t, et⟩ := hs rho h0
  obtain ⟨n, hi⟩ := turns_ok ha hb hc ns t hn
  rw [← et] at hi
  obtain ⟨s', h1, r, rfl, h2⟩ := loop_ok (i := i) (b := .bagged j "_law_bag" g__law_bag (.acons (.var 0) (.acons (.var i) .anil)) body) (P := fun s => ∃ r, s = ⟨r, none⟩ ∧ Fr r) hi ⟨rho, rfl, h0⟩ fun x hx s ⟨r, hs', hr⟩ => by
    subst hs'
    obtain ⟨k, _, rfl⟩ := mem_rangeD hx
    rw [show (0 : Int) + (k : Int) = k by omega]
    obtain ⟨x, y, e⟩ := bag_made ns k
    obtain ⟨⟨g1, g2⟩, s', e1, e2⟩ := step r k x y hr
    refine ⟨_, bagged_ok (us := [.scr ns, .d (.int k)]) ?_ e e1, _, rfl, e2⟩
    have v1 : (⟨r.set i (.val (.d (.int k))), none⟩ : S).get 0 = .ok (.scr ns) ⟨r.set i (.val (.d (.int k))), none⟩ := get_mk g2
    have v2 : (⟨r.set i (.val (.d (.int k))), none⟩ : S).get i = .ok (.d (.int k)) ⟨r.set i (.val (.d (.int k))), none⟩ := get_mk g1
    simp [evA, ev, v1, v2]
  exact ⟨r, h2, h1⟩
end PG
set_option Elab.async false
set_option linter.all false
set_option maxRecDepth 1000000
set_option maxHeartbeats 0
/-! PgJ: what is sure; walks that count. -/
namespace RD
open PySem L2
theorem range_step (lo : Int) (n : Nat) : rangeD lo (n + 1) = .int lo :: rangeD (lo + 1) n := by
  unfold rangeD
  rw [List.range_succ_eq_map, List.map_cons, List.map_map]
  refine congr (congrArg _ ?_) ?_
  · show PyData.int (lo + 0) = _
    rw [Int.add_zero]
  · refine List.map_congr_left fun k _ => ?_
    show PyData.int (lo + ((k + 1 : Nat) : Int)) = PyData.int (lo + 1 + (k : Int))
    congr 1
    omega
theorem forR_k {f : PyData → S → R Out} {P : Int → S → Prop} : ∀ (n : Nat) (lo : Int) (s : S), P lo s → (∀ k, lo ≤ k → k < lo + n → ∀ s, P k s → ∃ s', f (.int k) s = .ok .nx s' ∧ P (k + 1) s') → ∃ s', forR f (rangeD lo n) s = .ok .nx s' ∧ P (lo + n) s'
  | 0, lo, s, h, _ => ⟨s, rfl, by simpa using h⟩
  | n + 1, lo, s, h, st => by
    obtain ⟨s1, e1, h1⟩ := st lo (by omega) (by omega) s h
    obtain ⟨s2, e2, h2⟩ := forR_k n (lo + 1) s1 h1 fun k a b => st k (by omega) (by omega)
    refine ⟨s2, ?_, ?_⟩
    · rw [range_step]
      show (f _ s).bind _ = _
      rw [e1]
      exact e2
    · have : lo + ((n + 1 : Nat) : Int) = lo + 1 + (n : Int) := by omega
      rw [this]
      exact h2
/-- a walk over range(n), n written, turn by turn -/
theorem loop_k {n : Int} (h0n : 0 ≤ n) (hn : n ≤ 1000000) {i : Nat} {b : T} {P : Int → S → Prop} (s : S) (h0 : P 0 s) (hs : ∀ k : Int, 0 ≤ k → k < n → ∀ s, P k s → ∃ s', ex b (s.set i (.int k)) = .ok .nx s' ∧ P (k + 1) s') :
    ∃ s', ex (.loop (.tname i) (.itr1 (.cst (.int n))) b) s = .ok .nx s' ∧ P n s' := by
  obtain ⟨s', h1, h2⟩ := forR_k (f := fun x s => (R.ofS (asgT (.tname i) x s)).bind fun _ s => ex b s) (P := P) n.toNat 0 s h0 fun k a c s h => hs k a (by omega) s h
  refine ⟨s', ?_, by rwa [show (0 : Int) + (n.toNat : Int) = n by omega] at h2⟩
  show ((if n ≤ 1000000 ∧ -1000000 ≤ n then R.ok (rangeD 0 n.toNat) s else .stuck).bind _) = _
  rw [if_pos (by omega)]
  exact h1
theorem eq_nil {xs : List PyData} (h : SeqAt.shaped (.list xs) = true) : cmpop .eq (.list xs) (.list []) = some xs.isEmpty := by
  show (if (SeqAt.shaped (.list xs) && SeqAt.shaped (.list [])) = true then some (PyData.eqv (.list xs) (.list [])) else none) = _
  rw [h, show SeqAt.shaped (.list []) = true by decide +kernel]
  cases xs <;> rfl
theorem ne_bool (a b : Bool) : cmpop .ne (.bool a) (.bool b) = some (!(a == b)) := rfl
theorem range_int {lo : Int} {n : Nat} {x : PyData} (h : x ∈ rangeD lo n) : ∃ k : Int, lo ≤ k ∧ k < lo + n ∧ x = .int k := by
  obtain ⟨k, hk, rfl⟩ := mem_rangeD h
  exact ⟨_, by omega, by omega, rfl⟩
theorem range_len (lo : Int) (n : Nat) : (rangeD lo n).length = n := by simp [rangeD]
theorem at_range {α : Type} (f : PyData → α) {n : Nat} {k : Int} (h0 : 0 ≤ k) (h1 : k < n) : atI ((rangeD 0 n).map f) k = some (f (.int k)) := by
  have hk : k.toNat < ((rangeD 0 n).map f).length := by simp [rangeD]; omega
  have e := atI_nat (List.getElem?_eq_getElem hk)
  rw [show ((k.toNat : Nat) : Int) = k by omega] at e
  rw [e]
  simp [rangeD]
  rw [show max k 0 = k by omega]
theorem intsD_map : ∀ ns : List Int, intsD (ns.map PyData.int) = some ns
  | [] => rfl
  | n :: ns => by
    show (intsD (ns.map PyData.int)).map (n :: ·) = _
    rw [intsD_map ns]
    rfl
theorem at_last {α : Type} (xs : List α) (y : α) : atI (xs ++ [y]) (-1) = some y := by
  unfold atI ixN
  rw [List.length_append, List.length_singleton, if_neg (by decide), if_pos (by omega), show (-1 + ((xs.length + 1 : Nat) : Int)).toNat = xs.length by omega]
  exact List.getElem?_concat_length
/-- [i for i in it if c] -/
theorem comp_filt {i : Nat} {it c : T} {rho : List Slot} {q : Bag} {xs : List PyData} {p : PyData → Bool} (hi : evI it ⟨rho, q⟩ = .ok xs ⟨rho, q⟩) (hl : xs.length ≤ big) (hlt : i < rho.length) (hc : ∀ x ∈ xs, ev c ⟨rho.set i (.val (.d x)), q⟩ = .ok (.d (.bool (p x))) ⟨rho.set i (.val (.d x)), q⟩) :
    ev (.comp [i] (.tname i) it c (.var i)) ⟨rho, q⟩ = .ok (.d (.list (xs.filter p))) ⟨rho.set i .un, q⟩ := by
  have := comp_if (f := fun x => x) (e := .var i) hi hl hc fun x hx _ => by
    show (⟨rho.set i (.val (.d x)), q⟩ : S).get i = _
    exact get_mk (List.getElem?_set_self hlt)
  rwa [List.map_id'] at this
end RD
namespace PG
open PySem L2 RD
def unsB (p : PyData) (l : List PyData) : PyData → Bool
  | .int k => decide (1 < (stpsL p l k).length)
  | _ => false
/-- the weekdays on which a phrase is not sure -/
def unsL (p : PyData) (l : List PyData) : List PyData := (rangeD 0 7).filter (unsB p l)
theorem shaped_uns (p : PyData) (l : List PyData) : SeqAt.shaped (.list (unsL p l)) = true := shaped_list (n := 0) (fun x hx => by
  obtain ⟨k, _, _, rfl⟩ := range_int (List.mem_filter.mp hx).1
  simp [PyData.canLay0]) (fun x hx => by
  obtain ⟨k, _, _, rfl⟩ := range_int (List.mem_filter.mp hx).1
  simp [PyData.depth]) (by decide)
theorem dec1 (n : Nat) : decide ((1 : Int) < (n : Int)) = decide (1 < n) := decide_eq_decide.mpr (by omega)
theorem uns_all {p : PyData} {l : List PyData} (hp : phB 4 p = true) (L : LotD l) (q : Bag) : g_weekdays_unsure [.d p, .d (.tuple l)] q = .ok (.d (.list (unsL p l))) q := by
  have e1 : ev (c_weekdays_unsure_1 g_steps_of) ⟨[.val (.d p), .val (.d (.tuple l)), .un], q⟩ = .ok (.d (.list (unsL p l))) ⟨[.val (.d p), .val (.d (.tuple l)), .un], q⟩ :=
    comp_filt (i := 2) (rho := [.val (.d p), .val (.d (.tuple l)), .un]) (p := unsB p l) (by simp [evI, ev]) (by rw [range_len]; decide) (by simp) fun x hx => by
      obtain ⟨k, k0, k1, rfl⟩ := range_int hx
      have := stepsof_all hp L k q
      simp [ev, evA, this, unsB, dec1]
  simp [g_weekdays_unsure, RD.run, ex, t_weekdays_unsure, e1]
theorem issure_all {p : PyData} {l : List PyData} (hp : phB 4 p = true) (L : LotD l) (q : Bag) : g_is_sure [.d p, .d (.tuple l)] q = .ok (.d (.bool (unsL p l).isEmpty)) q := by
  have h := eq_nil (shaped_uns p l)
  simp [g_is_sure, RD.run, ex, ev, evA, big, t_is_sure, needphrase_ok hp, needlot_ok L, uns_all hp L, h]
theorem unsureon_all {p : PyData} {l : List PyData} (hp : phB 4 p = true) (L : LotD l) (q : Bag) : g_unsure_on [.d p, .d (.tuple l)] q = .ok (.d (.list (unsL p l))) q := by
  simp [g_unsure_on, RD.run, ex, ev, evA, big, t_unsure_on, needphrase_ok hp, needlot_ok L, uns_all hp L]
/-! ### the spread -/
def edge (i : Int) (xs : List PyData) : Int := match atI xs i with
  | some (.int k) => k
  | _ => 0
def gapL (xs : List PyData) : Int := edge (-1) xs - edge 0 xs
theorem edges {p : PyData} {l : List PyData} (L : LotD l) (wd : Int) : atI (stpsL p l wd) (-1) = some (.int (edge (-1) (stpsL p l wd))) ∧ atI (stpsL p l wd) 0 = some (.int (edge 0 (stpsL p l wd))) ∧ 0 ≤ gapL (stpsL p l wd) := by
  have e : (l.map fun h => PyData.int (stp p h wd)) = (l.map fun h => stp p h wd).map PyData.int := by simp
  obtain ⟨ms, e2, mem⟩ := uniq_ints_of (l.map fun h => stp p h wd)
  have up := uniq_up (ints_alike (l.map fun h => stp p h wd))
  have es : stpsL p l wd = ms.map PyData.int := by
    unfold stpsL
    rw [e, e2]
  have ne : ms ≠ [] := fun z => by
    have := L.some
    match l, this with
    | h :: t, _ =>
      have := (mem (stp p h wd)).mpr (by simp)
      rw [z] at this
      cases this
  rw [e2] at up
  have up' : ms.Pairwise (· < ·) := (List.pairwise_map.mp up).imp fun {a b} h => by
    rw [int_lt] at h
    exact of_decide_eq_true h
  obtain ⟨a, t, rfl⟩ := List.exists_cons_of_ne_nil ne
  have e3 : atI (stpsL p l wd) 0 = some (.int a) := by
    rw [es]
    exact at0 _ _
  obtain ⟨t', z, ez⟩ : ∃ t' z, a :: t = t' ++ [z] := ⟨(a :: t).dropLast, (a :: t).getLast (by simp), (List.dropLast_concat_getLast (by simp)).symm⟩
  have e4 : atI (stpsL p l wd) (-1) = some (.int z) := by
    rw [es, ez, List.map_append]
    exact at_last _ _
  have az : a ≤ z := by
    have hz : z ∈ a :: t := by rw [ez]; simp
    rcases List.mem_cons.mp hz with rfl | hz
    · exact Int.le_refl _
    · exact Int.le_of_lt ((List.pairwise_cons.mp up').1 z hz)
  have f3 : edge 0 (stpsL p l wd) = a := by unfold edge; rw [e3]
  have f4 : edge (-1) (stpsL p l wd) = z := by unfold edge; rw [e4]
  refine ⟨by rw [f4, e4], by rw [f3, e3], ?_⟩
  unfold gapL
  rw [f3, f4]
  omega
def gaps (p : PyData) (l : List PyData) : List Int := (List.range 7).map fun (k : Nat) => gapL (stpsL p l (k : Int))
/-- the greatest difference -/
def spr (p : PyData) (l : List PyData) : Int := maxI (gaps p l)
theorem spreadof_all {p : PyData} {l : List PyData} (hp : phB 4 p = true) (L : LotD l) (q : Bag) : g_spread_of [.d p, .d (.tuple l)] q = .ok (.d (.int (spr p l))) q := by
  obtain ⟨s', e1, c3, c4, M, rfl, m1, m2⟩ := loop_k (n := 7) (by decide) (by decide) (i := 3) (b := b_spread_of_1 g_steps_of)
    (P := fun k s => ∃ c3 c4 M, s = ⟨[.val (.d p), .val (.d (.tuple l)), .val (.d (.int M)), c3, c4], q⟩ ∧ (∀ j, 0 ≤ j → j < k → gapL (stpsL p l j) ≤ M) ∧ (M = 0 ∨ ∃ j, 0 ≤ j ∧ j < k ∧ M = gapL (stpsL p l j)))
    ⟨[.val (.d p), .val (.d (.tuple l)), .val (.d (.int 0)), .un, .un], q⟩ ⟨_, _, 0, rfl, fun j a b => by omega, .inl rfl⟩ fun k k0 k1 s ⟨c3, c4, M, hs, m1, m2⟩ => by
      subst hs
      obtain ⟨g1, g2, g3⟩ := edges (p := p) L k
      have e := stepsof_all hp L k q
      have ed : edge (-1) (stpsL p l k) - edge 0 (stpsL p l k) = gapL (stpsL p l k) := rfl
      refine ⟨⟨[.val (.d p), .val (.d (.tuple l)), .val (.d (.int (if gapL (stpsL p l k) > M then gapL (stpsL p l k) else M))), .val (.d (.int k)), .val (.d (.list (stpsL p l k)))], q⟩, ?_, _, _, _, rfl, fun j a b => ?_, ?_⟩
      · simp [b_spread_of_1, ex, ev, evA, e, g1, g2, ed]
      · by_cases hj : j = k
        · rw [hj]; split <;> omega
        · have := m1 j a (by omega)
          split <;> omega
      · split
        · exact .inr ⟨k, k0, by omega, rfl⟩
        · rcases m2 with m2 | ⟨j, a, b, c⟩
          · exact .inl m2
          · exact .inr ⟨j, a, by omega, c⟩
  have eM : M = spr p l := by
    have ne : gaps p l ≠ [] := by simp [gaps]
    obtain ⟨x1, x2⟩ := maxI_is (gaps p l) ne
    have inG : ∀ j : Int, 0 ≤ j → j < 7 → gapL (stpsL p l j) ∈ gaps p l := fun j a b => by
      have : j = ((j.toNat : Nat) : Int) := by omega
      rw [this]
      exact List.mem_map.mpr ⟨j.toNat, List.mem_range.mpr (by omega), rfl⟩
    obtain ⟨n, hn, en⟩ := List.mem_map.mp x1
    have hn7 := List.mem_range.mp hn
    have a1 := m1 (n : Int) (by omega) (by omega)
    have a2 : M ≤ maxI (gaps p l) := by
      rcases m2 with m2 | ⟨j, a, b, c⟩
      · rw [m2]
        have := x2 _ (inG 0 (by omega) (by omega))
        have := (edges (p := p) L 0).2.2
        omega
      · rw [c]
        exact x2 _ (inG j a b)
    show M = maxI (gaps p l)
    rw [← en] at a2 ⊢
    omega
  rw [eM] at e1
  have e2 : ex (t_spread_of g_steps_of) ⟨[.val (.d p), .val (.d (.tuple l)), .un, .un, .un], q⟩ = .ok (.rt (.d (.int (spr p l)))) ⟨[.val (.d p), .val (.d (.tuple l)), .val (.d (.int (spr p l))), c3, c4], q⟩ := by
    unfold t_spread_of
    rw [seq_nx (s' := ⟨[.val (.d p), .val (.d (.tuple l)), .val (.d (.int 0)), .un, .un], q⟩) (by simp [ex, ev]), seq_nx e1]
    simp [ex, ev]
  exact run_rt (np := 2) (n := 5) (us := [.d p, .d (.tuple l)]) rfl e2
theorem spread_all {p : PyData} {l : List PyData} (hp : phB 4 p = true) (L : LotD l) (q : Bag) : g_spread [.d p, .d (.tuple l)] q = .ok (.d (.int (spr p l))) q := by
  simp [g_spread, RD.run, ex, ev, evA, big, t_spread, needphrase_ok hp, needlot_ok L, spreadof_all hp L]
end PG
set_option Elab.async false
set_option linter.all false
set_option maxRecDepth 1000000
set_option maxHeartbeats 0
/-! PgK: the shortest sure phrases. -/
namespace RD
open PySem L2
theorem ne_nil {xs : List PyData} (h : SeqAt.shaped (.list xs) = true) : cmpop .ne (.list xs) (.list []) = some (!xs.isEmpty) := by
  show (if (SeqAt.shaped (.list xs) && SeqAt.shaped (.list [])) = true then some (!PyData.eqv (.list xs) (.list [])) else none) = _
  rw [h, show SeqAt.shaped (.list []) = true by decide +kernel]
  cases xs <;> rfl
end RD
namespace PG
open PySem L2 RD
def shortP : List PyData := (rangeD 1 15).map (fun n => PyData.tuple [.str "in", n]) ++ (["last", "name", "next", "this"] : List Str).flatMap fun w => (rangeD 0 7).map fun n => PyData.tuple [.str w, n]
def longP : List PyData := (["after", "before", "week"] : List Str).flatMap fun w => shortP.map fun p => PyData.tuple [.str w, p]
theorem short_all (q : Bag) : g_short_phrases [] q = .ok (.d (.list shortP)) q := by kernel_rfl
theorem long_all (q : Bag) : g_longer_phrases [] q = .ok (.d (.list longP)) q := by kernel_rfl
theorem short_ph {p : PyData} (h : p ∈ shortP) : phB 4 p = true := by
  have : shortP.all (fun p => phB 4 p) = true := by decide +kernel
  exact List.all_eq_true.mp this p h
theorem long_ph {p : PyData} (h : p ∈ longP) : phB 4 p = true := by
  have : longP.all (fun p => phB 4 p) = true := by decide +kernel
  exact List.all_eq_true.mp this p h
theorem short_len : shortP.length = 43 := by decide +kernel
theorem long_len : longP.length = 129 := by decide +kernel
/-- just this step, surely -/
def onB (l : List PyData) (wd w : Int) (p : PyData) : Bool := PyData.eqv (.list (stpsL p l wd)) (.list [.int w])
theorem eq_on (p : PyData) (l : List PyData) (wd w : Int) : cmpop .eq (.list (stpsL p l wd)) (.list [.int w]) = some (onB l wd w p) := by
  show (if (SeqAt.shaped (.list (stpsL p l wd)) && SeqAt.shaped (.list [.int w])) = true then some (PyData.eqv (.list (stpsL p l wd)) (.list [.int w])) else none) = _
  rw [shaped_stps, show SeqAt.shaped (.list [.int w]) = true from shaped_ints [w]]
  rfl
theorem shaped_sub {ps : List PyData} {m : Nat} (hm : m < 64) (h : ∀ p ∈ ps, phB m p = true) (f : PyData → Bool) : SeqAt.shaped (.list (ps.filter f)) = true :=
  shaped_list (n := m) (fun p hp => (ph_lay (h p (List.mem_filter.mp hp).1)).1) (fun p hp => (ph_lay (h p (List.mem_filter.mp hp).1)).2) hm
def sureL (l : List PyData) (wd w : Int) : List PyData := if (shortP.filter (onB l wd w)).isEmpty = true then longP.filter (onB l wd w) else shortP.filter (onB l wd w)
theorem shaped_sure (l : List PyData) (wd w : Int) : SeqAt.shaped (.list (sureL l wd w)) = true := by
  unfold sureL
  split
  · exact shaped_sub (m := 4) (by decide) (fun p hp => long_ph hp) _
  · exact shaped_sub (m := 4) (by decide) (fun p hp => short_ph hp) _
theorem sureof_all {l : List PyData} (L : LotD l) (wd w : Int) (q : Bag) : g_sure_of [.d (.tuple l), .d (.int wd), .d (.int w)] q = .ok (.d (.list (sureL l wd w))) q := by
  have b : ∀ (ps : List PyData) (hp : ∀ p ∈ ps, phB 4 p = true) (hl : ps.length ≤ 1000) (c4 c5 : Slot), ev (c_sure_of_1 g_steps_of) ⟨[.val (.d (.tuple l)), .val (.d (.int wd)), .val (.d (.int w)), .val (.d (.list ps)), c4, c5], q⟩ =
      .ok (.d (.list (ps.filter (onB l wd w)))) ⟨[.val (.d (.tuple l)), .val (.d (.int wd)), .val (.d (.int w)), .val (.d (.list ps)), c4, .un], q⟩ := fun ps hp hl c4 c5 =>
    comp_filt (i := 5) (rho := [.val (.d (.tuple l)), .val (.d (.int wd)), .val (.d (.int w)), .val (.d (.list ps)), c4, c5]) (by simp [evI, ev]) (by show ps.length ≤ 16777216; omega) (by simp) fun p h => by
      have e1 := stepsof_all (hp p h) L wd q
      have e2 := eq_on p l wd w
      simp [ev, evA, e1, e2, big]
  have n1 := ne_nil (shaped_sub (m := 4) (by decide) (fun p hp => short_ph hp) (onB l wd w))
  have n2 := ne_nil (shaped_sub (m := 4) (by decide) (fun p hp => long_ph hp) (onB l wd w))
  have b1 := b shortP (fun p hp => short_ph hp) (by rw [short_len]; decide)
  have b2 := b longP (fun p hp => long_ph hp) (by rw [long_len]; decide)
  cases h1 : (shortP.filter (onB l wd w)).isEmpty with
  | false =>
    rw [h1] at n1
    have e : sureL l wd w = shortP.filter (onB l wd w) := by unfold sureL; rw [h1]; rfl
    simp [g_sure_of, RD.run, ex, ev, evA, evI, forR, t_sure_of, b_sure_of_2, short_all, long_all, b1, n1, e, big]
  | true =>
    rw [h1] at n1
    have e : sureL l wd w = longP.filter (onB l wd w) := by unfold sureL; rw [h1]; rfl
    cases h2 : (longP.filter (onB l wd w)).isEmpty with
    | false =>
      rw [h2] at n2
      simp [g_sure_of, RD.run, ex, ev, evA, evI, forR, t_sure_of, b_sure_of_2, short_all, long_all, b1, b2, n1, n2, e, big]
    | true =>
      rw [h2] at n2
      have e2 : sureL l wd w = [] := by rw [e]; exact List.isEmpty_iff.mp h2
      simp [g_sure_of, RD.run, ex, ev, evA, evI, forR, t_sure_of, b_sure_of_2, short_all, long_all, b1, b2, n1, n2, e2, big]
theorem sure_all {l : List PyData} (L : LotD l) {wd w : Int} (hd : 0 ≤ wd ∧ wd ≤ 6) (hw : -40 ≤ w ∧ w ≤ 40) (q : Bag) : g_sure_phrases [.d (.tuple l), .d (.int wd), .d (.int w)] q = .ok (.d (.list (sureL l wd w))) q := by
  simp [g_sure_phrases, RD.run, ex, ev, evA, big, t_sure_phrases, needlot_ok L, needfrom_ok hd, needfrom_ok hw, sureof_all L]
end PG
set_option Elab.async false
set_option linter.all false
set_option maxRecDepth 1000000
set_option maxHeartbeats 0
/-! PgL: words; near phrases; where two phrases part. -/
namespace RD
open PySem L2
theorem cut_init (xs : List PyData) (y : PyData) : cutD (xs ++ [y]) none (some (-1)) = xs := by
  show ((xs ++ [y]).drop 0).take ((if (-1 : Int) < 0 then (-1 + ((xs ++ [y]).length : Int)).toNat else min (-1 : Int).toNat (xs ++ [y]).length) - 0) = xs
  rw [if_pos (by decide), List.length_append, List.length_singleton, show (-1 + ((xs.length + 1 : Nat) : Int)).toNat = xs.length by omega]
  simp
theorem cut_last (xs : List PyData) (y : PyData) : cutD (xs ++ [y]) (some (-1)) none = [y] := by
  show ((xs ++ [y]).drop (if (-1 : Int) < 0 then (-1 + ((xs ++ [y]).length : Int)).toNat else min (-1 : Int).toNat (xs ++ [y]).length)).take ((xs ++ [y]).length - (if (-1 : Int) < 0 then (-1 + ((xs ++ [y]).length : Int)).toNat else min (-1 : Int).toNat (xs ++ [y]).length)) = [y]
  rw [if_pos (by decide), List.length_append, List.length_singleton, show (-1 + ((xs.length + 1 : Nat) : Int)).toNat = xs.length by omega]
  simp
@[simp] theorem get_ol {rho : List Slot} {q : Bag} {i : Nat} {ds : List PyData} (h : rho[i]? = some (.ol ds)) : (S.mk rho q).get i = .ok (.d (.list ds)) ⟨rho.set i (.val (.d (.list ds))), q⟩ := by
  show (match rho[i]? with
    | some (.val u) => R.ok u ⟨rho, q⟩
    | some (.ol ds) => .ok (.d (.list ds)) ⟨rho.set i (.val (.d (.list ds))), q⟩
    | _ => .stuck) = _
  rw [h]
/-- the first, or on -/
def outF : List PyData → Out
  | [] => .nx
  | x :: _ => .rt (.d x)
theorem forR_first {f : PyData → S → R Out} {P : S → Prop} {g : PyData → List PyData} : ∀ (xs : List PyData) (s : S), P s → (∀ x ∈ xs, ∀ s, P s → ∃ s', f x s = .ok (outF (g x)) s' ∧ P s') →
    ∃ s', forR f xs s = .ok (outF (xs.flatMap g)) s' ∧ P s'
  | [], s, h, _ => ⟨s, rfl, h⟩
  | x :: xs, s, h, st => by
    obtain ⟨s1, e1, h1⟩ := st x List.mem_cons_self s h
    rw [List.flatMap_cons]
    cases hg : g x with
    | nil =>
      rw [hg] at e1
      obtain ⟨s2, e2, h2⟩ := forR_first xs s1 h1 fun y hy => st y (List.mem_cons_of_mem _ hy)
      refine ⟨s2, ?_, h2⟩
      show (f x s).bind _ = _
      rw [e1]
      exact e2
    | cons z zs =>
      rw [hg] at e1
      refine ⟨s1, ?_, h1⟩
      show (f x s).bind _ = _
      rw [e1]
      rfl
theorem forR_app {f : PyData → S → R Out} {P : List PyData → S → Prop} {g : PyData → List PyData} {m base : Nat} : ∀ (xs ds : List PyData) (s : S), ds.length + xs.length * m ≤ base → P ds s → (∀ x ∈ xs, (g x).length ≤ m) →
    (∀ x ∈ xs, ∀ ds s, ds.length + m ≤ base → P ds s → ∃ s', f x s = .ok .nx s' ∧ P (ds ++ g x) s') → ∃ s', forR f xs s = .ok .nx s' ∧ P (ds ++ xs.flatMap g) s'
  | [], ds, s, _, h, _, _ => ⟨s, rfl, by simpa using h⟩
  | x :: xs, ds, s, hb, h, hm, st => by
    have hx := hm x List.mem_cons_self
    rw [List.length_cons, Nat.succ_mul] at hb
    obtain ⟨s1, e1, h1⟩ := st x List.mem_cons_self ds s (by omega) h
    obtain ⟨s2, e2, h2⟩ := forR_app xs (ds ++ g x) s1 (by rw [List.length_append]; omega) h1 (fun y hy => hm y (List.mem_cons_of_mem _ hy)) fun y hy => st y (List.mem_cons_of_mem _ hy)
    refine ⟨s2, ?_, ?_⟩
    · show (f x s).bind _ = _
      rw [e1]
      exact e2
    · rw [List.flatMap_cons, ← List.append_assoc]
      exact h2
end RD
namespace PG
open PySem L2 RD
def okR : Kd → Int → Prop
  | .inn, r => 1 ≤ r ∧ r ≤ 15
  | _, r => 0 ≤ r ∧ r ≤ 6
theorem phB_enc2 : ∀ (m : Nat) (p : PyData), phB m p = true → ∃ kd r W, p = encP kd r W ∧ W.length < m ∧ okR kd r
  | 0, p, h => by
    unfold phB at h
    cases h
  | m + 1, p, h => by
    unfold phB at h
    split at h
    · rename_i m' z x e
      cases e
      split at h
      · rename_i ha
        obtain ⟨kd, r, W, rfl, h1, h2⟩ := phB_enc2 m x h
        have hz := any_eq ha
        simp only [List.mem_cons, List.not_mem_nil, or_false] at hz
        rcases hz with rfl | rfl | rfl
        · exact ⟨kd, r, .af :: W, rfl, Nat.succ_lt_succ h1, h2⟩
        · exact ⟨kd, r, .bf :: W, rfl, Nat.succ_lt_succ h1, h2⟩
        · exact ⟨kd, r, .wk :: W, rfl, Nat.succ_lt_succ h1, h2⟩
      · split at h
        · rename_i hi
          have hz : z = "in" := eq_of_beq hi
          subst hz
          cases x <;> first | cases h | skip
          rename_i r
          have hr : 1 ≤ r ∧ r ≤ 15 := of_decide_eq_true h
          exact ⟨.inn, r, [], rfl, Nat.succ_pos m, hr⟩
        · rw [Bool.and_eq_true] at h
          have hz := any_eq h.1
          have h2 := h.2
          cases x <;> first | cases h2 | skip
          rename_i r
          have hr : 0 ≤ r ∧ r ≤ 6 := of_decide_eq_true h2
          simp only [List.mem_cons, List.not_mem_nil, or_false] at hz
          rcases hz with rfl | rfl | rfl | rfl
          · exact ⟨.nm, r, [], rfl, Nat.succ_pos m, hr⟩
          · exact ⟨.th, r, [], rfl, Nat.succ_pos m, hr⟩
          · exact ⟨.nx, r, [], rfl, Nat.succ_pos m, hr⟩
          · exact ⟨.lt, r, [], rfl, Nat.succ_pos m, hr⟩
    · cases h
theorem ar_arB (a : Ar) : arB a.str = true := by cases a <;> decide +kernel
theorem kd_arB (kd : Kd) : arB kd.str = false := by cases kd <;> decide +kernel
theorem enc_phB {kd : Kd} {r : Int} (h : okR kd r) : ∀ (W : List Ar) (m : Nat), W.length < m → phB m (encP kd r W) = true
  | _, 0, h => absurd h (Nat.not_lt_zero _)
  | [], m + 1, _ => by
    show (if arB kd.str = true then phB m (.int r) else if (kd.str == ("in" : Str)) = true then intB 1 15 (.int r) else nmB kd.str && intB 0 6 (.int r)) = true
    rw [kd_arB, if_neg (by decide)]
    cases kd with
    | inn =>
      have h : 1 ≤ r ∧ r ≤ 15 := h
      rw [if_pos (by decide +kernel)]
      exact decide_eq_true h
    | nm =>
      have h : 0 ≤ r ∧ r ≤ 6 := h
      rw [if_neg (by decide +kernel), show nmB (Kd.str .nm) = true by decide +kernel]
      exact decide_eq_true h
    | th =>
      have h : 0 ≤ r ∧ r ≤ 6 := h
      rw [if_neg (by decide +kernel), show nmB (Kd.str .th) = true by decide +kernel]
      exact decide_eq_true h
    | nx =>
      have h : 0 ≤ r ∧ r ≤ 6 := h
      rw [if_neg (by decide +kernel), show nmB (Kd.str .nx) = true by decide +kernel]
      exact decide_eq_true h
    | lt =>
      have h : 0 ≤ r ∧ r ≤ 6 := h
      rw [if_neg (by decide +kernel), show nmB (Kd.str .lt) = true by decide +kernel]
      exact decide_eq_true h
  | a :: W, m + 1, hl => by
    show (if arB a.str = true then phB m (encP kd r W) else if (a.str == ("in" : Str)) = true then intB 1 15 (encP kd r W) else nmB a.str && intB 0 6 (encP kd r W)) = true
    rw [ar_arB, if_pos rfl]
    exact enc_phB h W m (Nat.lt_of_succ_lt_succ hl)
/-! ### words -/
def Ar.strD (a : Ar) : PyData := .str a.str
def wordsD (kd : Kd) (W : List Ar) : List PyData := W.map Ar.strD ++ [.str kd.str]
theorem ar_isin (a : Ar) : cmpop .isin (.str a.str) (.list [.str "after", .str "before", .str "week"]) = some true := by cases a <;> kernel_rfl
theorem kd_isin (kd : Kd) : cmpop .isin (.str kd.str) (.list [.str "after", .str "before", .str "week"]) = some false := by cases kd <;> kernel_rfl
theorem words_ok (kd : Kd) (r : Int) : ∀ (W : List Ar) (n : Nat) (q : Bag), W.length < n → W.length ≤ 1000 → g__law_words n [.d (encP kd r W)] q = .ok (.d (.tuple [.list (wordsD kd W), .int r])) q
  | _, 0, _, h, _ => absurd h (Nat.not_lt_zero _)
  | [], n + 1, q, _, _ => by
    have h := kd_isin kd
    simp [g__law_words, RD.run, ex, ev, evA, big, t__law_words, encP, wordsD, h]
  | a :: W, n + 1, q, hl, hb => by
    have h := ar_isin a
    have ih := words_ok kd r W n q (Nat.lt_of_succ_lt_succ hl) (Nat.le_of_succ_le hb)
    have hb' : W.length + 1 ≤ 1000 := hb
    have hlen : 1 + (wordsD kd W).length ≤ 16777216 := by
      unfold wordsD
      rw [List.length_append, List.length_map, List.length_singleton]
      omega
    have e : wordsD kd (a :: W) = .str a.str :: wordsD kd W := rfl
    rw [e]
    generalize wordsD kd W = X at ih hlen
    simp [g__law_words, RD.run, ex, ev, evA, big, t__law_words, encP, h, ih, binop, hlen]
theorem made_fold {v0 v1 : Slot} {q : Bag} : ∀ (W : List Ar) (kd : Kd) (r : Int) (V : List Ar) (c3 : Slot), ∃ c3',
    forR (fun x s => (R.ofS (asgT (.tname 3) x s)).bind fun _ s => ex b__law_made_1 s) (W.map Ar.strD) ⟨[v0, v1, .val (.d (encP kd r V)), c3], q⟩ = .ok .nx ⟨[v0, v1, .val (.d (encP kd r (W.reverse ++ V))), c3'], q⟩
  | [], kd, r, V, c3 => ⟨c3, rfl⟩
  | a :: W, kd, r, V, c3 => by
    obtain ⟨c3', ih⟩ := made_fold (v0 := v0) (v1 := v1) (q := q) W kd r (a :: V) (.val (.d (.str a.str)))
    refine ⟨c3', ?_⟩
    have e : (a :: W).reverse ++ V = W.reverse ++ (a :: V) := by simp
    rw [e, ← ih]
    rfl
theorem made_ok (kd : Kd) (r : Int) (W : List Ar) (q : Bag) : g__law_made [.d (.list (W.map Ar.strD ++ [.str kd.str])), .d (.int r)] q = .ok (.d (encP kd r W)) q := by
  have a := at_last (W.map Ar.strD) (PyData.str kd.str)
  have c := cut_init (W.map Ar.strD) (PyData.str kd.str)
  obtain ⟨c3, h⟩ := made_fold (v0 := .val (.d (.list (W.map Ar.strD ++ [.str kd.str])))) (v1 := .val (.d (.int r))) (q := q) W.reverse kd r [] .un
  rw [List.reverse_reverse, List.append_nil] at h
  have e2 : ex (.loop (.tname 3) (.itl (.rev (.slc (.var 0) .nopart (.acons (.neg (.cst (.int 1))) .anil)))) b__law_made_1) ⟨[.val (.d (.list (W.map Ar.strD ++ [.str kd.str]))), .val (.d (.int r)), .val (.d (encP kd r [])), .un], q⟩ =
      .ok .nx ⟨[.val (.d (.list (W.map Ar.strD ++ [.str kd.str]))), .val (.d (.int r)), .val (.d (encP kd r W)), c3], q⟩ := by
    have hi : evI (.itl (.rev (.slc (.var 0) .nopart (.acons (.neg (.cst (.int 1))) .anil)))) ⟨[.val (.d (.list (W.map Ar.strD ++ [.str kd.str]))), .val (.d (.int r)), .val (.d (encP kd r [])), .un], q⟩ = .ok (W.reverse.map Ar.strD) ⟨[.val (.d (.list (W.map Ar.strD ++ [.str kd.str]))), .val (.d (.int r)), .val (.d (encP kd r [])), .un], q⟩ := by
      simp [evI, ev, evO, slcop, c]
    show ((evI _ _).bind _) = _
    rw [hi]
    exact h
  refine run_rt (np := 2) (n := 4) (us := [.d (.list (W.map Ar.strD ++ [.str kd.str])), .d (.int r)]) (s' := ⟨[.val (.d (.list (W.map Ar.strD ++ [.str kd.str]))), .val (.d (.int r)), .val (.d (encP kd r W)), c3], q⟩) rfl ?_
  unfold t__law_made
  rw [seq_nx (s' := ⟨[.val (.d (.list (W.map Ar.strD ++ [.str kd.str]))), .val (.d (.int r)), .val (.d (encP kd r [])), .un], q⟩) (by simp [ex, ev, evA, a, encP, big]), seq_nx e2]
  simp [ex, ev]
end PG
set_option Elab.async false
set_option linter.all false
set_option maxRecDepth 1000000
set_option maxHeartbeats 0
/-! PgM: near phrases; where two phrases part. -/
namespace PG
open PySem L2 RD
theorem phrase_le : ∀ (n f : Nat) (x y : Int), n < f → ∃ p x' y', p ∈ phs n ∧ g__law_phrase f [.bag, .d (.int ((n : Int) + 1))] (some (x, y)) = .ok (.d p) (some (x', y'))
  | _, 0, _, _, h => absurd h (Nat.not_lt_zero _)
  | 0, f + 1, x, y, _ => by
    obtain ⟨z, x1, y1, x2, y2, r, e1, hc, ⟨hz, e2, hm⟩ | ⟨hz, e2, hm⟩⟩ := leaf_ok x y
    all_goals (
      unfold six at e1
      refine ⟨_, x2, y2, hm, ?_⟩
      simp [g__law_phrase, RD.run, ex, ev, evA, big, t__law_phrase, e1, e2, hz, hc])
  | n + 1, f + 1, x, y, h => by
    have hn : (1 : Int) < ((n + 1 : Nat) : Int) + 1 := by omega
    have hn2 : ((n + 1 : Nat) : Int) + 1 - 1 = (n : Int) + 1 := by omega
    obtain ⟨r, x0, y0, _, _, e0⟩ := take_ok (m := 3) (by decide) (by decide) x y
    generalize ((n + 1 : Nat) : Int) + 1 = N at hn hn2
    by_cases hr : r = 0
    · subst hr
      obtain ⟨w, x1, y1, hw, e1⟩ := of_ok ws (by simp [ws]) (by simp [ws]) x0 y0
      obtain ⟨p, x2, y2, hp, e2⟩ := phrase_le n f x1 y1 (Nat.lt_of_succ_lt_succ h)
      refine ⟨_, x2, y2, wrap_in hw hp, ?_⟩
      unfold ws at e1
      rw [g__law_phrase]
      simp [RD.run, ex, ev, evA, big, t__law_phrase, e0, e1, hn, hn2, e2]
    · obtain ⟨z, x1, y1, x2, y2, r, e1, hc, ⟨hz, e2, hm⟩ | ⟨hz, e2, hm⟩⟩ := leaf_ok x0 y0
      all_goals (
        unfold six at e1
        refine ⟨_, x2, y2, leaf_in _ _ hm, ?_⟩
        rw [g__law_phrase]
        simp [RD.run, ex, ev, evA, big, t__law_phrase, e0, e1, hn, hn2, e2, hz, hc, hr])
/-- the last word -/
def inK : Kd → Bool
  | .inn => true
  | _ => false
def ntK : Kd → Bool
  | .nm => true
  | .th => true
  | .nx => true
  | _ => false
theorem kd_in (kd : Kd) : cmpop .eq (.str kd.str) (.str "in") = some (inK kd) := by cases kd <;> kernel_rfl
theorem kd_nin (kd : Kd) : cmpop .ne (.str kd.str) (.str "in") = some (!inK kd) := by cases kd <;> kernel_rfl
theorem kd_nt (kd : Kd) : cmpop .isin (.str kd.str) (.list [.str "name", .str "this", .str "next"]) = some (ntK kd) := by cases kd <;> kernel_rfl
theorem nt_in {v : PyData} (h : v ∈ ([.str "name", .str "this", .str "next"] : List PyData)) : ∃ kd, v = .str (Kd.str kd) ∧ kd ≠ .inn := by
  simp only [List.mem_cons, List.not_mem_nil, or_false] at h
  rcases h with rfl | rfl | rfl
  · exact ⟨.nm, rfl, by intro h; cases h⟩
  · exact ⟨.th, rfl, by intro h; cases h⟩
  · exact ⟨.nx, rfl, by intro h; cases h⟩
theorem okR_six {kd : Kd} {r : Int} (hk : inK kd = false) : okR kd r ↔ 0 ≤ r ∧ r ≤ 6 := by cases kd <;> first | (cases hk; done) | exact Iff.rfl
/-- a near phrase is a phrase -/
theorem near_ok {p : PyData} (hp : phB 4 p = true) (x y : Int) : ∃ o x' y', phB 4 o = true ∧ g__law_near [.bag, .d p] (some (x, y)) = .ok (.d o) (some (x', y')) := by
  obtain ⟨kd, r, W, rfl, hW, hr⟩ := phB_enc2 4 p hp
  obtain ⟨w, x1, y1, w0, w4, e1⟩ := take_ok (m := 4) (by decide) (by decide) x y
  obtain ⟨o, x2, y2, ho, e2⟩ := phrase_le 2 4 x1 y1 (by decide)
  rw [show ((2 : Nat) : Int) + 1 = 3 from rfl] at e2
  have ho4 : phB 4 o = true := phB_mono (phs_ph 2 o ho)
  have ew := words_ok kd r W 6 (some (x, y)) (by omega) (by omega)
  unfold wordsD at ew
  have k1 := kd_in kd
  have k2 := kd_nin kd
  have k3 := kd_nt kd
  have a1 := at_last (W.map Ar.strD) (PyData.str kd.str)
  have a2 := cut_init (W.map Ar.strD) (PyData.str kd.str)
  have a3 := cut_last (W.map Ar.strD) (PyData.str kd.str)
  have m0 : kd = .inn → ∀ q, g__law_made [.d (.list (.str "week" :: (W.map Ar.strD ++ [.str "in"]))), .d (.int (r - 7))] q = .ok (.d (encP .inn (r - 7) (.wk :: W))) q := fun _ q => made_ok .inn (r - 7) (.wk :: W) q
  have m1 : ∀ q, g__law_made [.d (.list ((W.map Ar.strD).reverse ++ [.str kd.str])), .d (.int r)] q = .ok (.d (encP kd r W.reverse)) q := fun q => by
    have := made_ok kd r W.reverse q
    rwa [List.map_reverse] at this
  have m2 : ∀ kd' q, g__law_made [.d (.list (W.map Ar.strD ++ [.str (Kd.str kd')])), .d (.int r)] q = .ok (.d (encP kd' r W)) q := fun kd' q => made_ok kd' r W q
  have m3 : ∀ q, g__law_made [.d (.list (.str "after" :: (W.map Ar.strD ++ [.str kd.str]))), .d (.int ((r + 6) % 7))] q = .ok (.d (encP kd ((r + 6) % 7) (.af :: W))) q := fun q => made_ok kd ((r + 6) % 7) (.af :: W) q
  have hX : (W.map Ar.strD).length = W.length := List.length_map _
  generalize W.map Ar.strD = X at *
  have b1 : X.length + 1 ≤ 16777216 := by omega
  have b2 : 1 + X.length ≤ 16777216 := by omega
  have b3 : 1 + (X.length + 1) ≤ 16777216 := by omega
  have b4 : X.length ≤ 16777214 := by omega
  have b5 : X.length ≤ 16777215 := by omega
  have hw : w = 0 ∨ w = 1 ∨ w = 2 ∨ w = 3 := by omega
  rcases hw with rfl | rfl | rfl | rfl
  · by_cases c : inK kd = true ∧ 7 < r ∧ W.length < 3
    · obtain ⟨c1, c2, c3⟩ := c
      have hk : kd = .inn := by cases kd <;> first | rfl | cases c1
      subst hk
      have c3' : ((X.length : Int) + 1 < 4) := by omega
      have hr' : 1 ≤ r ∧ r ≤ 15 := hr
      refine ⟨_, x1, y1, enc_phB (kd := .inn) (r := r - 7) (show 1 ≤ r - 7 ∧ r - 7 ≤ 15 by omega) (.wk :: W) 4 (by show W.length + 1 < 4; omega), ?_⟩
      have m := m0 rfl (some (x1, y1))
      simp [g__law_near, RD.run, ex, ev, evA, evO, big, t__law_near, ew, e1, k1, c1, c2, c3', a1, a2, slcop, binop, b1, b2, b3, b4, b5, m]
    · refine ⟨o, x2, y2, ho4, ?_⟩
      by_cases c1 : inK kd = true
      · by_cases c2 : 7 < r
        · have c5 : ¬ W.length < 3 := fun z => c ⟨c1, c2, z⟩
          have c3' : ¬ ((X.length : Int) + 1 < 4) := by omega
          have c4 : ¬ ((X.length : Int) + 1 < 3) := by omega
          simp [g__law_near, RD.run, ex, ev, evA, evO, big, t__law_near, ew, e1, k1, k2, k3, c1, c2, c3', c4, a1, a2, e2]
        · simp [g__law_near, RD.run, ex, ev, evA, evO, big, t__law_near, ew, e1, k1, k2, k3, c1, c2, a1, a2, e2]
      · simp [g__law_near, RD.run, ex, ev, evA, evO, big, t__law_near, ew, e1, k1, k2, k3, c1, a1, a2, e2]
  · refine ⟨_, x1, y1, enc_phB hr W.reverse 4 (by rw [List.length_reverse]; exact hW), ?_⟩
    simp [g__law_near, RD.run, ex, ev, evA, evO, big, t__law_near, ew, e1, slcop, binop, a1, a2, a3, b1, b5, m1]
  · by_cases c1 : ntK kd = true
    · obtain ⟨v, x3, y3, hv, e3⟩ := of_ok [.str "name", .str "this", .str "next"] (by simp) (by simp) x1 y1
      obtain ⟨kd', rfl, hk'⟩ := nt_in hv
      have ki : inK kd = false := by cases kd <;> first | rfl | cases c1
      have ki' : inK kd' = false := by cases kd' <;> first | rfl | exact absurd rfl hk'
      refine ⟨_, x3, y3, enc_phB ((okR_six ki').mpr ((okR_six ki).mp hr)) W 4 hW, ?_⟩
      have m := m2 kd' (some (x3, y3))
      simp [g__law_near, RD.run, ex, ev, evA, evO, big, t__law_near, ew, e1, e3, slcop, binop, k3, c1, a1, a2, b1, b5, m]
    · refine ⟨o, x2, y2, ho4, ?_⟩
      simp [g__law_near, RD.run, ex, ev, evA, evO, big, t__law_near, ew, e1, k3, c1, a1, e2]
  · by_cases c : W.length < 2 ∧ inK kd = false
    · obtain ⟨c1, c2⟩ := c
      have c3 : ((X.length : Int) + 1 < 3) := by omega
      refine ⟨_, x1, y1, enc_phB (r := (r + 6) % 7) ((okR_six c2).mpr (by omega)) (.af :: W) 4 (by show W.length + 1 < 4; omega), ?_⟩
      have m := m3 (some (x1, y1))
      simp [g__law_near, RD.run, ex, ev, evA, evO, big, t__law_near, ew, e1, k2, c2, c3, a1, fe, binop, b1, b2, b3, b4, b5, m]
    · refine ⟨o, x2, y2, ho4, ?_⟩
      by_cases c3 : ((X.length : Int) + 1 < 3)
      · have c2 : inK kd = true := by
          cases h : inK kd
          · exact absurd ⟨by omega, h⟩ c
          · rfl
        simp [g__law_near, RD.run, ex, ev, evA, evO, big, t__law_near, ew, e1, k2, c2, c3, a1, e2]
      · simp [g__law_near, RD.run, ex, ev, evA, evO, big, t__law_near, ew, e1, c3, a1, e2]
/-! ### where they part -/
def ptsH (p o : PyData) (k : Int) (h : PyData) : List PyData := if (stp p h k == stp o h k) = true then [] else [.tuple [.int k, h]]
def ptsK (p o : PyData) (l : List PyData) : PyData → List PyData
  | .int k => l.flatMap (ptsH p o k)
  | _ => []
/-- weekday and habit, wherever the steps differ -/
def dueL (p o : PyData) (l : List PyData) : List PyData := (rangeD 0 7).flatMap (ptsK p o l)
theorem pts_len (p o : PyData) (k : Int) (h : PyData) : (ptsH p o k h).length ≤ 1 := by
  unfold ptsH
  split <;> simp
theorem ptsK_len (p o x : PyData) : ∀ (l : List PyData), (ptsK p o l x).length ≤ l.length := by
  intro l
  cases x <;> first | exact Nat.zero_le _ | skip
  rename_i k
  show (l.flatMap (ptsH p o k)).length ≤ _
  induction l with
  | nil => exact Nat.le_refl _
  | cons h t ih =>
    have := pts_len p o k h
    rw [List.flatMap_cons, List.length_append, List.length_cons]
    omega
theorem due_sym (p o : PyData) (l : List PyData) : dueL p o l = dueL o p l := by
  have a : ∀ k h, ptsH p o k h = ptsH o p k h := fun k h => by
    unfold ptsH
    rw [show (stp p h k == stp o h k) = (stp o h k == stp p h k) from Bool.beq_comm ..]
  have b : ∀ k, ptsH p o k = ptsH o p k := fun k => funext (a k)
  have c : ∀ x, ptsK p o l x = ptsK o p l x := fun x => by
    cases x <;> first | rfl | skip
    rename_i k
    show l.flatMap (ptsH p o k) = l.flatMap (ptsH o p k)
    rw [b k]
  unfold dueL
  rw [show ptsK p o l = ptsK o p l from funext c]
theorem due_self (p : PyData) (l : List PyData) : dueL p p l = [] := by
  have b : ∀ k h, ptsH p p k h = [] := fun k h => if_pos (beq_self_eq_true _)
  have c : ∀ x, ptsK p p l x = [] := fun x => by
    cases x <;> first | rfl | skip
    rename_i k
    exact List.flatMap_eq_nil_iff.mpr fun h _ => b k h
  exact List.flatMap_eq_nil_iff.mpr fun x _ => c x
theorem due_in {p o : PyData} {l : List PyData} {d : PyData} (h : d ∈ dueL p o l) : ∃ k h, h ∈ l ∧ d = .tuple [.int k, h] := by
  obtain ⟨x, hx, h1⟩ := List.mem_flatMap.mp h
  obtain ⟨k, _, _, rfl⟩ := range_int hx
  obtain ⟨y, hy, h2⟩ := List.mem_flatMap.mp h1
  unfold ptsH at h2
  split at h2
  · cases h2
  · exact ⟨k, y, hy, by simpa using h2⟩
theorem due_lay {p o : PyData} {l : List PyData} (L : LotD l) {d : PyData} (h : d ∈ dueL p o l) : d.canLay0 = true ∧ d.depth ≤ 2 := by
  obtain ⟨k, y, hy, rfl⟩ := due_in h
  obtain ⟨_, c, dp, _⟩ := every_hab (L.hab y hy)
  refine ⟨by simp [PyData.canLay0, PyData.canLayAll0, c], ?_⟩
  simp [PyData.depth, PyData.depthAll]
  omega
theorem shaped_due {p o : PyData} {l : List PyData} (L : LotD l) : SeqAt.shaped (.list (dueL p o l)) = true := shaped_list (n := 2) (fun x hx => (due_lay L hx).1) (fun x hx => (due_lay L hx).2) (by decide)
theorem needall_ok {p o : PyData} {l : List PyData} (hp : phB 4 p = true) (ho : phB 4 o = true) (L : LotD l) (q : Bag) : g_need_all [.d p, .d o, .d (.tuple l)] q = .ok (.d .none) q := by
  simp [g_need_all, RD.run, ex, ev, evA, big, t_need_all, needphrase_ok hp, needphrase_ok ho, needlot_ok L]
def firstD : List PyData → PyData
  | [] => .none
  | x :: _ => x
theorem part_ok {p o : PyData} {l : List PyData} (hp : phB 4 p = true) (ho : phB 4 o = true) (L : LotD l) (q : Bag) : g_parting_of [.d p, .d o, .d (.tuple l)] q = .ok (.d (firstD (dueL p o l))) q := by
  have inner : ∀ (k : Int) (c4 : Slot), ∃ c4', ex (b_parting_of_2 (g_step_of 6)) ⟨[.val (.d p), .val (.d o), .val (.d (.tuple l)), .val (.d (.int k)), c4], q⟩ = .ok (outF (l.flatMap (ptsH p o k))) ⟨[.val (.d p), .val (.d o), .val (.d (.tuple l)), .val (.d (.int k)), c4'], q⟩ := fun k c4 => by
    obtain ⟨s', e, c4', hs⟩ := forR_first (f := fun x s => (R.ofS (asgT (.tname 4) x s)).bind fun _ s => ex (b_parting_of_1 (g_step_of 6)) s) (P := fun s => ∃ c4, s = ⟨[.val (.d p), .val (.d o), .val (.d (.tuple l)), .val (.d (.int k)), c4], q⟩) (g := ptsH p o k) l
      ⟨[.val (.d p), .val (.d o), .val (.d (.tuple l)), .val (.d (.int k)), c4], q⟩ ⟨_, rfl⟩ fun h hh s ⟨c4, hs⟩ => by
        subst hs
        have e1 := step_all hp (L.hab h hh) k q
        have e2 := step_all ho (L.hab h hh) k q
        refine ⟨⟨[.val (.d p), .val (.d o), .val (.d (.tuple l)), .val (.d (.int k)), .val (.d h)], q⟩, ?_, _, rfl⟩
        by_cases c : stp p h k = stp o h k
        · have c' : ptsH p o k h = [] := if_pos (beq_iff_eq.mpr c)
          rw [c']
          simp [b_parting_of_1, ex, ev, evA, asgT, e1, e2, c, outF, big]
        · have c' : ptsH p o k h = [.tuple [.int k, h]] := if_neg fun z => c (beq_iff_eq.mp z)
          rw [c']
          simp [b_parting_of_1, ex, ev, evA, asgT, e1, e2, c, outF, big]
    subst hs
    have hl : ex (.loop (.tname 4) (.itt (.var 2)) (b_parting_of_1 (g_step_of 6))) ⟨[.val (.d p), .val (.d o), .val (.d (.tuple l)), .val (.d (.int k)), c4], q⟩ = .ok (outF (l.flatMap (ptsH p o k))) ⟨[.val (.d p), .val (.d o), .val (.d (.tuple l)), .val (.d (.int k)), c4'], q⟩ := e
    refine ⟨c4', ?_⟩
    unfold b_parting_of_2
    cases hz : l.flatMap (ptsH p o k) with
    | nil =>
      rw [hz] at hl
      rw [seq_nx hl]
      rfl
    | cons d ds =>
      rw [hz] at hl
      exact seq_rt hl
  obtain ⟨s', e, c3, c4, hs⟩ := forR_first (f := fun x s => (R.ofS (asgT (.tname 3) x s)).bind fun _ s => ex (b_parting_of_2 (g_step_of 6)) s) (P := fun s => ∃ c3 c4, s = ⟨[.val (.d p), .val (.d o), .val (.d (.tuple l)), c3, c4], q⟩) (g := ptsK p o l) (rangeD 0 7)
    ⟨[.val (.d p), .val (.d o), .val (.d (.tuple l)), .un, .un], q⟩ ⟨_, _, rfl⟩ fun x hx s ⟨c3, c4, hs⟩ => by
      subst hs
      obtain ⟨k, _, _, rfl⟩ := range_int hx
      obtain ⟨c4', e⟩ := inner k c4
      exact ⟨_, e, _, _, rfl⟩
  subst hs
  have hl : ex (.loop (.tname 3) (.itr1 (.cst (.int 7))) (b_parting_of_2 (g_step_of 6))) ⟨[.val (.d p), .val (.d o), .val (.d (.tuple l)), .un, .un], q⟩ = .ok (outF (dueL p o l)) ⟨[.val (.d p), .val (.d o), .val (.d (.tuple l)), c3, c4], q⟩ := e
  refine run_rt (np := 3) (n := 5) (us := [.d p, .d o, .d (.tuple l)]) (s' := ⟨[.val (.d p), .val (.d o), .val (.d (.tuple l)), c3, c4], q⟩) rfl ?_
  unfold t_parting_of
  cases hz : dueL p o l with
  | nil =>
    rw [hz] at hl
    refine (seq_nx hl).trans ?_
    rfl
  | cons d ds =>
    rw [hz] at hl
    exact seq_rt hl
theorem parting_ok {p o : PyData} {l : List PyData} (hp : phB 4 p = true) (ho : phB 4 o = true) (L : LotD l) (q : Bag) : g_parting [.d p, .d o, .d (.tuple l)] q = .ok (.d (firstD (dueL p o l))) q := by
  simp [g_parting, RD.run, ex, ev, evA, big, t_parting, needall_ok hp ho L, part_ok hp ho L]
theorem alike_ok {p o : PyData} {l : List PyData} (hp : phB 4 p = true) (ho : phB 4 o = true) (L : LotD l) (q : Bag) : g_alike [.d p, .d o, .d (.tuple l)] q = .ok (.d (.bool (dueL p o l).isEmpty)) q := by
  have h1 := needall_ok hp ho L q
  have h2 := part_ok hp ho L q
  cases hz : dueL p o l with
  | nil =>
    rw [hz] at h2
    simp [g_alike, RD.run, ex, ev, evA, big, t_alike, h1, h2, firstD, isNone]
  | cons d ds =>
    rw [hz] at h2
    obtain ⟨k, h, _, rfl⟩ := due_in (show d ∈ dueL p o l by rw [hz]; exact List.mem_cons_self)
    simp [g_alike, RD.run, ex, ev, evA, big, t_alike, h1, h2, firstD, isNone]
end PG
set_option Elab.async false
set_option linter.all false
set_option maxRecDepth 1000000
set_option maxHeartbeats 0
/-! PgN: values of any kind, spoiled values. -/
namespace RD
open PySem L2
theorem mem_cut {xs : List PyData} {a b : Option Int} {x : PyData} (h : x ∈ cutD xs a b) : x ∈ xs := List.mem_of_mem_drop (List.mem_of_mem_take h)
theorem len_cut (xs : List PyData) (a b : Option Int) : (cutD xs a b).length ≤ xs.length := by
  unfold cutD
  rw [List.length_take, List.length_drop]
  omega
theorem add_tup {xs ys : List PyData} (h : xs.length + ys.length ≤ 16777216) : binop .add (.tuple xs) (.tuple ys) = some (.tuple (xs ++ ys)) := if_pos h
theorem add_lst {xs ys : List PyData} (h : xs.length + ys.length ≤ 16777216) : binop .add (.list xs) (.list ys) = some (.list (xs ++ ys)) := if_pos h
theorem eq_nilT {xs : List PyData} (h : SeqAt.shaped (.tuple xs) = true) : cmpop .eq (.tuple xs) (.tuple []) = some xs.isEmpty := by
  show (if (SeqAt.shaped (.tuple xs) && SeqAt.shaped (.tuple [])) = true then some (PyData.eqv (.tuple xs) (.tuple [])) else none) = _
  rw [h, show SeqAt.shaped (.tuple []) = true by decide +kernel]
  cases xs <;> rfl
theorem at_nth {xs : List PyData} {r : Int} (h0 : 0 ≤ r) (h1 : r < xs.length) : ∃ x, x ∈ xs ∧ atI xs r = some x := by
  have hr : r.toNat < xs.length := by omega
  refine ⟨xs[r.toNat], List.getElem_mem hr, ?_⟩
  have h := atI_nat (List.getElem?_eq_getElem hr)
  rwa [show ((r.toNat : Nat) : Int) = r by omega] at h
end RD
namespace PG
open PySem L2 RD
def allW : List Str := ["name", "this", "next", "last", "in", "after", "before", "week", "now", "later", "coming", "second", "from", "with"]
theorem allW_lay {z : Str} (h : z ∈ allW) : (PyData.str z).canLay0 = true ∧ (PyData.str (z ++ ("s" : Str))).canLay0 = true ∧ z.length + 1 ≤ 16777216 := by
  have a : (allW.all fun z => (PyData.str z).canLay0 && ((PyData.str (z ++ ("s" : Str))).canLay0 && decide (z.length + 1 ≤ 16777216))) = true := by decide +kernel
  have := List.all_eq_true.mp a z h
  rw [Bool.and_eq_true, Bool.and_eq_true] at this
  exact ⟨this.1, this.2.1, of_decide_eq_true this.2.2⟩
/-- a clean value -/
inductive Cl : Nat → PyData → Prop
  | int {n : Nat} {i : Int} : -1000 ≤ i → i ≤ 1000 → Cl n (.int i)
  | str {n : Nat} {z : Str} : z ∈ allW → Cl n (.str z)
  | tup {n : Nat} {xs : List PyData} : xs.length ≤ 1000 → (∀ x ∈ xs, Cl n x) → Cl (n + 1) (.tuple xs)
/-- a small value -/
inductive Sm : Nat → PyData → Prop
  | none {n : Nat} : Sm n .none
  | bool {n : Nat} {b : Bool} : Sm n (.bool b)
  | int {n : Nat} {i : Int} : -(10 ^ 40) ≤ i → i ≤ 10 ^ 40 → Sm n (.int i)
  | str {n : Nat} {z : Str} : (PyData.str z).canLay0 = true → Sm n (.str z)
  | tup {n : Nat} {xs : List PyData} : xs.length ≤ 10000 → (∀ x ∈ xs, Sm n x) → Sm (n + 1) (.tuple xs)
  | lst {n : Nat} {xs : List PyData} : xs.length ≤ 10000 → (∀ x ∈ xs, Sm n x) → Sm (n + 1) (.list xs)
theorem Sm.up {n : Nat} {d : PyData} (h : Sm n d) : ∀ {m : Nat}, n ≤ m → Sm m d := by
  induction h with
  | none => exact fun _ => .none
  | bool => exact fun _ => .bool
  | int a b => exact fun _ => .int a b
  | str a => exact fun _ => .str a
  | tup a b ih =>
    intro m hm
    match m, hm with
    | m + 1, hm => exact .tup a fun x hx => ih x hx (Nat.le_of_succ_le_succ hm)
  | lst a b ih =>
    intro m hm
    match m, hm with
    | m + 1, hm => exact .lst a fun x hx => ih x hx (Nat.le_of_succ_le_succ hm)
theorem Cl.up {n : Nat} {d : PyData} (h : Cl n d) : ∀ {m : Nat}, n ≤ m → Cl m d := by
  induction h with
  | int a b => exact fun _ => .int a b
  | str a => exact fun _ => .str a
  | tup a b ih =>
    intro m hm
    match m, hm with
    | m + 1, hm => exact .tup a fun x hx => ih x hx (Nat.le_of_succ_le_succ hm)
theorem Cl.sm {n : Nat} {d : PyData} (h : Cl n d) : Sm n d := by
  induction h with
  | int a b => exact .int (by omega) (by omega)
  | str a => exact .str (allW_lay a).1
  | tup a b ih => exact .tup (by omega) ih
theorem Sm.lay {n : Nat} {d : PyData} (h : Sm n d) : d.canLay0 = true ∧ d.depth ≤ n := by
  induction h with
  | none => exact ⟨rfl, Nat.zero_le _⟩
  | bool => exact ⟨rfl, Nat.zero_le _⟩
  | int a b => exact ⟨rfl, Nat.zero_le _⟩
  | str a => exact ⟨a, Nat.zero_le _⟩
  | tup a b ih =>
    refine ⟨by simpa [PyData.canLay0] using lay_all fun x hx => (ih x hx).1, ?_⟩
    have := depth_all fun x hx => (ih x hx).2
    simp [PyData.depth]
    omega
  | lst a b ih =>
    refine ⟨by simpa [PyData.canLay0] using lay_all fun x hx => (ih x hx).1, ?_⟩
    have := depth_all fun x hx => (ih x hx).2
    simp [PyData.depth]
    omega
theorem Sm.shaped {n : Nat} {d : PyData} (h : Sm n d) (hn : n ≤ 64) : SeqAt.shaped d = true := by
  obtain ⟨h1, h2⟩ := h.lay
  unfold SeqAt.shaped
  rw [h1, decide_eq_true (show d.depth ≤ 64 by omega)]
  rfl
theorem Sm.big {n : Nat} {xs : List PyData} (h : Sm n (.tuple xs)) : ∀ x ∈ xs, big40 x := by
  cases h with
  | tup _ b =>
    intro x hx
    have hb := b x hx
    unfold big40
    split
    · cases hb with
      | tup _ c =>
        rename_i p q i n _
        have := c (.int i) (by simp)
        cases this with
        | int p q => exact ⟨p, q⟩
    · exact True.intro
/-- the values that are drawn -/
def anyL : List PyData := [.int 0, .int (-1), .int 1, .int 5, .int 6, .int 7, .int 15, .int 16, .bool true, .bool false, .none, .str "", .str "name", .str "next", .str "in", .str "week", .str "now", .int 1000000000000000000000000000000, .tuple [], .list [], .tuple [.str "in", .int 3], .tuple [.str "this", .int 6], .tuple [.str "after", .tuple [.str "in", .int 1]], .tuple [.int 0, .str "now", .str "week", .str "with"]]
def smB : Nat → PyData → Bool
  | _, .none => true
  | _, .bool _ => true
  | _, .int i => decide (-(10 ^ 40) ≤ i) && decide (i ≤ 10 ^ 40)
  | _, .str z => (PyData.str z).canLay0
  | n + 1, .tuple xs => decide (xs.length ≤ 10000) && xs.all (smB n)
  | n + 1, .list xs => decide (xs.length ≤ 10000) && xs.all (smB n)
  | _, _ => false
theorem smB_sm : ∀ (n : Nat) (d : PyData), smB n d = true → Sm n d
  | _, .none, _ => .none
  | _, .bool _, _ => .bool
  | n, .int i, h => by
    have h : (decide (-(10 ^ 40) ≤ i) && decide (i ≤ 10 ^ 40)) = true := by cases n <;> exact h
    rw [Bool.and_eq_true] at h
    exact .int (of_decide_eq_true h.1) (of_decide_eq_true h.2)
  | n, .str z, h => .str (by cases n <;> exact h)
  | 0, .tuple xs, h => by cases h
  | 0, .list xs, h => by cases h
  | n + 1, .tuple xs, h => by
    have h : (decide (xs.length ≤ 10000) && xs.all (smB n)) = true := h
    rw [Bool.and_eq_true] at h
    exact .tup (of_decide_eq_true h.1) fun x hx => smB_sm n x (List.all_eq_true.mp h.2 x hx)
  | n + 1, .list xs, h => by
    have h : (decide (xs.length ≤ 10000) && xs.all (smB n)) = true := h
    rw [Bool.and_eq_true] at h
    exact .lst (of_decide_eq_true h.1) fun x hx => smB_sm n x (List.all_eq_true.mp h.2 x hx)
  | n, .dict _, h => by cases n <;> cases h
theorem anyL_sm {v : PyData} (h : v ∈ anyL) : Sm 2 v := by
  have a : anyL.all (smB 2) = true := by decide +kernel
  exact smB_sm 2 v (List.all_eq_true.mp a v h)
theorem any_ok : ∀ (n f : Nat) (x y : Int), n < f → n ≤ 100 → ∃ v x' y', Sm (n + 2) v ∧ g__law_any_value f [.bag, .d (.int (n : Int))] (some (x, y)) = .ok (.d v) (some (x', y'))
  | _, 0, _, _, h, _ => absurd h (Nat.not_lt_zero _)
  | n, f + 1, x, y, h, hn => by
    obtain ⟨k, x1, y1, k0, k8, e1⟩ := take_ok (m := 8) (by decide) (by decide) x y
    obtain ⟨v, x2, y2, hv, e2⟩ := of_ok anyL (by simp [anyL]) (by simp [anyL]) x1 y1
    have hp : CPow 10 30 := ⟨by decide, by decide, by decide⟩
    by_cases c : k < 5 ∨ n = 0
    · refine ⟨v, x2, y2, (anyL_sm hv).up (Nat.le_add_left 2 n), ?_⟩
      unfold anyL at e2
      rcases c with c | c
      · simp [g__law_any_value, RD.run, ex, ev, evA, big, t__law_any_value, e1, c, hp, binop, e2]
      · subst c
        by_cases c : k < 5
        · simp [g__law_any_value, RD.run, ex, ev, evA, big, t__law_any_value, e1, c, hp, binop, e2]
        · simp [g__law_any_value, RD.run, ex, ev, evA, big, t__law_any_value, e1, c, hp, binop, e2]
    · have c1 : ¬ k < 5 := fun z => c (.inl z)
      match n, hn, c with
      | 0, _, c => exact absurd (.inr rfl) c
      | n + 1, hn, c =>
        have hm : (((n + 1 : Nat) : Int) == 0) = false := by rw [beq_eq_false_iff_ne]; omega
        have hm2 : ((n + 1 : Nat) : Int) - 1 = (n : Int) := by omega
        obtain ⟨r, x3, y3, r0, r5, e3⟩ := take_ok (m := 5) (by decide) (by decide) x1 y1
        obtain ⟨ys, x4, y4, hl, hg, e4⟩ := comp_draw (i := 5) (it := .itr1 (.call "_law_take" g__law_take (.acons (.var 0) (.acons (.cst (.int 5)) .anil)))) (e := .call "_law_any_value" (g__law_any_value f) (.acons (.var 0) (.acons (.bin .sub (.var 1) (.cst (.int 1))) .anil)))
          (rho := [.val .bag, .val (.d (.int ((n + 1 : Nat) : Int))), .val (.d (.int k)), .un, .un, .un]) (Good := Sm (n + 2)) (x := x1) (y := y1) (xs := rangeD 0 r.toNat) ⟨x3, y3, by
            have : r ≤ 1000000 ∧ -1000000 ≤ r := by omega
            simp [evI, ev, evA, e3, this]⟩ (by rw [range_len]; show r.toNat ≤ 16777216; omega) fun z _ x y => by
            obtain ⟨w, x', y', g, e⟩ := any_ok n f x y (Nat.lt_of_succ_lt_succ h) (Nat.le_of_succ_le hn)
            refine ⟨w, x', y', g, ?_⟩
            generalize hN : ((n + 1 : Nat) : Int) = N at hm2 ⊢
            simp [ev, evA, hm2, e]
        rw [range_len] at hl
        have hs : ys.length ≤ 10000 := by omega
        have e4' : ev (c__law_any_value_1 g__law_take (g__law_any_value f)) ⟨[.val .bag, .val (.d (.int ((n + 1 : Nat) : Int))), .val (.d (.int k)), .un, .un, .un], some (x1, y1)⟩ = .ok (.d (.list ys)) ⟨[.val .bag, .val (.d (.int ((n + 1 : Nat) : Int))), .val (.d (.int k)), .un, .un, .un], some (x4, y4)⟩ := e4
        clear e4
        have hk : k = 5 ∨ k = 6 ∨ k = 7 := by omega
        generalize ((n + 1 : Nat) : Int) = N at e4' hm
        rcases hk with rfl | rfl | rfl
        · refine ⟨_, x4, y4, Sm.lst hs hg, ?_⟩
          simp [g__law_any_value, RD.run, ex, ev, evA, big, t__law_any_value, e1, hm, e4', bltop]
        · refine ⟨_, x4, y4, Sm.tup hs hg, ?_⟩
          simp [g__law_any_value, RD.run, ex, ev, evA, big, t__law_any_value, e1, hm, e4', bltop]
        · refine ⟨_, x4, y4, Sm.tup hs hg, ?_⟩
          simp [g__law_any_value, RD.run, ex, ev, evA, big, t__law_any_value, e1, hm, e4', bltop]
end PG
set_option Elab.async false
set_option linter.all false
set_option maxRecDepth 1000000
set_option maxHeartbeats 0
/-! PgO: spoiled values. -/
namespace PG
open PySem L2 RD
theorem sm_s {n : Nat} {z : Str} (h : z ∈ allW) : Sm n (.str (z ++ ("s" : Str))) := .str (allW_lay h).2.1
theorem sm_w {n : Nat} {z : Str} (h : z ∈ allW) : Sm n (.str z) := .str (allW_lay h).1
theorem spoiled_ok : ∀ (n f : Nat) (v : PyData) (x y : Int), Cl n v → n < f → n ≤ 40 → ∃ o x' y', Sm (n + 4) o ∧ g__law_spoiled f [.bag, .d v] (some (x, y)) = .ok (.d o) (some (x', y'))
  | _, 0, _, _, _, _, h, _ => absurd h (Nat.not_lt_zero _)
  | n, f + 1, v, x, y, hv, h, hn => by
    cases hv with
    | int i0 i1 =>
      rename_i i
      obtain ⟨w, x1, y1, hw, e1⟩ := any_ok 1 3 x y (by decide) (by decide)
      obtain ⟨o, x2, y2, ho, e2⟩ := of_ok [w, .list [.int i], .int (i + 1), .int (i - 1), .int 6, .int 0, .bool true] (by simp) (by simp) x1 y1
      refine ⟨o, x2, y2, ?_, ?_⟩
      · simp only [List.mem_cons, List.not_mem_nil, or_false] at ho
        rcases ho with rfl | rfl | rfl | rfl | rfl | rfl | rfl
        · exact hw.up (by omega)
        · exact Sm.lst (by simp) fun z hz => by
            simp only [List.mem_cons, List.not_mem_nil, or_false] at hz
            subst hz
            exact .int (by omega) (by omega)
        all_goals first | exact .int (by omega) (by omega) | exact .bool
      · rw [show ((1 : Nat) : Int) = 1 from rfl] at e1
        simp [g__law_spoiled, RD.run, ex, ev, evA, big, t__law_spoiled, isiD, e1, e2, binop]
    | str hz =>
      rename_i z
      obtain ⟨w, x1, y1, hw, e1⟩ := any_ok 1 3 x y (by decide) (by decide)
      obtain ⟨o, x2, y2, ho, e2⟩ := of_ok [w, .list [.str z], .str (z ++ ("s" : Str)), .str "later", .str "second", .str "from", .str "before", .str "last", .str "coming"] (by simp) (by simp) x1 y1
      refine ⟨o, x2, y2, ?_, ?_⟩
      · simp only [List.mem_cons, List.not_mem_nil, or_false] at ho
        rcases ho with rfl | rfl | rfl | rfl | rfl | rfl | rfl | rfl | rfl
        · exact hw.up (by omega)
        · exact Sm.lst (by simp) fun u hu => by
            simp only [List.mem_cons, List.not_mem_nil, or_false] at hu
            subst hu
            exact sm_w hz
        · exact sm_s hz
        all_goals exact sm_w (by simp [allW])
      · rw [show ((1 : Nat) : Int) = 1 from rfl] at e1
        have hb : binop .add (.str z) (.str "s") = some (.str (z ++ ("s" : Str))) := if_pos (allW_lay hz).2.2
        have hl : ∀ A B : List PyData, A.length + B.length ≤ 16777216 → binop .add (.list A) (.list B) = some (.list (A ++ B)) := fun A B h => add_lst h
        simp [g__law_spoiled, RD.run, ex, ev, evA, big, t__law_spoiled, isiD, e1, e2, hb, hl]
    | tup hl hc =>
      rename_i n xs
      have hsm : Sm (n + 1) (.tuple xs) := Cl.sm (.tup hl hc)
      have hsh := hsm.shaped (by omega)
      have h0 := eq_nilT hsh
      have early : ∀ x1 y1, ∃ o w x2 y2 x3 y3, Sm (n + 1 + 4) o ∧ g__law_any_value 3 [.bag, .d (.int 1)] (some (x1, y1)) = .ok (.d w) (some (x2, y2)) ∧ g__law_of [.bag, .d (.list [w, .list [.tuple xs]])] (some (x2, y2)) = .ok (.d o) (some (x3, y3)) := fun x1 y1 => by
        obtain ⟨w, x2, y2, hw, e1⟩ := any_ok 1 3 x1 y1 (by decide) (by decide)
        obtain ⟨o, x3, y3, ho, e2⟩ := of_ok [w, .list [.tuple xs]] (by simp) (by simp) x2 y2
        refine ⟨o, w, x2, y2, x3, y3, ?_, e1, e2⟩
        simp only [List.mem_cons, List.not_mem_nil, or_false] at ho
        rcases ho with rfl | rfl
        · exact hw.up (by omega)
        · exact (Sm.lst (n := n + 1) (by simp) fun u hu => by
            simp only [List.mem_cons, List.not_mem_nil, or_false] at hu
            subst hu
            exact hsm).up (by omega)
      by_cases hx : xs = []
      · subst hx
        obtain ⟨o, w, x2, y2, x3, y3, ho, e1, e2⟩ := early x y
        refine ⟨o, x3, y3, ho, ?_⟩
        simp [g__law_spoiled, RD.run, ex, ev, evA, big, t__law_spoiled, isiD, e1, e2, h0]
      · have hne : xs.isEmpty = false := by cases xs <;> first | rfl | exact absurd rfl hx
        have hpos : 1 ≤ xs.length := by cases xs <;> first | exact absurd rfl hx | simp
        rw [hne] at h0
        obtain ⟨r6, x1, y1, _, _, e6⟩ := take_ok (m := 6) (by decide) (by decide) x y
        by_cases c : r6 = 0
        · subst c
          obtain ⟨o, w, x2, y2, x3, y3, ho, e1, e2⟩ := early x1 y1
          refine ⟨o, x3, y3, ho, ?_⟩
          simp [g__law_spoiled, RD.run, ex, ev, evA, big, t__law_spoiled, isiD, e6, e1, e2, h0]
        · obtain ⟨a, x2, y2, a0, a1, ea⟩ := take_ok (m := xs.length) (by omega) (by omega) x1 y1
          obtain ⟨k, x3, y3, k0, k1, ek⟩ := take_ok (m := 8) (by decide) (by decide) x2 y2
          have m1 : ∀ z ∈ cutD xs none (some a), Sm n z := fun z hz => (hc z (mem_cut hz)).sm
          have m2 : ∀ z ∈ cutD xs (some (a + 1)) none, Sm n z := fun z hz => (hc z (mem_cut hz)).sm
          have m3 : ∀ z ∈ cutD xs (some a) (some (a + 1)), Sm n z := fun z hz => (hc z (mem_cut hz)).sm
          have l1 := len_cut xs none (some a)
          have l2 := len_cut xs (some (a + 1)) none
          have l3 := len_cut xs (some a) (some (a + 1))
          generalize hA : cutD xs none (some a) = A at m1 l1
          generalize hB : cutD xs (some (a + 1)) none = B at m2 l2
          generalize hC : cutD xs (some a) (some (a + 1)) = C at m3 l3
          have hadd : ∀ A B : List PyData, A.length + B.length ≤ 16777216 → binop .add (.tuple A) (.tuple B) = some (.tuple (A ++ B)) := fun A B h => add_tup h
          by_cases k0' : k = 0
          · subst k0'
            refine ⟨.tuple (A ++ B), x3, y3, (Sm.tup (n := n) (by rw [List.length_append]; omega) fun z hz => ?_).up (by omega), ?_⟩
            · rcases List.mem_append.mp hz with hz | hz
              · exact m1 z hz
              · exact m2 z hz
            · have b1 := hadd A B (by omega)
              simp [g__law_spoiled, RD.run, ex, ev, evA, evO, big, t__law_spoiled, isiD, e6, c, h0, ea, ek, hA, hB, b1]
          · by_cases k1' : k = 1
            · subst k1'
              have b0 : binop .mul (.tuple C) (.int 2) = some (.tuple (List.replicate 2 C).flatten) := if_pos ⟨by decide, by decide, by omega⟩
              have hD : ∀ z ∈ (List.replicate 2 C).flatten, Sm n z := fun z hz => by
                obtain ⟨l, hl, hz⟩ := List.mem_flatten.mp hz
                rw [List.eq_of_mem_replicate hl] at hz
                exact m3 z hz
              have lD : (List.replicate 2 C).flatten.length ≤ 2000 := by
                simp
                omega
              generalize (List.replicate 2 C).flatten = D at *
              refine ⟨.tuple (A ++ D ++ B), x3, y3, (Sm.tup (n := n) (by rw [List.length_append, List.length_append]; omega) fun z hz => ?_).up (by omega), ?_⟩
              · rcases List.mem_append.mp hz with hz | hz
                · rcases List.mem_append.mp hz with hz | hz
                  · exact m1 z hz
                  · exact hD z hz
                · exact m2 z hz
              · have b1 := hadd A D (by omega)
                have b2 := hadd (A ++ D) B (by rw [List.length_append]; omega)
                rw [List.append_assoc] at b2 ⊢
                simp [g__law_spoiled, RD.run, ex, ev, evA, evO, big, t__law_spoiled, isiD, e6, c, h0, ea, ek, hA, hB, hC, b0, b1, b2]
            · by_cases k2' : k = 2
              · subst k2'
                refine ⟨.tuple xs.reverse, x3, y3, (Sm.tup (n := n) (by rw [List.length_reverse]; omega) fun z hz => (hc z (List.mem_reverse.mp hz)).sm).up (by omega), ?_⟩
                simp [g__law_spoiled, RD.run, ex, ev, evA, evO, big, t__law_spoiled, isiD, e6, c, h0, ea, ek]
              · by_cases k3' : k = 3
                · subst k3'
                  refine ⟨.list xs, x3, y3, (Sm.lst (n := n) (by omega) fun z hz => (hc z hz).sm).up (by omega), ?_⟩
                  simp [g__law_spoiled, RD.run, ex, ev, evA, evO, big, t__law_spoiled, isiD, e6, c, h0, ea, ek, bltop]
                · obtain ⟨z, hz, ez⟩ := at_nth a0 a1
                  obtain ⟨o, x4, y4, ho, eo⟩ := spoiled_ok n f z x3 y3 (hc z hz) (Nat.lt_of_succ_lt_succ h) (by omega)
                  refine ⟨.tuple (A ++ o :: B), x4, y4, (Sm.tup (n := n + 4) (by rw [List.length_append, List.length_cons]; omega) fun z hz => ?_).up (by omega), ?_⟩
                  · rcases List.mem_append.mp hz with hz | hz
                    · exact (m1 z hz).up (by omega)
                    · rcases List.mem_cons.mp hz with rfl | hz
                      · exact ho
                      · exact (m2 z hz).up (by omega)
                  · have b1 := hadd A [o] (by rw [List.length_singleton]; omega)
                    have b2 := hadd (A ++ [o]) B (by rw [List.length_append, List.length_singleton]; omega)
                    rw [List.append_assoc, List.singleton_append] at b2
                    simp [g__law_spoiled, RD.run, ex, ev, evA, evO, big, t__law_spoiled, isiD, e6, c, h0, ea, ek, hA, hB, k0', k1', k2', k3', ez, eo, b1, b2]
end PG
set_option Elab.async false
set_option linter.all false
set_option maxRecDepth 1000000
set_option maxHeartbeats 0
/-! PgP: habits told back, on both sides. -/
namespace PG
open PySem L2 RD
theorem sum_bd : ∀ W : List Ar, -(7 * (W.length : Int)) ≤ sumA W ∧ sumA W ≤ 7 * (W.length : Int)
  | [] => ⟨Int.le_refl _, Int.le_refl _⟩
  | a :: W => by
    have := sum_bd W
    show -(7 * ((W.length + 1 : Nat) : Int)) ≤ sumA W + a.val ∧ sumA W + a.val ≤ 7 * ((W.length + 1 : Nat) : Int)
    cases a <;> simp only [Ar.val] <;> omega
theorem stp_bd {p h : PyData} (hp : phB 4 p = true) (hh : h ∈ every) {wd : Int} (hw : 0 ≤ wd ∧ wd ≤ 6) : -100 ≤ stp p h wd ∧ stp p h wd ≤ 100 := by
  have e := step_all hp hh wd none
  obtain ⟨kd, r, W, rfl, h1, h2⟩ := phB_enc2 4 p hp
  obtain ⟨b, o, n, c, on, wk, sc, wi, rfl, hb, H⟩ := every_in hh
  rw [step_ok H kd b wd r W 6 none (by omega)] at e
  have e3 : leafStep kd r b on wk sc wi wd + sumA W = stp (encP kd r W) (hab b o n c) wd := by
    injection e with e _
    injection e with e
    injection e
  rw [← e3]
  have hs := sum_bd W
  have hl : -40 ≤ leafStep kd r b on wk sc wi wd ∧ leafStep kd r b on wk sc wi wd ≤ 40 := by
    cases kd with
    | inn =>
      have h2 : 1 ≤ r ∧ r ≤ 15 := h2
      show -40 ≤ r - (if wi = true then 1 else 0) ∧ r - (if wi = true then 1 else 0) ≤ 40
      split <;> omega
    | nm =>
      show -40 ≤ (if (r == wd) = true ∧ on = true then (0 : Int) else 1 + (r - wd - 1) % 7) ∧ (if (r == wd) = true ∧ on = true then (0 : Int) else 1 + (r - wd - 1) % 7) ≤ 40
      split <;> omega
    | th =>
      show -40 ≤ (r - b) % 7 - (wd - b) % 7 ∧ (r - b) % 7 - (wd - b) % 7 ≤ 40
      omega
    | nx =>
      show -40 ≤ (if wk = true then (r - b) % 7 - (wd - b) % 7 + 7 else 1 + (r - wd - 1) % 7 + (if sc = true then 7 else 0)) ∧ (if wk = true then (r - b) % 7 - (wd - b) % 7 + 7 else 1 + (r - wd - 1) % 7 + (if sc = true then 7 else 0)) ≤ 40
      split
      · omega
      · split <;> omega
    | lt =>
      show -40 ≤ (if wk = true then (r - b) % 7 - (wd - b) % 7 - 7 else 0 - (1 + (wd - r - 1) % 7) - (if sc = true then 7 else 0)) ∧ (if wk = true then (r - b) % 7 - (wd - b) % 7 - 7 else 0 - (1 + (wd - r - 1) % 7) - (if sc = true then 7 else 0)) ≤ 40
      split
      · omega
      · split <;> omega
  omega
theorem enc_cl (kd : Kd) {r : Int} (h : okR kd r) : ∀ W : List Ar, Cl (W.length + 1) (encP kd r W)
  | [] => .tup (by simp) fun x hx => by
      simp only [List.mem_cons, List.not_mem_nil, or_false] at hx
      rcases hx with rfl | rfl
      · exact .str (by cases kd <;> simp [allW, Kd.str])
      · cases kd with
        | inn =>
          have h : 1 ≤ r ∧ r ≤ 15 := h
          exact .int (by omega) (by omega)
        | _ =>
          have h : 0 ≤ r ∧ r ≤ 6 := h
          exact .int (by omega) (by omega)
  | a :: W => .tup (by simp) fun x hx => by
      simp only [List.mem_cons, List.not_mem_nil, or_false] at hx
      rcases hx with rfl | rfl
      · exact .str (by cases a <;> simp [allW, Ar.str])
      · exact enc_cl kd h W
theorem ph_cl {m : Nat} {p : PyData} (h : phB m p = true) : Cl m p := by
  obtain ⟨kd, r, W, rfl, h1, h2⟩ := phB_enc2 m p h
  exact (enc_cl kd h2 W).up h1
/-- a habit fits a fact -/
def fitB (h : PyData) : PyData → Bool
  | .tuple [p, .int w, .int s] => stp p h w == s
  | _ => false
theorem fact_form {x : PyData} (h : factB x = true) : ∃ p w s, x = .tuple [p, .int w, .int s] ∧ phB 4 p = true ∧ (0 ≤ w ∧ w ≤ 6) := by
  unfold factB at h
  split at h
  · rename_i p w s
    rw [Bool.and_eq_true, Bool.and_eq_true] at h
    obtain ⟨h1, h2, h3⟩ := h
    cases w <;> first | cases h2 | skip
    cases s <;> first | cases h3 | skip
    exact ⟨p, _, _, rfl, h1, of_decide_eq_true h2⟩
  · cases h
theorem fits_ok {xs : List PyData} (hf : ∀ x ∈ xs, factB x = true) (hl : xs.length ≤ 1000) {h : PyData} (hh : h ∈ every) (c1 : Slot) (ds : List PyData) (c4 c5 c6 : Slot) (q : Bag) :
    ev (c_habits_with_2 (g_step_of 6)) ⟨[.val (.d (.tuple xs)), c1, .ol ds, .val (.d h), c4, c5, c6], q⟩ = .ok (.d (.list (xs.map fun x => .bool (fitB h x)))) ⟨[.val (.d (.tuple xs)), c1, .ol ds, .val (.d h), .un, .un, .un], q⟩ := by
  obtain ⟨s', e1, c4', c5', c6', hs⟩ := compR_ok (f := fun x s => (R.ofS (asgT (.ttup (.acons (.tname 4) (.acons (.tname 5) (.acons (.tname 6) (.anil))))) x ⟨wipeS s.rho [4, 5, 6], s.bag⟩)).bind fun _ s => (ev .yes s).tst fun k s => if k = true then (ev (.cmp .eq (.call "step_of" (g_step_of 6) (.acons (.var 4) (.acons (.var 3) (.acons (.var 5) .anil)))) (.var 6)) s).dat fun y s => .ok (some y) s else .ok none s)
    (P := fun s => ∃ c4 c5 c6, s = ⟨[.val (.d (.tuple xs)), c1, .ol ds, .val (.d h), c4, c5, c6], q⟩) (g := fun x => some (.bool (fitB h x))) xs [] ⟨[.val (.d (.tuple xs)), c1, .ol ds, .val (.d h), c4, c5, c6], q⟩ ⟨_, _, _, rfl⟩ (fun x hx s ⟨c4, c5, c6, hs⟩ => by
      subst hs
      obtain ⟨p, w, s, rfl, hp, hw⟩ := fact_form (hf x hx)
      have e := step_all hp hh w q
      refine ⟨⟨[.val (.d (.tuple xs)), c1, .ol ds, .val (.d h), .val (.d p), .val (.d (.int w)), .val (.d (.int s))], q⟩, ?_, _, _, _, rfl⟩
      simp [asgT, wipeS, ev, evA, R.ofS, e, fitB, big]) (by show [].length + xs.length ≤ 16777216; simp; omega)
  subst hs
  rw [List.nil_append, show xs.filterMap (fun x => some (PyData.bool (fitB h x))) = xs.map fun x => .bool (fitB h x) by simp] at e1
  have hi : evI (.itt (.var 0)) ⟨[.val (.d (.tuple xs)), c1, .ol ds, .val (.d h), c4, c5, c6], q⟩ = .ok xs ⟨[.val (.d (.tuple xs)), c1, .ol ds, .val (.d h), c4, c5, c6], q⟩ := by simp [evI, ev]
  show ((evI _ _).bind fun xs s => match compR _ [] xs s with
    | .ok ys s => R.ok (U.d (.list ys)) ⟨wipeS s.rho [4, 5, 6], s.bag⟩
    | _ => .stuck) = _
  rw [hi]
  show (match compR _ [] xs _ with
    | .ok ys s => R.ok (U.d (.list ys)) ⟨wipeS s.rho [4, 5, 6], s.bag⟩
    | _ => .stuck) = _
  rw [e1]
  rfl
/-- the habits that fit all facts -/
def fitL (xs : List PyData) : List PyData := every.filter fun h => xs.all (fitB h)
theorem fit_flat (xs : List PyData) : (every.flatMap fun h => if xs.all (fitB h) = true then [h] else []) = fitL xs := by
  unfold fitL
  generalize every = l
  induction l with
  | nil => rfl
  | cons h t ih =>
    rw [List.flatMap_cons, ih, List.filter_cons]
    split <;> rfl
theorem every_len : every.length = 36 := by decide +kernel
theorem isfacts_ok {xs : List PyData} (hc : ∀ x ∈ xs, x.canLay0 = true) (hl : xs.length ≤ 1000) (c1 c2 c3 c4 c5 c6 : Slot) (q : Bag) :
    ev (c_habits_with_1 g_is_fact) ⟨[.val (.d (.tuple xs)), c1, c2, c3, c4, c5, c6], q⟩ = .ok (.d (.list (xs.map fun x => .bool (factB x)))) ⟨[.val (.d (.tuple xs)), .un, c2, c3, c4, c5, c6], q⟩ :=
  comp_all (i := 1) (rho := [.val (.d (.tuple xs)), c1, c2, c3, c4, c5, c6]) (by simp [evI, ev]) (by show xs.length ≤ 16777216; omega) fun x hx => by
    have e := isfact_any x (hc x hx) q
    simp [ev, evA, e]
theorem habits_ok {xs : List PyData} (hc : ∀ x ∈ xs, x.canLay0 = true) (hf : ∀ x ∈ xs, factB x = true) (hl : xs.length ≤ 20) (q : Bag) : g_habits_with [.d (.tuple xs)] q = .ok (.d (.list (fitL xs))) q := by
  have h1 := isfacts_ok hc (by omega) .un .un .un .un .un .un q
  have ha : xs.all factB = true := List.all_eq_true.mpr hf
  have h2 := allB_map xs factB
  rw [ha] at h2
  have hl' : ¬ ((20 : Int) < (xs.length : Int)) := by omega
  obtain ⟨s', e, c3, c4, c5, c6, hs⟩ := forR_app (f := fun x s => (R.ofS (asgT (.tname 3) x s)).bind fun _ s => ex (b_habits_with_3 (g_step_of 6)) s) (P := fun ds s => ∃ c3 c4 c5 c6, s = ⟨[.val (.d (.tuple xs)), .un, .ol ds, c3, c4, c5, c6], q⟩)
      (g := fun h => if xs.all (fitB h) = true then [h] else []) (m := 1) (base := 1000) every [] ⟨[.val (.d (.tuple xs)), .un, .ol [], .un, .un, .un, .un], q⟩ (by rw [every_len]; decide) ⟨_, _, _, _, rfl⟩ (fun x _ => by split <;> simp) fun h hh ds s hb ⟨c3, c4, c5, c6, hs⟩ => by
        subst hs
        have e1 := fits_ok hf (by omega) hh .un ds c4 c5 c6 q
        have e2 := allB_map xs (fitB h)
        have hb' : ds.length < 16777216 := by omega
        cases c : xs.all (fitB h) with
        | true =>
          rw [c] at e2
          refine ⟨⟨[.val (.d (.tuple xs)), .un, .ol (ds ++ [h]), .val (.d h), .un, .un, .un], q⟩, ?_, _, _, _, _, rfl⟩
          simp [b_habits_with_3, ex, ev, evA, asgT, e1, bltop, e2, big, hb']
        | false =>
          rw [c] at e2
          refine ⟨⟨[.val (.d (.tuple xs)), .un, .ol ds, .val (.d h), .un, .un, .un], q⟩, ?_, .val (.d h), .un, .un, .un, by simp⟩
          simp [b_habits_with_3, ex, ev, evA, asgT, e1, bltop, e2, big, hb']
  subst hs
  rw [List.nil_append, fit_flat] at e
  have hi : evI (.itl (.call "all_habits_there_are" g_all_habits_there_are (.anil))) ⟨[.val (.d (.tuple xs)), .un, .ol [], .un, .un, .un, .un], q⟩ = .ok every ⟨[.val (.d (.tuple xs)), .un, .ol [], .un, .un, .un, .un], q⟩ := by
    have := every_ok q
    simp [evI, ev, evA, this]
  have hlp : ex (.loop (.tname 3) (.itl (.call "all_habits_there_are" g_all_habits_there_are (.anil))) (b_habits_with_3 (g_step_of 6))) ⟨[.val (.d (.tuple xs)), .un, .ol [], .un, .un, .un, .un], q⟩ = .ok .nx ⟨[.val (.d (.tuple xs)), .un, .ol (fitL xs), c3, c4, c5, c6], q⟩ := by
    show ((evI _ _).bind _) = _
    rw [hi]
    exact e
  refine run_rt (np := 1) (n := 7) (us := [.d (.tuple xs)]) (s' := ⟨[.val (.d (.tuple xs)), .un, .val (.d (.list (fitL xs))), c3, c4, c5, c6], q⟩) rfl ?_
  unfold t_habits_with
  rw [seq_nx (s' := ⟨[.val (.d (.tuple xs)), .un, .un, .un, .un, .un, .un], q⟩) (by simp [ex, ev, evA, h1, h2, hl', isiD, bltop, big, raiseR]), seq_nx (s' := ⟨[.val (.d (.tuple xs)), .un, .ol [], .un, .un, .un, .un], q⟩) (by simp [ex, ev, evA, big]), seq_nx hlp]
  simp [ex, ev]
theorem habits_bad {d : PyData} (hc : d.canLay0 = true) (hf : factsB d = false) (hb : ∀ xs, d = .tuple xs → xs.length ≤ 10000) (q : Bag) : g_habits_with [.d d] q = .exn "InvalidFacts" none q := by
  cases d with
  | dict _ => cases hc
  | tuple xs =>
    by_cases hl : xs.length ≤ 20
    · have h1 := isfacts_ok (canAll hc) (by omega) .un .un .un .un .un .un q
      have ha : xs.all factB = false := by
        have : (decide (xs.length ≤ 20) && xs.all factB) = false := hf
        rwa [decide_eq_true hl, Bool.true_and] at this
      have h2 := allB_map xs factB
      rw [ha] at h2
      have hl' : ¬ ((20 : Int) < (xs.length : Int)) := by omega
      simp [g_habits_with, t_habits_with, RD.run, ex, ev, evA, h1, h2, hl', isiD, bltop, big, raiseR]
    · have hl' : ((20 : Int) < (xs.length : Int)) := by omega
      simp [g_habits_with, t_habits_with, RD.run, ex, ev, evA, hl', isiD, bltop, big, raiseR]
  | _ => simp [g_habits_with, t_habits_with, RD.run, ex, ev, evA, isiD, bltop, big, raiseR]
/-- what is told of a value -/
def toldD : PyData → PyData
  | .tuple xs => if factsB (.tuple xs) = true then .list (fitL xs) else .str "facts"
  | _ => .str "facts"
theorem told_ok {n : Nat} {d : PyData} (hs : Sm n d) (q : Bag) : g__law_told [.d d] q = .ok (.d (toldD d)) q := by
  obtain ⟨hc, _⟩ := hs.lay
  have hlen : ∀ xs, d = .tuple xs → xs.length ≤ 10000 := fun xs e => by
    subst e
    cases hs with
    | tup a _ => exact a
  have bad : factsB d = false → g__law_told [.d d] q = .ok (.d (.str "facts")) q := fun h => by
    have e := habits_bad hc h hlen q
    simp [g__law_told, RD.run, ex, ev, evA, t__law_told, e]
  cases d with
  | tuple xs =>
    cases h : factsB (.tuple xs) with
    | false =>
      rw [bad h]
      show _ = RB.ok (.d (if factsB (.tuple xs) = true then .list (fitL xs) else .str "facts")) q
      rw [h]
      rfl
    | true =>
      have h' : (decide (xs.length ≤ 20) && xs.all factB) = true := h
      rw [Bool.and_eq_true] at h'
      have e := habits_ok (canAll hc) (List.all_eq_true.mp h'.2) (of_decide_eq_true h'.1) q
      show _ = RB.ok (.d (if factsB (.tuple xs) = true then .list (fitL xs) else .str "facts")) q
      rw [h]
      simp [g__law_told, RD.run, ex, ev, evA, t__law_told, e]
  | _ => exact bad rfl
end PG
set_option Elab.async false
set_option linter.all false
set_option maxRecDepth 1000000
set_option maxHeartbeats 0
/-! PgQ: the order of phrases. -/
namespace RD
open PySem L2
mutual
theorem plain_eq : ∀ x y : PyData, plainK x = true → plainK y = true → PyData.eqv x y = true → x = y
  | .none, y, _, hy, h => by cases y <;> first | rfl | cases h
  | .bool _, _, h, _, _ => by cases h
  | .list _, _, h, _, _ => by cases h
  | .dict _, _, h, _, _ => by cases h
  | .int i, y, _, hy, h => by
    cases y <;> first | cases h | skip
    · cases hy
    · rename_i j
      have h : (i == j) = true := by simpa [PyData.eqv] using h
      rw [eq_of_beq h]
  | .str x, y, _, hy, h => by
    cases y <;> first | cases h | skip
    rename_i z
    have h : (x == z) = true := by simpa [PyData.eqv] using h
    rw [eq_of_beq h]
  | .tuple xs, y, hx, hy, h => by
    cases y <;> first | cases h | skip
    rename_i ys
    have h : PyData.eqvAll xs ys = true := by simpa [PyData.eqv] using h
    have hx : plainKs xs = true := by simpa [plainK] using hx
    have hy : plainKs ys = true := by simpa [plainK] using hy
    rw [plain_eqs xs ys hx hy h]
theorem plain_eqs : ∀ xs ys : List PyData, plainKs xs = true → plainKs ys = true → PyData.eqvAll xs ys = true → xs = ys
  | [], ys, _, _, h => by cases ys <;> first | rfl | (simp [PyData.eqvAll] at h)
  | x :: xs, [], _, _, h => by simp [PyData.eqvAll] at h
  | x :: xs, y :: ys, hx, hy, h => by
    have h : (PyData.eqv x y && PyData.eqvAll xs ys) = true := by simpa [PyData.eqvAll] using h
    have hx : (plainK x && plainKs xs) = true := by simpa [plainKs] using hx
    have hy : (plainK y && plainKs ys) = true := by simpa [plainKs] using hy
    rw [Bool.and_eq_true] at h hx hy
    rw [plain_eq x y hx.1 hy.1 h.1, plain_eqs xs ys hx.2 hy.2 h.2]
end
mutual
theorem key_depth : ∀ x : PyData, plainK x = true → (keyK x).depth ≤ x.depth
  | .none, _ => Nat.zero_le _
  | .bool _, h => by cases h
  | .list _, h => by cases h
  | .dict _, h => by cases h
  | .int _, _ => Nat.zero_le _
  | .str _, _ => Nat.zero_le _
  | .tuple xs, h => by
    have h : plainKs xs = true := by simpa [plainK] using h
    have := key_depths xs h
    simp [keyK, NestedKey.depth, PyData.depth]
    omega
theorem key_depths : ∀ xs : List PyData, plainKs xs = true → NestedKey.depthAll (keyKs xs) ≤ PyData.depthAll xs
  | [], _ => Nat.zero_le _
  | x :: xs, h => by
    have h : (plainK x && plainKs xs) = true := by simpa [plainKs] using h
    rw [Bool.and_eq_true] at h
    have a := key_depth x h.1
    have b := key_depths xs h.2
    simp [keyKs, NestedKey.depthAll, PyData.depthAll]
    omega
end
theorem plains_of : ∀ {xs : List PyData}, (∀ x ∈ xs, plainK x = true) → plainKs xs = true
  | [], _ => rfl
  | x :: xs, h => by
    rw [plainKs, h x List.mem_cons_self, plains_of fun y hy => h y (List.mem_cons_of_mem _ hy)]
    rfl
theorem alikeAll_str : ∀ {xs ys : List PyData}, (∀ x ∈ xs, ∃ z, x = .str z) → (∀ x ∈ ys, ∃ z, x = .str z) → PySem.W.alikeAll xs ys = true
  | [], _, _, _ => by simp [PySem.W.alikeAll]
  | _ :: _, [], _, _ => by simp [PySem.W.alikeAll]
  | x :: xs, y :: ys, h, k => by
    obtain ⟨a, rfl⟩ := h x List.mem_cons_self
    obtain ⟨b, rfl⟩ := k y List.mem_cons_self
    rw [PySem.W.alikeAll, alikeAll_str (fun z hz => h z (List.mem_cons_of_mem _ hz)) fun z hz => k z (List.mem_cons_of_mem _ hz)]
    simp [PySem.W.alike]
end RD
namespace PG
open PySem L2 RD
/-- a phrase as a row: its words, its number -/
def rowD (kd : Kd) (r : Int) (W : List Ar) : PyData := .tuple [.tuple (wordsD kd W), .int r]
theorem words_str (kd : Kd) (W : List Ar) : ∀ x ∈ wordsD kd W, ∃ z, x = .str z := fun x hx => by
  rcases List.mem_append.mp hx with hx | hx
  · obtain ⟨a, _, rfl⟩ := List.mem_map.mp hx
    exact ⟨_, rfl⟩
  · exact ⟨_, List.mem_singleton.mp hx⟩
theorem words_lay (kd : Kd) (W : List Ar) : ∀ x ∈ wordsD kd W, x.canLay0 = true ∧ x.depth = 0 := fun x hx => by
  rcases List.mem_append.mp hx with hx | hx
  · obtain ⟨a, _, rfl⟩ := List.mem_map.mp hx
    exact ⟨by cases a <;> decide +kernel, rfl⟩
  · rw [List.mem_singleton.mp hx]
    exact ⟨by cases kd <;> decide +kernel, rfl⟩
theorem row_plain (kd : Kd) (r : Int) (W : List Ar) : plainK (rowD kd r W) = true := by
  have : plainKs (wordsD kd W) = true := plains_of fun x hx => by
    obtain ⟨z, rfl⟩ := words_str kd W x hx
    rfl
  simp [rowD, plainK, plainKs, this]
theorem row_lay (kd : Kd) (r : Int) (W : List Ar) : (rowD kd r W).canLay0 = true ∧ (rowD kd r W).depth ≤ 2 := by
  have a : PyData.canLayAll0 (wordsD kd W) = true := lay_all fun x hx => (words_lay kd W x hx).1
  have b : PyData.depthAll (wordsD kd W) ≤ 0 := depth_all fun x hx => Nat.le_of_eq (words_lay kd W x hx).2
  refine ⟨by simp [rowD, PyData.canLay0, PyData.canLayAll0, a], ?_⟩
  simp [rowD, PyData.depth, PyData.depthAll]
  omega
theorem row_alike (kd : Kd) (r : Int) (W : List Ar) (kd' : Kd) (r' : Int) (W' : List Ar) : PySem.W.alike (rowD kd r W) (rowD kd' r' W') = true := by
  have : PySem.W.alikeAll (wordsD kd W) (wordsD kd' W') = true := alikeAll_str (words_str kd W) (words_str kd' W')
  simp [rowD, PySem.W.alike, PySem.W.alikeAll, this]
theorem row_nest (kd : Kd) (r : Int) (W : List Ar) : nestB (rowD kd r W) = true := by
  have a := row_plain kd r W
  have b := (row_lay kd r W).2
  have c := key_depth _ a
  unfold nestB
  rw [a, decide_eq_true (show (rowD kd r W).depth ≤ 8 by omega), decide_eq_true (show (keyK (rowD kd r W)).depth ≤ 8 by omega)]
  rfl
/-! ### which of two phrases is ahead -/
theorem row_head {a b : Str} {r r' : Int} {ws ws' : List PyData} (h : (a == b) = false) (k : PySem.W.alikeAll ws ws' = true) : PySem.W.dataLt (.tuple [.tuple (.str a :: ws), .int r]) (.tuple [.tuple (.str b :: ws'), .int r']) = decide (a.cps.toList < b.cps.toList) := by
  have h1 : PySem.W.alike (.tuple (.str a :: ws)) (.tuple (.str b :: ws')) = true := by simp [PySem.W.alike, PySem.W.alikeAll, k]
  have h2 : PyData.eqv (.tuple (.str a :: ws)) (.tuple (.str b :: ws')) = false := by simp [PyData.eqv, PyData.eqvAll, h]
  have h3 : PyData.eqv (.str a) (.str b) = false := by simp [PyData.eqv, h]
  rw [PySem.W.dataLt_pair h1 (by simp [PySem.W.alike]), h2, if_neg (by decide), PySem.W.dataLt_tuple, PySem.W.dataLt_cons (by simp [PySem.W.alike]), h3, if_neg (by decide), PySem.W.dataLt_str]
theorem row_tail {a : Str} {r r' : Int} {ws ws' : List PyData} (k : PySem.W.alikeAll ws ws' = true) : PySem.W.dataLt (.tuple [.tuple (.str a :: ws), .int r]) (.tuple [.tuple (.str a :: ws'), .int r']) = PySem.W.dataLt (.tuple [.tuple ws, .int r]) (.tuple [.tuple ws', .int r']) := by
  have h1 : PySem.W.alike (.tuple (.str a :: ws)) (.tuple (.str a :: ws')) = true := by simp [PySem.W.alike, PySem.W.alikeAll, k]
  have h1' : PySem.W.alike (.tuple ws) (.tuple ws') = true := by simp [PySem.W.alike, k]
  have h2 : PyData.eqv (.tuple (.str a :: ws)) (.tuple (.str a :: ws')) = PyData.eqv (.tuple ws) (.tuple ws') := by simp [PyData.eqv, PyData.eqvAll]
  have h3 : PyData.eqv (.str a) (.str a) = true := by simp [PyData.eqv]
  rw [PySem.W.dataLt_pair h1 (by simp [PySem.W.alike]), h2, PySem.W.dataLt_pair h1' (by simp [PySem.W.alike])]
  split
  · rfl
  · rw [PySem.W.dataLt_tuple, PySem.W.dataLt_cons (by simp [PySem.W.alike]), h3, if_pos rfl, PySem.W.dataLt_tuple]
theorem row_leaf (r r' : Int) (a : Str) : PySem.W.dataLt (.tuple [.tuple [.str a], .int r]) (.tuple [.tuple [.str a], .int r']) = decide (r < r') := by
  have h1 : PySem.W.alike (.tuple [.str a]) (.tuple [.str a]) = true := by simp [PySem.W.alike, PySem.W.alikeAll]
  have h2 : PyData.eqv (.tuple [.str a]) (.tuple [.str a]) = true := by simp [PyData.eqv, PyData.eqvAll]
  rw [PySem.W.dataLt_pair h1 (by simp [PySem.W.alike]), h2, if_pos rfl, PySem.W.dataLt_int]
  by_cases h : r = r'
  · subst h
    simp [PyData.eqv]
  · have : PyData.eqv (.int r) (.int r') = false := by simp [PyData.eqv, h]
    rw [this, if_neg (by decide)]
theorem str_ne {a b : Str} (ha : (PyData.str a).canLay0 = true) (hb : (PyData.str b).canLay0 = true) : cmpop .ne (.str a) (.str b) = some (!(a == b)) := by
  have s : ∀ z : Str, (PyData.str z).canLay0 = true → SeqAt.shaped (.str z) = true := fun z h => by
    unfold SeqAt.shaped
    rw [h]
    rfl
  show (if (SeqAt.shaped (.str a) && SeqAt.shaped (.str b)) = true then some (!PyData.eqv (.str a) (.str b)) else none) = _
  rw [s a ha, s b hb]
  simp [PyData.eqv]
theorem ar_lay (a : Ar) : (PyData.str a.str).canLay0 = true := by cases a <;> decide +kernel
theorem kd_lay (kd : Kd) : (PyData.str kd.str).canLay0 = true := by cases kd <;> decide +kernel
theorem ar_kd (a : Ar) (kd : Kd) : (a.str == kd.str) = false ∧ (kd.str == a.str) = false := by cases a <;> cases kd <;> decide +kernel
theorem ar_inA (a : Ar) : cmpop .isin (.str a.str) k_AROUND = some true := by cases a <;> kernel_rfl
theorem kd_inA (kd : Kd) : cmpop .isin (.str kd.str) k_AROUND = some false := by cases kd <;> kernel_rfl
theorem cmp_lts (a b : Str) : cmpop .lt (.str a) (.str b) = some (decide (a.cps.toList < b.cps.toList)) := rfl
theorem before_ok : ∀ (W W' : List Ar) (kd kd' : Kd) (r r' : Int) (n : Nat) (q : Bag), W.length < n → g_is_before n [.d (encP kd r W), .d (encP kd' r' W')] q = .ok (.d (.bool (PySem.W.dataLt (rowD kd r W) (rowD kd' r' W')))) q
  | _, _, _, _, _, _, 0, _, h => absurd h (Nat.not_lt_zero _)
  | [], [], kd, kd', r, r', n + 1, q, _ => by
    have h1 := str_ne (kd_lay kd) (kd_lay kd')
    have h2 := kd_inA kd
    have h3 := cmp_lts kd.str kd'.str
    cases c : kd.str == kd'.str with
    | false =>
      rw [c] at h1
      have h4 := row_head (a := kd.str) (b := kd'.str) (r := r) (r' := r') (ws := []) (ws' := []) c (by simp [PySem.W.alikeAll])
      have e : PySem.W.dataLt (rowD kd r []) (rowD kd' r' []) = decide (kd.str.cps.toList < kd'.str.cps.toList) := h4
      rw [e]
      simp only [g_is_before, encP]
      simp [RD.run, ex, ev, evA, big, t_is_before, h1, h3]
    | true =>
      rw [c] at h1
      have ce : kd.str = kd'.str := eq_of_beq c
      have e : PySem.W.dataLt (rowD kd r []) (rowD kd' r' []) = decide (r < r') := by
        have := row_leaf r r' kd.str
        unfold rowD wordsD
        rw [← ce]
        exact this
      rw [e]
      simp only [g_is_before, encP]
      simp [RD.run, ex, ev, evA, big, t_is_before, h1, h2]
  | [], a' :: W', kd, kd', r, r', n + 1, q, _ => by
    have h1 := str_ne (kd_lay kd) (ar_lay a')
    have h3 := cmp_lts kd.str a'.str
    have c := (ar_kd a' kd).2
    rw [c] at h1
    have h4 := row_head (a := kd.str) (b := a'.str) (r := r) (r' := r') (ws := []) (ws' := wordsD kd' W') c (by simp [PySem.W.alikeAll])
    have e : PySem.W.dataLt (rowD kd r []) (rowD kd' r' (a' :: W')) = decide (kd.str.cps.toList < a'.str.cps.toList) := h4
    rw [e]
    simp only [g_is_before, encP]
    simp [RD.run, ex, ev, evA, big, t_is_before, h1, h3]
  | a :: W, [], kd, kd', r, r', n + 1, q, _ => by
    have h1 := str_ne (ar_lay a) (kd_lay kd')
    have h3 := cmp_lts a.str kd'.str
    have c := (ar_kd a kd').1
    rw [c] at h1
    have h4 := row_head (a := a.str) (b := kd'.str) (r := r) (r' := r') (ws := wordsD kd W) (ws' := []) c (alikeAll_str (words_str kd W) fun x hx => by cases hx)
    have e : PySem.W.dataLt (rowD kd r (a :: W)) (rowD kd' r' []) = decide (a.str.cps.toList < kd'.str.cps.toList) := h4
    rw [e]
    simp only [g_is_before, encP]
    simp [RD.run, ex, ev, evA, big, t_is_before, h1, h3]
  | a :: W, a' :: W', kd, kd', r, r', n + 1, q, hl => by
    have h1 := str_ne (ar_lay a) (ar_lay a')
    have h2 := ar_inA a
    have h3 := cmp_lts a.str a'.str
    have al : PySem.W.alikeAll (wordsD kd W) (wordsD kd' W') = true := alikeAll_str (words_str kd W) (words_str kd' W')
    cases c : a.str == a'.str with
    | false =>
      rw [c] at h1
      have h4 := row_head (a := a.str) (b := a'.str) (r := r) (r' := r') (ws := wordsD kd W) (ws' := wordsD kd' W') c al
      have e : PySem.W.dataLt (rowD kd r (a :: W)) (rowD kd' r' (a' :: W')) = decide (a.str.cps.toList < a'.str.cps.toList) := h4
      rw [e]
      simp only [g_is_before, encP]
      simp [RD.run, ex, ev, evA, big, t_is_before, h1, h3]
    | true =>
      rw [c] at h1
      have ce : a.str = a'.str := eq_of_beq c
      have ih := before_ok W W' kd kd' r r' n q (Nat.lt_of_succ_lt_succ hl)
      have e : PySem.W.dataLt (rowD kd r (a :: W)) (rowD kd' r' (a' :: W')) = PySem.W.dataLt (rowD kd r W) (rowD kd' r' W') := by
        have := row_tail (a := a.str) (r := r) (r' := r') al
        have e1 : rowD kd' r' (a' :: W') = .tuple [.tuple (.str a.str :: wordsD kd' W'), .int r'] := by
          rw [ce]
          rfl
        rw [e1]
        exact this
      rw [e]
      simp only [g_is_before, encP]
      simp [RD.run, ex, ev, evA, big, t_is_before, h1, h2, ih]
end PG
set_option Elab.async false
set_option linter.all false
set_option maxRecDepth 1000000
set_option maxHeartbeats 0
/-! PgR: phrases sorted by words; printed by mk_pgr.py. -/
namespace PG
open PySem L2 RD
theorem madeT_fold {v0 v1 : Slot} {q : Bag} : ∀ (W : List Ar) (kd : Kd) (r : Int) (V : List Ar) (c3 : Slot), ∃ c3',
    forR (fun x s => (R.ofS (asgT (.tname 3) x s)).bind fun _ s => ex b__law_made__t_1 s) (W.map Ar.strD) ⟨[v0, v1, .val (.d (encP kd r V)), c3], q⟩ = .ok .nx ⟨[v0, v1, .val (.d (encP kd r (W.reverse ++ V))), c3'], q⟩
  | [], kd, r, V, c3 => ⟨c3, rfl⟩
  | a :: W, kd, r, V, c3 => by
    obtain ⟨c3', ih⟩ := madeT_fold (v0 := v0) (v1 := v1) (q := q) W kd r (a :: V) (.val (.d (.str a.str)))
    refine ⟨c3', ?_⟩
    have e : (a :: W).reverse ++ V = W.reverse ++ (a :: V) := by simp
    rw [e, ← ih]
    rfl
theorem madeT_ok (kd : Kd) (r : Int) (W : List Ar) (q : Bag) : g__law_made__t [.d (.tuple (wordsD kd W)), .d (.int r)] q = .ok (.d (encP kd r W)) q := by
  have a := at_last (W.map Ar.strD) (PyData.str kd.str)
  have c := cut_init (W.map Ar.strD) (PyData.str kd.str)
  unfold wordsD
  obtain ⟨c3, h⟩ := madeT_fold (v0 := .val (.d (.tuple (W.map Ar.strD ++ [.str kd.str])))) (v1 := .val (.d (.int r))) (q := q) W.reverse kd r [] .un
  rw [List.reverse_reverse, List.append_nil] at h
  have e2 : ex (.loop (.tname 3) (.itt (.rev (.slc (.var 0) .nopart (.acons (.neg (.cst (.int 1))) .anil)))) b__law_made__t_1) ⟨[.val (.d (.tuple (W.map Ar.strD ++ [.str kd.str]))), .val (.d (.int r)), .val (.d (encP kd r [])), .un], q⟩ =
      .ok .nx ⟨[.val (.d (.tuple (W.map Ar.strD ++ [.str kd.str]))), .val (.d (.int r)), .val (.d (encP kd r W)), c3], q⟩ := by
    have hi : evI (.itt (.rev (.slc (.var 0) .nopart (.acons (.neg (.cst (.int 1))) .anil)))) ⟨[.val (.d (.tuple (W.map Ar.strD ++ [.str kd.str]))), .val (.d (.int r)), .val (.d (encP kd r [])), .un], q⟩ = .ok (W.reverse.map Ar.strD) ⟨[.val (.d (.tuple (W.map Ar.strD ++ [.str kd.str]))), .val (.d (.int r)), .val (.d (encP kd r [])), .un], q⟩ := by
      simp [evI, ev, evO, slcop, c]
    show ((evI _ _).bind _) = _
    rw [hi]
    exact h
  refine run_rt (np := 2) (n := 4) (us := [.d (.tuple (W.map Ar.strD ++ [.str kd.str])), .d (.int r)]) (s' := ⟨[.val (.d (.tuple (W.map Ar.strD ++ [.str kd.str]))), .val (.d (.int r)), .val (.d (encP kd r W)), c3], q⟩) rfl ?_
  unfold t__law_made__t
  rw [seq_nx (s' := ⟨[.val (.d (.tuple (W.map Ar.strD ++ [.str kd.str]))), .val (.d (.int r)), .val (.d (encP kd r [])), .un], q⟩) (by simp [ex, ev, evA, a, encP, big]), seq_nx e2]
  simp [ex, ev]
/-- the row of a phrase -/
def rowP (p : PyData) : PyData := match g__law_words 6 [.d p] none with
  | .ok (.d (.tuple [.list ws, r])) _ => .tuple [.tuple ws, r]
  | _ => .none
/-- the phrase of a row -/
def backP : PyData → PyData
  | .tuple [.tuple ws, r] => match g__law_made__t [.d (.tuple ws), .d r] none with
    | .ok (.d p) _ => p
    | _ => .none
  | _ => .none
theorem row_enc (kd : Kd) (r : Int) (W : List Ar) (h : W.length < 6) : rowP (encP kd r W) = rowD kd r W := by
  unfold rowP
  rw [words_ok kd r W 6 none h (by omega)]
  rfl
theorem back_row (kd : Kd) (r : Int) (W : List Ar) : backP (rowD kd r W) = encP kd r W := by
  unfold backP rowD
  dsimp only
  rw [madeT_ok kd r W none]
/-- what is so of a phrase's row -/
structure RowO (p : PyData) : Prop where
  plain : plainK (rowP p) = true
  lay : (rowP p).canLay0 = true
  dep : (rowP p).depth ≤ 2
  nest : nestB (rowP p) = true
  back : backP (rowP p) = p
  tup : isTupD (rowP p) = true
  one : tup1 (rowP p) = true
theorem row_of {p : PyData} (h : phB 4 p = true) : RowO p := by
  obtain ⟨kd, r, W, rfl, h1, h2⟩ := phB_enc2 4 p h
  have e := row_enc kd r W (by omega)
  refine ⟨?_, ?_, ?_, ?_, ?_, ?_, ?_⟩
  · rw [e]; exact row_plain kd r W
  · rw [e]; exact (row_lay kd r W).1
  · rw [e]; exact (row_lay kd r W).2
  · rw [e]; exact row_nest kd r W
  · rw [e]; exact back_row kd r W
  · rw [e]; rfl
  · rw [e]; rfl
theorem row_al {p p' : PyData} (h : phB 4 p = true) (h' : phB 4 p' = true) : PySem.W.alike (rowP p) (rowP p') = true := by
  obtain ⟨kd, r, W, rfl, h1, h2⟩ := phB_enc2 4 p h
  obtain ⟨kd', r', W', rfl, h1', h2'⟩ := phB_enc2 4 p' h'
  rw [row_enc kd r W (by omega), row_enc kd' r' W' (by omega)]
  exact row_alike kd r W kd' r' W'
theorem before_all {p p' : PyData} (h : phB 4 p = true) (h' : phB 4 p' = true) (q : Bag) : g_is_before 6 [.d p, .d p'] q = .ok (.d (.bool (PySem.W.dataLt (rowP p) (rowP p')))) q := by
  obtain ⟨kd, r, W, rfl, h1, h2⟩ := phB_enc2 4 p h
  obtain ⟨kd', r', W', rfl, h1', h2'⟩ := phB_enc2 4 p' h'
  rw [row_enc kd r W (by omega), row_enc kd' r' W' (by omega)]
  exact before_ok W W' kd kd' r r' 6 q (by omega)
section
variable {ps : List PyData} (h : ∀ p ∈ ps, phB 4 p = true)
include h
theorem rows_in {x : PyData} (hx : x ∈ ps.map rowP) : ∃ p, p ∈ ps ∧ x = rowP p ∧ RowO p := by
  obtain ⟨p, hp, rfl⟩ := List.mem_map.mp hx
  exact ⟨p, hp, rfl, row_of (h p hp)⟩
theorem rows_alike : PySem.W.AllAlike (ps.map rowP) := fun x hx y hy => by
  obtain ⟨p, hp, rfl⟩ := List.mem_map.mp hx
  obtain ⟨p', hp', rfl⟩ := List.mem_map.mp hy
  exact row_al (h p hp) (h p' hp')
theorem rows_uniq (hl : ps.length < 64) : uniqOk (ps.map rowP) = true := by
  have a1 : (ps.map rowP).all isTupD = true := List.all_eq_true.mpr fun x hx => by
    obtain ⟨p, _, rfl, o⟩ := rows_in h hx
    exact o.tup
  have a2 : (ps.map rowP).all nestB = true := List.all_eq_true.mpr fun x hx => by
    obtain ⟨p, _, rfl, o⟩ := rows_in h hx
    exact o.nest
  have a3 : alikeB (ps.map rowP) = true := List.all_eq_true.mpr fun x hx => List.all_eq_true.mpr fun y hy => rows_alike h x hx y hy
  have a4 : (ps.map rowP).all tup1 = true := List.all_eq_true.mpr fun x hx => by
    obtain ⟨p, _, rfl, o⟩ := rows_in h hx
    exact o.one
  have a5 := uniq_len (ps.map rowP)
  rw [List.length_map] at a5
  unfold uniqOk setOk
  rw [a1, a2, a3, a4, decide_eq_true (show (uniqD (ps.map rowP)).length < 64 by omega)]
  simp
theorem uniq_in {x : PyData} (hx : x ∈ uniqD (ps.map rowP)) : ∃ p, p ∈ ps ∧ x = rowP p ∧ RowO p := rows_in h ((uniq_mem (rows_alike h) x).mp hx)
end
/-- the phrases in order, each once -/
def sortP (ps : List PyData) : List PyData := (uniqD (ps.map rowP)).map backP
theorem sort_in {ps : List PyData} (h : ∀ p ∈ ps, phB 4 p = true) {x : PyData} (hx : x ∈ sortP ps) : x ∈ ps := by
  obtain ⟨y, hy, rfl⟩ := List.mem_map.mp hx
  obtain ⟨p, hp, rfl, o⟩ := uniq_in h hy
  rw [o.back]
  exact hp
theorem sort_len (ps : List PyData) : (sortP ps).length ≤ ps.length := by
  have := uniq_len (ps.map rowP)
  rw [List.length_map] at this
  unfold sortP
  rw [List.length_map]
  exact this
theorem sort_rows_map {ps : List PyData} (h : ∀ p ∈ ps, phB 4 p = true) : (sortP ps).map rowP = uniqD (ps.map rowP) := by
  unfold sortP
  rw [List.map_map]
  refine (List.map_congr_left fun x hx => ?_).trans (List.map_id _)
  obtain ⟨p, hp, rfl, o⟩ := uniq_in h hx
  show rowP (backP (rowP p)) = rowP p
  rw [o.back]
theorem sort_up {ps : List PyData} (h : ∀ p ∈ ps, phB 4 p = true) : upB ((sortP ps).map rowP) = true := by
  rw [sort_rows_map h]
  exact upB_up.mpr (uniq_up (rows_alike h))
theorem sort_some {ps : List PyData} (h : ∀ p ∈ ps, phB 4 p = true) (h1 : 1 ≤ ps.length) : 1 ≤ (sortP ps).length := by
  match ps, h, h1 with
  | p :: t, h, _ =>
    have : rowP p ∈ uniqD ((p :: t).map rowP) := (uniq_mem (rows_alike h) _).mpr (by simp)
    unfold sortP
    rw [List.length_map]
    exact List.length_pos_of_mem this
theorem sortedL_ok {ps : List PyData} (h : ∀ p ∈ ps, phB 4 p = true) (hl : ps.length < 64) (q : Bag) : g__law_sorted [.d (.list ps)] q = .ok (.d (.tuple (sortP ps))) q := by
  have hw : ∀ p ∈ ps, ∃ ws r, g__law_words 6 [.d p] q = .ok (.d (.tuple [.list ws, r])) q ∧ rowP p = .tuple [.tuple ws, r] := fun p hp => by
    obtain ⟨kd, r, W, rfl, h1, h2⟩ := phB_enc2 4 p (h p hp)
    exact ⟨_, _, words_ok kd r W 6 q (by omega) (by omega), row_enc kd r W (by omega)⟩
  have e1 : ev (c__law_sorted_1 (g__law_words 6)) ⟨[.val (.d (.list ps)), .un, .un, .un, .un], q⟩ = .ok (.d (.list (ps.map rowP))) ⟨[.val (.d (.list ps)), .un, .un, .un, .un], q⟩ :=
    comp_all (i := 2) (rho := [.val (.d (.list ps)), .un, .un, .un, .un]) (by simp [evI, ev]) (by show ps.length ≤ 16777216; omega) fun x hx => by
      obtain ⟨ws, r, a, b⟩ := hw x hx
      simp [ev, evA, a, b, bltop, big]
  have e2 : uniqop (.list (ps.map rowP)) = some (.list (uniqD (ps.map rowP))) := by
    show (if uniqOk (ps.map rowP) = true then _ else _) = _
    rw [rows_uniq h hl]
    rfl
  have hb : ∀ x ∈ uniqD (ps.map rowP), ∃ ws r, x = .tuple [.tuple ws, r] ∧ g__law_made__t [.d (.tuple ws), .d r] q = .ok (.d (backP x)) q := fun x hx => by
    obtain ⟨p, hp, rfl, o⟩ := uniq_in h hx
    obtain ⟨kd, r, W, rfl, h1, h2⟩ := phB_enc2 4 p (h p hp)
    rw [row_enc kd r W (by omega), back_row]
    exact ⟨_, _, rfl, madeT_ok kd r W q⟩
  have ulen : (uniqD (ps.map rowP)).length < 64 := by
    have := uniq_len (ps.map rowP)
    rw [List.length_map] at this
    omega
  generalize hU : uniqD (ps.map rowP) = us at *
  obtain ⟨s', e3, c3', c4', hs⟩ := compR_ok (f := fun x s => (R.ofS (asgT (.ttup (.acons (.tname 3) (.acons (.tname 4) (.anil)))) x ⟨wipeS s.rho [3, 4], s.bag⟩)).bind fun _ s => (ev .yes s).tst fun k s => if k = true then (ev (.call "_law_made" g__law_made__t (.acons (.var 3) (.acons (.var 4) .anil))) s).dat fun y s => .ok (some y) s else .ok none s)
    (P := fun s => ∃ c3 c4, s = ⟨[.val (.d (.list ps)), .val (.d (.list us)), .un, c3, c4], q⟩) (g := fun x => some (backP x)) us [] ⟨[.val (.d (.list ps)), .val (.d (.list us)), .un, .un, .un], q⟩ ⟨_, _, rfl⟩ (fun x hx s ⟨c3, c4, hs⟩ => by
      subst hs
      obtain ⟨ws, r, rfl, e⟩ := hb x hx
      refine ⟨⟨[.val (.d (.list ps)), .val (.d (.list us)), .un, .val (.d (.tuple ws)), .val (.d r)], q⟩, ?_, _, _, rfl⟩
      simp [asgT, wipeS, ev, evA, R.ofS, e]) (by show [].length + us.length ≤ 16777216; simp; omega)
  subst hs
  rw [List.nil_append, show us.filterMap (fun x => some (backP x)) = us.map backP by simp] at e3
  have e4 : ev (c__law_sorted_2 g__law_made__t) ⟨[.val (.d (.list ps)), .val (.d (.list us)), .un, .un, .un], q⟩ = .ok (.d (.list (us.map backP))) ⟨[.val (.d (.list ps)), .val (.d (.list us)), .un, .un, .un], q⟩ := by
    have hi : evI (.itl (.var 1)) ⟨[.val (.d (.list ps)), .val (.d (.list us)), .un, .un, .un], q⟩ = .ok us ⟨[.val (.d (.list ps)), .val (.d (.list us)), .un, .un, .un], q⟩ := rfl
    show ((evI _ _).bind fun xs s => match compR _ [] xs s with
      | .ok ys s => R.ok (U.d (.list ys)) ⟨wipeS s.rho [3, 4], s.bag⟩
      | _ => .stuck) = _
    rw [hi]
    show (match compR _ [] us _ with
      | .ok ys s => R.ok (U.d (.list ys)) ⟨wipeS s.rho [3, 4], s.bag⟩
      | _ => .stuck) = _
    rw [e3]
    rfl
  have eS : sortP ps = us.map backP := by
    unfold sortP
    rw [hU]
  rw [eS]
  simp [g__law_sorted, RD.run, ex, ev, evA, t__law_sorted, e1, e2, e4, bltop, asgT]
theorem sortedT_ok {ps : List PyData} (h : ∀ p ∈ ps, phB 4 p = true) (hl : ps.length < 64) (q : Bag) : g__law_sorted__t [.d (.tuple ps)] q = .ok (.d (.tuple (sortP ps))) q := by
  have hw : ∀ p ∈ ps, ∃ ws r, g__law_words 6 [.d p] q = .ok (.d (.tuple [.list ws, r])) q ∧ rowP p = .tuple [.tuple ws, r] := fun p hp => by
    obtain ⟨kd, r, W, rfl, h1, h2⟩ := phB_enc2 4 p (h p hp)
    exact ⟨_, _, words_ok kd r W 6 q (by omega) (by omega), row_enc kd r W (by omega)⟩
  have e1 : ev (c__law_sorted__t_1 (g__law_words 6)) ⟨[.val (.d (.tuple ps)), .un, .un, .un, .un], q⟩ = .ok (.d (.list (ps.map rowP))) ⟨[.val (.d (.tuple ps)), .un, .un, .un, .un], q⟩ :=
    comp_all (i := 2) (rho := [.val (.d (.tuple ps)), .un, .un, .un, .un]) (by simp [evI, ev]) (by show ps.length ≤ 16777216; omega) fun x hx => by
      obtain ⟨ws, r, a, b⟩ := hw x hx
      simp [ev, evA, a, b, bltop, big]
  have e2 : uniqop (.list (ps.map rowP)) = some (.list (uniqD (ps.map rowP))) := by
    show (if uniqOk (ps.map rowP) = true then _ else _) = _
    rw [rows_uniq h hl]
    rfl
  have hb : ∀ x ∈ uniqD (ps.map rowP), ∃ ws r, x = .tuple [.tuple ws, r] ∧ g__law_made__t [.d (.tuple ws), .d r] q = .ok (.d (backP x)) q := fun x hx => by
    obtain ⟨p, hp, rfl, o⟩ := uniq_in h hx
    obtain ⟨kd, r, W, rfl, h1, h2⟩ := phB_enc2 4 p (h p hp)
    rw [row_enc kd r W (by omega), back_row]
    exact ⟨_, _, rfl, madeT_ok kd r W q⟩
  have ulen : (uniqD (ps.map rowP)).length < 64 := by
    have := uniq_len (ps.map rowP)
    rw [List.length_map] at this
    omega
  generalize hU : uniqD (ps.map rowP) = us at *
  obtain ⟨s', e3, c3', c4', hs⟩ := compR_ok (f := fun x s => (R.ofS (asgT (.ttup (.acons (.tname 3) (.acons (.tname 4) (.anil)))) x ⟨wipeS s.rho [3, 4], s.bag⟩)).bind fun _ s => (ev .yes s).tst fun k s => if k = true then (ev (.call "_law_made" g__law_made__t (.acons (.var 3) (.acons (.var 4) .anil))) s).dat fun y s => .ok (some y) s else .ok none s)
    (P := fun s => ∃ c3 c4, s = ⟨[.val (.d (.tuple ps)), .val (.d (.list us)), .un, c3, c4], q⟩) (g := fun x => some (backP x)) us [] ⟨[.val (.d (.tuple ps)), .val (.d (.list us)), .un, .un, .un], q⟩ ⟨_, _, rfl⟩ (fun x hx s ⟨c3, c4, hs⟩ => by
      subst hs
      obtain ⟨ws, r, rfl, e⟩ := hb x hx
      refine ⟨⟨[.val (.d (.tuple ps)), .val (.d (.list us)), .un, .val (.d (.tuple ws)), .val (.d r)], q⟩, ?_, _, _, rfl⟩
      simp [asgT, wipeS, ev, evA, R.ofS, e]) (by show [].length + us.length ≤ 16777216; simp; omega)
  subst hs
  rw [List.nil_append, show us.filterMap (fun x => some (backP x)) = us.map backP by simp] at e3
  have e4 : ev (c__law_sorted__t_2 g__law_made__t) ⟨[.val (.d (.tuple ps)), .val (.d (.list us)), .un, .un, .un], q⟩ = .ok (.d (.list (us.map backP))) ⟨[.val (.d (.tuple ps)), .val (.d (.list us)), .un, .un, .un], q⟩ := by
    have hi : evI (.itl (.var 1)) ⟨[.val (.d (.tuple ps)), .val (.d (.list us)), .un, .un, .un], q⟩ = .ok us ⟨[.val (.d (.tuple ps)), .val (.d (.list us)), .un, .un, .un], q⟩ := rfl
    show ((evI _ _).bind fun xs s => match compR _ [] xs s with
      | .ok ys s => R.ok (U.d (.list ys)) ⟨wipeS s.rho [3, 4], s.bag⟩
      | _ => .stuck) = _
    rw [hi]
    show (match compR _ [] us _ with
      | .ok ys s => R.ok (U.d (.list ys)) ⟨wipeS s.rho [3, 4], s.bag⟩
      | _ => .stuck) = _
    rw [e3]
    rfl
  have eS : sortP ps = us.map backP := by
    unfold sortP
    rw [hU]
  rw [eS]
  simp [g__law_sorted__t, RD.run, ex, ev, evA, t__law_sorted__t, e1, e2, e4, bltop, asgT]
end PG
set_option Elab.async false
set_option linter.all false
set_option maxRecDepth 1000000
set_option maxHeartbeats 0
/-! PgS: what is recognized, on both sides. -/
namespace RD
open PySem L2
theorem cut_tail : ∀ xs : List PyData, cutD xs (some 1) none = xs.drop 1
  | [] => rfl
  | x :: t => by
    show ((x :: t).drop (min (1 : Int).toNat (t.length + 1))).take ((t.length + 1) - min (1 : Int).toNat (t.length + 1)) = t
    rw [show min (1 : Int).toNat (t.length + 1) = 1 by simp]
    simp
end RD
namespace PG
open PySem L2 RD
/-- pairs of neighbours -/
def pairLt : PyData → Bool
  | .tuple [x, y] => PySem.W.dataLt (rowP x) (rowP y)
  | _ => false
theorem zip_up : ∀ xs : List PyData, (zipD xs (xs.drop 1)).all pairLt = upB (xs.map rowP)
  | [] => rfl
  | [x] => rfl
  | x :: y :: r => by
    have ih := zip_up (y :: r)
    have ih' : (zipD (y :: r) r).all pairLt = upB ((y :: r).map rowP) := ih
    show (pairLt (.tuple [x, y]) && (zipD (y :: r) r).all pairLt) = (PySem.W.dataLt (rowP x) (rowP y) && upB ((y :: r).map rowP))
    rw [ih']
    rfl
theorem zip_in : ∀ {xs : List PyData} {z : PyData}, z ∈ zipD xs (xs.drop 1) → ∃ x y, x ∈ xs ∧ y ∈ xs ∧ z = .tuple [x, y]
  | [], _, h => by cases h
  | [x], _, h => by cases h
  | x :: y :: r, z, h => by
    have h' : z ∈ PyData.tuple [x, y] :: zipD (y :: r) ((y :: r).drop 1) := h
    rcases List.mem_cons.mp h' with rfl | h'
    · exact ⟨x, y, by simp, by simp, rfl⟩
    · obtain ⟨a, b, ha, hb, e⟩ := zip_in h'
      exact ⟨a, b, List.mem_cons_of_mem _ ha, List.mem_cons_of_mem _ hb, e⟩
theorem zip_len : ∀ xs ys : List PyData, (zipD xs ys).length ≤ xs.length
  | [], _ => Nat.zero_le _
  | _ :: _, [] => Nat.zero_le _
  | x :: xs, y :: ys => Nat.succ_le_succ (zip_len xs ys)
theorem asc_ok {ps : List PyData} (h : ∀ p ∈ ps, phB 4 p = true) (hl : ps.length ≤ 1000) (q : Bag) : g_are_ascending [.d (.tuple ps)] q = .ok (.d (.bool (upB (ps.map rowP)))) q := by
  have ct := cut_tail ps
  have hz := zip_len ps (ps.drop 1)
  obtain ⟨s', e1, c1', c2', hs⟩ := compR_ok (f := fun x s => (R.ofS (asgT (.ttup (.acons (.tname 1) (.acons (.tname 2) (.anil)))) x ⟨wipeS s.rho [1, 2], s.bag⟩)).bind fun _ s => (ev .yes s).tst fun k s => if k = true then (ev (.call "is_before" (g_is_before 6) (.acons (.var 1) (.acons (.var 2) .anil))) s).dat fun y s => .ok (some y) s else .ok none s)
    (P := fun s => ∃ c1 c2, s = ⟨[.val (.d (.tuple ps)), c1, c2], q⟩) (g := fun x => some (.bool (pairLt x))) (zipD ps (ps.drop 1)) [] ⟨[.val (.d (.tuple ps)), .un, .un], q⟩ ⟨_, _, rfl⟩ (fun z hz s ⟨c1, c2, hs⟩ => by
      subst hs
      obtain ⟨x, y, hx, hy, rfl⟩ := zip_in hz
      have e := before_all (h x hx) (h y hy) q
      refine ⟨⟨[.val (.d (.tuple ps)), .val (.d x), .val (.d y)], q⟩, ?_, _, _, rfl⟩
      simp [asgT, wipeS, ev, evA, R.ofS, e, pairLt]) (by show [].length + (zipD ps (ps.drop 1)).length ≤ 16777216; simp only [List.length_nil]; omega)
  subst hs
  rw [List.nil_append, show (zipD ps (ps.drop 1)).filterMap (fun x => some (PyData.bool (pairLt x))) = (zipD ps (ps.drop 1)).map fun x => .bool (pairLt x) by simp] at e1
  have hi : evI (.itz (.var 0) (.slc (.var 0) (.acons (.cst (.int 1)) .anil) .nopart)) ⟨[.val (.d (.tuple ps)), .un, .un], q⟩ = .ok (zipD ps (ps.drop 1)) ⟨[.val (.d (.tuple ps)), .un, .un], q⟩ := by
    simp only [evI, ev, evO]
    simp [ev, evO, slcop, ct]
  have e2 : ev (c_are_ascending_1 (g_is_before 6)) ⟨[.val (.d (.tuple ps)), .un, .un], q⟩ = .ok (.d (.list ((zipD ps (ps.drop 1)).map fun x => .bool (pairLt x)))) ⟨[.val (.d (.tuple ps)), .un, .un], q⟩ := by
    show ((evI _ _).bind fun xs s => match compR _ [] xs s with
      | .ok ys s => R.ok (U.d (.list ys)) ⟨wipeS s.rho [1, 2], s.bag⟩
      | _ => .stuck) = _
    rw [hi]
    show (match compR _ [] (zipD ps (ps.drop 1)) _ with
      | .ok ys s => R.ok (U.d (.list ys)) ⟨wipeS s.rho [1, 2], s.bag⟩
      | _ => .stuck) = _
    rw [e1]
    rfl
  have e3 := allB_map (zipD ps (ps.drop 1)) pairLt
  rw [zip_up] at e3
  generalize zipD ps (ps.drop 1) = zs at *
  simp [g_are_ascending, RD.run, ex, ev, evA, t_are_ascending, e2, bltop, e3]
/-! ### books -/
def bookB : PyData → Bool
  | .tuple xs => decide (1 ≤ xs.length ∧ xs.length ≤ 8) && (xs.all (phB 4) && upB (xs.map rowP))
  | _ => false
theorem isbook_any (d : PyData) (h : d.canLay0 = true) (q : Bag) : g_is_book [.d d] q = .ok (.d (.bool (bookB d))) q := by
  cases d with
  | dict _ => cases h
  | tuple xs =>
    have hc := canAll h
    by_cases h1 : 1 ≤ xs.length
    · by_cases h8 : xs.length ≤ 8
      · have i1 : (1 : Int) ≤ (xs.length : Int) := by omega
        have i8 : (xs.length : Int) ≤ 8 := by omega
        have hl : decide (1 ≤ xs.length ∧ xs.length ≤ 8) = true := decide_eq_true ⟨h1, h8⟩
        have hm : ev (c_is_book_1 g_is_phrase) ⟨[.val (.d (.tuple xs)), .un], q⟩ = .ok (.d (.list (xs.map fun x => PyData.bool (phB 4 x)))) ⟨[.val (.d (.tuple xs)), .un], q⟩ :=
          comp_all (i := 1) (rho := [.val (.d (.tuple xs)), .un]) (f := fun x => PyData.bool (phB 4 x)) (by simp [evI, ev]) (by show xs.length ≤ 16777216; omega) fun x hx => by
            have := isphrase_any x (hc x hx) q
            simp [ev, evA, this]
        have ha : bltop .all [.list (xs.map fun x => PyData.bool (phB 4 x))] = some (.bool (xs.all (phB 4))) := by
          show (allB _).map PyData.bool = _
          rw [allB_map]
          rfl
        cases hall : xs.all (phB 4) with
        | false =>
          simp [g_is_book, RD.run, ex, ev, evA, big, t_is_book, isiD, i1, i8, hm, ha, hall, bookB]
        | true =>
          have hk := asc_ok (List.all_eq_true.mp hall) (by omega) q
          simp [g_is_book, RD.run, ex, ev, evA, big, t_is_book, isiD, i1, i8, hm, ha, hall, bookB, hk, hl]
      · have i1 : (1 : Int) ≤ (xs.length : Int) := by omega
        have i8 : ¬ (xs.length : Int) ≤ 8 := by omega
        have hl : decide (1 ≤ xs.length ∧ xs.length ≤ 8) = false := decide_eq_false fun z => h8 z.2
        simp [g_is_book, RD.run, ex, ev, evA, big, t_is_book, isiD, i1, i8, bookB, hl]
    · have i1 : ¬ (1 : Int) ≤ (xs.length : Int) := by omega
      have hl : decide (1 ≤ xs.length ∧ xs.length ≤ 8) = false := decide_eq_false fun z => h1 z.1
      simp [g_is_book, RD.run, ex, ev, evA, big, t_is_book, isiD, i1, bookB, hl]
  | _ => simp [g_is_book, RD.run, ex, ev, evA, big, t_is_book, isiD, bookB]
theorem enc_plain (kd : Kd) (r : Int) : ∀ W : List Ar, plainK (encP kd r W) = true
  | [] => rfl
  | a :: W => by
    have := enc_plain kd r W
    simp [encP, plainK, plainKs, this]
theorem ph_plain {m : Nat} {p : PyData} (h : phB m p = true) : plainK p = true := by
  obtain ⟨kd, r, W, rfl, _, _⟩ := phB_enc2 m p h
  exact enc_plain kd r W
/-- in order just if it is what sorting makes -/
theorem eq_sortP {ps : List PyData} (h : ∀ p ∈ ps, phB 4 p = true) : cmpop .eq (.tuple ps) (.tuple (sortP ps)) = some (upB (ps.map rowP)) := by
  have sh : ∀ {xs : List PyData}, (∀ p ∈ xs, phB 4 p = true) → SeqAt.shaped (.tuple xs) = true := fun {xs} hx => shaped_tup (n := 4) (fun x hy => (ph_lay (hx x hy)).1) (fun x hy => (ph_lay (hx x hy)).2) (by decide)
  have h2 : ∀ p ∈ sortP ps, phB 4 p = true := fun p hp => h p (sort_in h hp)
  cases hu : upB (ps.map rowP) with
  | true =>
    have e : uniqD (ps.map rowP) = ps.map rowP := uniq_eq (rows_alike h) (upB_up.mp hu) fun z => Iff.rfl
    have e2 : sortP ps = ps := by
      unfold sortP
      rw [e, List.map_map]
      refine (List.map_congr_left fun x hx => ?_).trans (List.map_id _)
      exact (row_of (h x hx)).back
    rw [e2]
    exact eq_self (sh h)
  | false =>
    show (if (SeqAt.shaped (.tuple ps) && SeqAt.shaped (.tuple (sortP ps))) = true then some (PyData.eqv (.tuple ps) (.tuple (sortP ps))) else none) = _
    rw [sh h, sh h2]
    show some (PyData.eqv (.tuple ps) (.tuple (sortP ps))) = _
    cases q : PyData.eqv (.tuple ps) (.tuple (sortP ps)) with
    | false => rfl
    | true =>
      have e := plain_eq _ _ (by simpa [plainK] using plains_of fun p hp => ph_plain (h p hp)) (by simpa [plainK] using plains_of fun p hp => ph_plain (h2 p hp)) q
      have e2 : ps = sortP ps := PyData.tuple.inj e
      have := sort_up h
      rw [← e2, hu] at this
      cases this
theorem filt_all (xs : List PyData) (p : PyData → Bool) : (xs.filter fun x => !p x).isEmpty = xs.all p := by
  induction xs with
  | nil => rfl
  | cons x t ih =>
    rw [List.filter_cons, List.all_cons]
    cases c : p x with
    | true => simpa using ih
    | false => simp
theorem sm_len {n : Nat} {xs : List PyData} (h : Sm n (.tuple xs)) : xs.length ≤ 10000 ∧ ∀ x ∈ xs, x.canLay0 = true ∧ x.depth ≤ n := by
  cases h with
  | tup a b =>
    refine ⟨a, fun x hx => ?_⟩
    have := (b x hx).lay
    exact ⟨this.1, by omega⟩
theorem lbook_any {n : Nat} {d : PyData} (hs : Sm n d) (hn : n ≤ 60) (q : Bag) : g__law_is_book [.d d] q = .ok (.d (.bool (bookB d))) q := by
  cases d with
  | dict _ => cases hs
  | tuple xs =>
    obtain ⟨len, hel⟩ := sm_len hs
    by_cases h1 : 1 ≤ xs.length
    · by_cases h8 : xs.length ≤ 8
      · have i1 : (1 : Int) ≤ (xs.length : Int) := by omega
        have i8 : (xs.length : Int) ≤ 8 := by omega
        have hl : decide (1 ≤ xs.length ∧ xs.length ≤ 8) = true := decide_eq_true ⟨h1, h8⟩
        have hm : ev (c__law_is_book_1 (g__law_is_phrase 6)) ⟨[.val (.d (.tuple xs)), .un], q⟩ = .ok (.d (.list (xs.filter fun x => !phB 4 x))) ⟨[.val (.d (.tuple xs)), .un], q⟩ :=
          comp_filt (i := 1) (rho := [.val (.d (.tuple xs)), .un]) (p := fun x => !phB 4 x) (by simp [evI, ev]) (by show xs.length ≤ 16777216; omega) (by simp) fun x hx => by
            have := lisp_any 4 6 x q (by decide) (hel x hx).1
            rw [show (((4 : Nat)) : Int) = 4 from rfl] at this
            simp [ev, evA, this]
        have hf := filt_all xs (phB 4)
        have hne := ne_nil (xs := xs.filter fun x => !phB 4 x) (shaped_list (n := 60) (fun x hx => (hel x (List.mem_filter.mp hx).1).1) (fun x hx => Nat.le_trans (hel x (List.mem_filter.mp hx).1).2 hn) (by decide))
        rw [hf] at hne
        generalize (xs.filter fun x => !phB 4 x) = ys at *
        cases hall : xs.all (phB 4) with
        | false =>
          rw [hall] at hne
          simp [g__law_is_book, RD.run, ex, ev, evA, big, t__law_is_book, isiD, i1, i8, hm, hne, hall, bookB]
        | true =>
          rw [hall] at hne
          have hk := sortedT_ok (List.all_eq_true.mp hall) (by omega) q
          have he := eq_sortP (List.all_eq_true.mp hall)
          simp [g__law_is_book, RD.run, ex, ev, evA, big, t__law_is_book, isiD, i1, i8, hm, hne, hall, bookB, hk, he, hl]
      · have i1 : (1 : Int) ≤ (xs.length : Int) := by omega
        have i8 : ¬ (xs.length : Int) ≤ 8 := by omega
        have hl : decide (1 ≤ xs.length ∧ xs.length ≤ 8) = false := decide_eq_false fun z => h8 z.2
        simp [g__law_is_book, RD.run, ex, ev, evA, big, t__law_is_book, isiD, i1, i8, bookB, hl]
    · have i1 : ¬ (1 : Int) ≤ (xs.length : Int) := by omega
      have hl : decide (1 ≤ xs.length ∧ xs.length ≤ 8) = false := decide_eq_false fun z => h1 z.1
      simp [g__law_is_book, RD.run, ex, ev, evA, big, t__law_is_book, isiD, i1, bookB, hl]
  | _ => simp [g__law_is_book, RD.run, ex, ev, evA, big, t__law_is_book, isiD, bookB]
/-! ### habits and lots, by the law -/
theorem among_any (d : PyData) (h : d.canLay0 = true) (l : List Str) (hl : SeqAt.shaped (.list (l.map .str)) = true) (q : Bag) : g__law_among [.d d, .d (.list (l.map .str))] q = .ok (.d (.bool (wordB l d))) q := by
  cases d with
  | str z =>
    have e : cmpop .isin (.str z) (.list (l.map .str)) = some (l.any fun a => a == z) := by
      show (if (SeqAt.shaped (.str z) && SeqAt.shaped (.list (l.map .str))) = true then some ((l.map PyData.str).any fun y => PyData.eqv y (.str z)) else none) = _
      rw [shaped_str h, hl, List.any_map]
      rfl
    simp [g__law_among, RD.run, ex, ev, evA, big, t__law_among, isiD, e, wordB]
  | dict _ => cases h
  | _ => simp [g__law_among, RD.run, ex, ev, evA, big, t__law_among, isiD, wordB]
theorem word_swap (a b : Str) (d : PyData) : wordB [a, b] d = wordB [b, a] d := by
  cases d <;> first | rfl | skip
  rename_i z
  show ((a == z) || ((b == z) || false)) = ((b == z) || ((a == z) || false))
  rw [Bool.or_false, Bool.or_false, Bool.or_comm]
/-- not one of the days between -/
def midB (i : Int) : Bool := [(1 : Int), 2, 3, 4].any fun a => a == i
theorem inMid (i : Int) : cmpop .isin (.int i) (.list [.int 1, .int 2, .int 3, .int 4]) = some (midB i) := by
  have h2 : SeqAt.shaped (.list [.int 1, .int 2, .int 3, .int 4]) = true := by decide +kernel
  show (if (SeqAt.shaped (.int i) && SeqAt.shaped (.list [.int 1, .int 2, .int 3, .int 4])) = true then some _ else none) = _
  rw [h2, show SeqAt.shaped (.int i) = true from rfl]
  rfl
theorem mid_begin (i : Int) : beginB (.int i) = (intB 0 6 (.int i) && !midB i) := by
  show (i == 0 || (i == 5 || i == 6)) = (decide (0 ≤ i ∧ i ≤ 6) && !midB i)
  by_cases h : 0 ≤ i ∧ i ≤ 6
  · have : i = 0 ∨ i = 1 ∨ i = 2 ∨ i = 3 ∨ i = 4 ∨ i = 5 ∨ i = 6 := by omega
    rcases this with rfl | rfl | rfl | rfl | rfl | rfl | rfl <;> decide
  · rw [decide_eq_false h, Bool.false_and]
    have h0 : (i == 0) = false := by rw [beq_eq_false_iff_ne]; omega
    have h5 : (i == 5) = false := by rw [beq_eq_false_iff_ne]; omega
    have h6 : (i == 6) = false := by rw [beq_eq_false_iff_ne]; omega
    rw [h0, h5, h6]
    rfl
theorem lhabit_any (d : PyData) (h : d.canLay0 = true) (q : Bag) : g__law_is_habit [.d d] q = .ok (.d (.bool (habB d))) q := by
  cases d with
  | dict _ => cases h
  | tuple xs =>
    match xs, h with
    | [], h => simp [g__law_is_habit, RD.run, ex, ev, evA, big, t__law_is_habit, isiD, habB]
    | [_], h => simp [g__law_is_habit, RD.run, ex, ev, evA, big, t__law_is_habit, isiD, habB]
    | [_, _], h => simp [g__law_is_habit, RD.run, ex, ev, evA, big, t__law_is_habit, isiD, habB]
    | [_, _, _], h => simp [g__law_is_habit, RD.run, ex, ev, evA, big, t__law_is_habit, isiD, habB]
    | [a, b, c, d], h =>
      obtain ⟨ha, hb, hc, hd⟩ := can4 h
      have h1 := lawint_ok a ha 0 6 q
      have h2 : g__law_among [.d b, .d (.list [.str "now", .str "later"])] q = _ := among_any b hb ["now", "later"] (by decide +kernel) q
      have h3 : g__law_among [.d c, .d (.list [.str "coming", .str "second", .str "week"])] q = _ := among_any c hc ["coming", "second", "week"] (by decide +kernel) q
      have h4 : g__law_among [.d d, .d (.list [.str "from", .str "with"])] q = _ := among_any d hd ["from", "with"] (by decide +kernel) q
      rw [word_swap] at h2
      cases a with
      | int i =>
        have h5 := inMid i
        have h6 := mid_begin i
        cases e0 : intB 0 6 (.int i) <;> cases e1 : midB i <;> cases e2 : wordB ["later", "now"] b <;> cases e3 : wordB ["coming", "second", "week"] c <;> cases e4 : wordB ["from", "with"] d <;>
          (rw [e0, e1] at h6
           simp [g__law_is_habit, RD.run, ex, ev, evA, big, t__law_is_habit, isiD, habB, h1, h2, h3, h4, h5, h6, e0, e1, e2, e3, e4])
      | _ =>
        simp [intB] at h1
        simp [g__law_is_habit, RD.run, ex, ev, evA, big, t__law_is_habit, isiD, habB, h1, beginB]
    | _ :: _ :: _ :: _ :: _ :: r, h =>
      have e : (((r.length : Int) + 1 + 1 + 1 + 1 + 1) == 4) = false := by rw [beq_eq_false_iff_ne]; omega
      simp [g__law_is_habit, RD.run, ex, ev, evA, big, t__law_is_habit, isiD, habB, e]
  | _ => simp [g__law_is_habit, RD.run, ex, ev, evA, big, t__law_is_habit, isiD, habB]
/-- neighbour k is not less than the next -/
def stuckB (xs : List PyData) : PyData → Bool
  | .int k => !PySem.W.dataLt (xs.getD k.toNat .none) (xs.getD (k.toNat + 1) .none)
  | _ => false
theorem stuck_up : ∀ xs : List PyData, ((rangeD 0 (xs.length - 1)).filter (stuckB xs)).isEmpty = upB xs
  | [] => rfl
  | [x] => rfl
  | x :: y :: r => by
    have ih := stuck_up (y :: r)
    have sh : ∀ n (lo : Int), 0 ≤ lo → ((rangeD (lo + 1) n).filter (stuckB (x :: y :: r))).isEmpty = ((rangeD lo n).filter (stuckB (y :: r))).isEmpty := fun n => by
      induction n with
      | zero => exact fun lo _ => rfl
      | succ n ihn =>
        intro lo h
        rw [range_step, range_step, List.filter_cons, List.filter_cons]
        have e : stuckB (x :: y :: r) (.int (lo + 1)) = stuckB (y :: r) (.int lo) := by
          have t : (lo + 1).toNat = lo.toNat + 1 := by omega
          show (!PySem.W.dataLt ((x :: y :: r).getD (lo + 1).toNat .none) ((x :: y :: r).getD ((lo + 1).toNat + 1) .none)) = (!PySem.W.dataLt ((y :: r).getD lo.toNat .none) ((y :: r).getD (lo.toNat + 1) .none))
          rw [t]
          rfl
        rw [e]
        split
        · rfl
        · exact ihn (lo + 1) (by omega)
    have s0 := sh ((y :: r).length - 1) 0 (by decide)
    rw [ih] at s0
    show ((rangeD 0 (((y :: r).length - 1) + 1)).filter _).isEmpty = (PySem.W.dataLt x y && upB (y :: r))
    rw [range_step, List.filter_cons]
    have e : stuckB (x :: y :: r) (.int 0) = !PySem.W.dataLt x y := rfl
    rw [e]
    cases c : PySem.W.dataLt x y with
    | true =>
      rw [if_neg (by decide), Bool.true_and]
      exact s0
    | false => rfl
theorem tup_of {x : PyData} (h : isTupD x = true) : ∃ xs, x = .tuple xs := by
  cases x <;> first | exact ⟨_, rfl⟩ | cases h
theorem lt_hab {x y : PyData} (hx : x ∈ every) (hy : y ∈ every) : cmpop .lt x y = some (PySem.W.dataLt x y) := by
  have a := hab_alike hx hy
  obtain ⟨_, _, dx, _, _, tx⟩ := every_hab hx
  obtain ⟨_, _, _, _, _, ty⟩ := every_hab hy
  obtain ⟨xs, rfl⟩ := tup_of tx
  obtain ⟨ys, rfl⟩ := tup_of ty
  show (if (PySem.W.alike (.tuple xs) (.tuple ys) && decide ((PyData.tuple xs).depth ≤ 40)) = true then some (PySem.W.dataLt (.tuple xs) (.tuple ys)) else none) = _
  rw [a, decide_eq_true (show (PyData.tuple xs).depth ≤ 40 by omega)]
  rfl
theorem llot_any {n : Nat} {d : PyData} (hs : Sm n d) (hn : n ≤ 60) (q : Bag) : g__law_is_lot [.d d] q = .ok (.d (.bool (lotB d))) q := by
  cases d with
  | dict _ => cases hs
  | tuple xs =>
    obtain ⟨len, hel⟩ := sm_len hs
    by_cases h1 : 1 ≤ xs.length
    · by_cases h8 : xs.length ≤ 8
      · have i1 : (1 : Int) ≤ (xs.length : Int) := by omega
        have i8 : (xs.length : Int) ≤ 8 := by omega
        have hl : decide (1 ≤ xs.length ∧ xs.length ≤ 8) = true := decide_eq_true ⟨h1, h8⟩
        have hm : ev (c__law_is_lot_1 g__law_is_habit) ⟨[.val (.d (.tuple xs)), .un, .un], q⟩ = .ok (.d (.list (xs.filter fun x => !habB x))) ⟨[.val (.d (.tuple xs)), .un, .un], q⟩ :=
          comp_filt (i := 1) (rho := [.val (.d (.tuple xs)), .un, .un]) (p := fun x => !habB x) (by simp [evI, ev]) (by show xs.length ≤ 16777216; omega) (by simp) fun x hx => by
            have := lhabit_any x (hel x hx).1 q
            simp [ev, evA, this]
        have hf := filt_all xs habB
        have hne := ne_nil (xs := xs.filter fun x => !habB x) (shaped_list (n := 60) (fun x hx => (hel x (List.mem_filter.mp hx).1).1) (fun x hx => Nat.le_trans (hel x (List.mem_filter.mp hx).1).2 hn) (by decide))
        rw [hf] at hne
        generalize (xs.filter fun x => !habB x) = ys at *
        cases hall : xs.all habB with
        | false =>
          rw [hall] at hne
          simp [g__law_is_lot, RD.run, ex, ev, evA, big, t__law_is_lot, isiD, i1, i8, hm, hne, hall, lotB]
        | true =>
          rw [hall] at hne
          have hin : ∀ x ∈ xs, x ∈ every := fun x hx => habB_in (List.all_eq_true.mp hall x hx)
          have hm2 : ev c__law_is_lot_2 ⟨[.val (.d (.tuple xs)), .un, .un], q⟩ = .ok (.d (.list ((rangeD 0 (xs.length - 1)).filter (stuckB xs)))) ⟨[.val (.d (.tuple xs)), .un, .un], q⟩ :=
            comp_filt (i := 2) (rho := [.val (.d (.tuple xs)), .un, .un]) (p := stuckB xs) (by
              have b1 : (xs.length : Int) - 1 ≤ 1000000 ∧ -1000000 ≤ (xs.length : Int) - 1 := by omega
              have b2 : ((xs.length : Int) - 1).toNat = xs.length - 1 := by omega
              simp [evI, ev, evA, bltop, b1, b2]) (by rw [range_len]; show xs.length - 1 ≤ 16777216; omega) (by simp) fun x hx => by
              obtain ⟨k, k0, k1, rfl⟩ := range_int hx
              have a1 : k.toNat < xs.length := by omega
              have a2 : k.toNat + 1 < xs.length := by omega
              have e1 : atI xs k = some (xs.getD k.toNat .none) := by
                have := atI_nat (List.getElem?_eq_getElem a1)
                rw [show ((k.toNat : Nat) : Int) = k by omega] at this
                rw [this, List.getD_eq_getElem?_getD, List.getElem?_eq_getElem a1]
                rfl
              have e2 : atI xs (k + 1) = some (xs.getD (k.toNat + 1) .none) := by
                have := atI_nat (List.getElem?_eq_getElem a2)
                rw [show ((k.toNat + 1 : Nat) : Int) = k + 1 by omega] at this
                rw [this, List.getD_eq_getElem?_getD, List.getElem?_eq_getElem a2]
                rfl
              have g1 : xs.getD k.toNat .none ∈ xs := by
                rw [List.getD_eq_getElem?_getD, List.getElem?_eq_getElem a1]
                exact List.getElem_mem a1
              have g2 : xs.getD (k.toNat + 1) .none ∈ xs := by
                rw [List.getD_eq_getElem?_getD, List.getElem?_eq_getElem a2]
                exact List.getElem_mem a2
              have e3 := lt_hab (hin _ g1) (hin _ g2)
              have e4 : stuckB xs (.int k) = !PySem.W.dataLt (xs.getD k.toNat .none) (xs.getD (k.toNat + 1) .none) := rfl
              rw [e4]
              generalize xs.getD k.toNat .none = u at *
              generalize xs.getD (k.toNat + 1) .none = v at *
              simp [ev, evA, e1, e2, e3]
          have he := eq_nil (xs := (rangeD 0 (xs.length - 1)).filter (stuckB xs)) (shaped_list (n := 0) (fun x hx => by
            obtain ⟨k, _, _, rfl⟩ := range_int (List.mem_filter.mp hx).1
            rfl) (fun x hx => by
            obtain ⟨k, _, _, rfl⟩ := range_int (List.mem_filter.mp hx).1
            exact Nat.le_refl _) (by decide))
          rw [stuck_up] at he
          generalize (rangeD 0 (xs.length - 1)).filter (stuckB xs) = zs at *
          simp [g__law_is_lot, RD.run, ex, ev, evA, big, t__law_is_lot, isiD, i1, i8, hm, hne, hall, lotB, hm2, he, hl]
      · have i1 : (1 : Int) ≤ (xs.length : Int) := by omega
        have i8 : ¬ (xs.length : Int) ≤ 8 := by omega
        have hl : decide (1 ≤ xs.length ∧ xs.length ≤ 8) = false := decide_eq_false fun z => h8 z.2
        simp [g__law_is_lot, RD.run, ex, ev, evA, big, t__law_is_lot, isiD, i1, i8, lotB, hl]
    · have i1 : ¬ (1 : Int) ≤ (xs.length : Int) := by omega
      have hl : decide (1 ≤ xs.length ∧ xs.length ≤ 8) = false := decide_eq_false fun z => h1 z.1
      simp [g__law_is_lot, RD.run, ex, ev, evA, big, t__law_is_lot, isiD, i1, lotB, hl]
  | _ => simp [g__law_is_lot, RD.run, ex, ev, evA, big, t__law_is_lot, isiD, lotB]
/-- the law's four answers are the program's -/
theorem right_all {n : Nat} {d : PyData} (hs : Sm n d) (hn : n ≤ 60) (q : Bag) : g__law_told_right [.d d] q = .ok (.d (.bool true)) q := by
  have hc := hs.lay.1
  have h1 := ishabit_any d hc q
  have h2 := islot_any d hc q
  have h3 := isphrase_any d hc q
  have h4 := isbook_any d hc q
  have k1 := lhabit_any d hc q
  have k2 := llot_any hs hn q
  have k3 := lisp_any 4 6 d q (by decide) hc
  rw [show (((4 : Nat)) : Int) = 4 from rfl] at k3
  have k4 := lbook_any hs hn q
  generalize habB d = a1 at *
  generalize lotB d = a2 at *
  generalize phB 4 d = a3 at *
  generalize bookB d = a4 at *
  have hm : ev c__law_told_right_1 ⟨[.val (.d d), .val (.d (.list [.bool a1, .bool a2, .bool a3, .bool a4])), .un], q⟩ = .ok (.d (.list [])) ⟨[.val (.d d), .val (.d (.list [.bool a1, .bool a2, .bool a3, .bool a4])), .un], q⟩ :=
    comp_filt (i := 2) (rho := [.val (.d d), .val (.d (.list [.bool a1, .bool a2, .bool a3, .bool a4])), .un]) (p := fun _ => false) (xs := [.bool a1, .bool a2, .bool a3, .bool a4]) (by simp [evI, ev]) (by simp [big]) (by simp) fun x hx => by
      simp only [List.mem_cons, List.not_mem_nil, or_false] at hx
      rcases hx with rfl | rfl | rfl | rfl <;> simp [ev, evA, isiD]
  have e1 : cmpop .ne (.list []) (.list []) = some false := ne_self (by decide +kernel)
  have e2 : cmpop .eq (.list [.bool a1, .bool a2, .bool a3, .bool a4]) (.list [.bool a1, .bool a2, .bool a3, .bool a4]) = some true := eq_self (shaped_list (n := 0) (fun x hx => by
    simp only [List.mem_cons, List.not_mem_nil, or_false] at hx
    rcases hx with rfl | rfl | rfl | rfl <;> rfl) (fun x hx => by
    simp only [List.mem_cons, List.not_mem_nil, or_false] at hx
    rcases hx with rfl | rfl | rfl | rfl <;> exact Nat.le_refl _) (by decide))
  simp [g__law_told_right, RD.run, ex, ev, evA, big, t__law_told_right, h1, h2, h3, h4, k1, k2, k3, k4, hm, e1, e2]
end PG
set_option Elab.async false
set_option linter.all false
set_option maxRecDepth 1000000
set_option maxHeartbeats 0
/-! PgT: books, as the law draws them; words. -/
namespace PG
open PySem L2 RD
/-- a book, as the law draws it -/
structure BookD (ps : List PyData) : Prop where
  ph : ∀ p ∈ ps, phB 4 p = true
  up : upB (ps.map rowP) = true
  few : ps.length ≤ 8
  some : 1 ≤ ps.length
theorem BookD.book {ps : List PyData} (B : BookD ps) : bookB (.tuple ps) = true := by
  show (decide (1 ≤ ps.length ∧ ps.length ≤ 8) && (ps.all (phB 4) && upB (ps.map rowP))) = true
  rw [decide_eq_true ⟨B.some, B.few⟩, List.all_eq_true.mpr B.ph, B.up]
  rfl
theorem BookD.cl {ps : List PyData} (B : BookD ps) : Cl 5 (.tuple ps) := .tup (by have := B.few; omega) fun p hp => ph_cl (B.ph p hp)
theorem hab_cl {h : PyData} (hh : h ∈ every) : Cl 1 h := by
  unfold every at hh
  obtain ⟨b, hb, h1⟩ := List.mem_flatMap.mp hh
  obtain ⟨o, ho, h2⟩ := List.mem_flatMap.mp h1
  obtain ⟨n, hn, h3⟩ := List.mem_flatMap.mp h2
  obtain ⟨c, hc, rfl⟩ := List.mem_map.mp h3
  refine .tup (by simp) fun x hx => ?_
  simp only [List.mem_cons, List.not_mem_nil, or_false] at hb ho hn hc hx
  rcases hx with rfl | rfl | rfl | rfl
  · rcases hb with rfl | rfl | rfl <;> exact .int (by decide) (by decide)
  · rcases ho with rfl | rfl <;> exact .str (by simp [allW])
  · rcases hn with rfl | rfl | rfl <;> exact .str (by simp [allW])
  · rcases hc with rfl | rfl <;> exact .str (by simp [allW])
theorem LotD.cl {l : List PyData} (L : LotD l) : Cl 2 (.tuple l) := .tup (by have := L.few; omega) fun h hh => hab_cl (L.hab h hh)
theorem nth_in {v : PyData} (h : v ∈ ([.str "name", .str "next", .str "this"] : List PyData)) : ∃ kd, v = .str (Kd.str kd) ∧ inK kd = false := by
  simp only [List.mem_cons, List.not_mem_nil, or_false] at h
  rcases h with rfl | rfl | rfl
  · exact ⟨.nm, rfl, rfl⟩
  · exact ⟨.nx, rfl, rfl⟩
  · exact ⟨.th, rfl, rfl⟩
/-- one turn of the drawing -/
theorem bookrow_ok {m w : Int} (w0 : 0 ≤ w ∧ w ≤ 6) {ps : List PyData} (hl : ps.length < 1000) (c4 c5 c6 : Slot) (x y : Int) :
    ∃ p d5 d6 x' y', phB 4 p = true ∧ ex (b__law_book_1 g__law_take (g__law_phrase 4) g__law_of) ⟨[.val .bag, .val (.d (.int m)), .val (.d (.int w)), .ol ps, c4, c5, c6], some (x, y)⟩ = .ok .nx ⟨[.val .bag, .val (.d (.int m)), .val (.d (.int w)), .ol (ps ++ [p]), c4, d5, d6], some (x', y')⟩ := by
  have hl' : ps.length < 16777216 := by omega
  obtain ⟨k, x1, y1, k0, k3, e1⟩ := take_ok (m := 3) (by decide) (by decide) x y
  by_cases c : k = 0
  · subst c
    obtain ⟨p, x2, y2, hp0, e2⟩ := phrase_le 1 4 x1 y1 (by decide)
    rw [show ((1 : Nat) : Int) + 1 = 2 from rfl] at e2
    refine ⟨p, .val (.d (.int 0)), .val (.d p), x2, y2, phB_le (phs_ph 1 p hp0) (by decide), ?_⟩
    simp [b__law_book_1, ex, ev, evA, asgT, e1, e2, big, hl']
  · obtain ⟨v, x2, y2, hv, e2⟩ := of_ok [.str "name", .str "next", .str "this"] (by simp) (by simp) x1 y1
    obtain ⟨kd, rfl, hk⟩ := nth_in hv
    have ho : phB 1 (.tuple [.str kd.str, .int w]) = true := enc_phB (kd := kd) (r := w) ((okR_six hk).mpr w0) [] 1 (by decide)
    by_cases c1 : k = 1
    · subst c1
      obtain ⟨p, x3, y3, hp, e3⟩ := of_ok [.tuple [.str "in", .int 7], .tuple [.str "in", .int 8], .tuple [.str "week", .tuple [.str kd.str, .int w]], .tuple [.str kd.str, .int w]] (by simp) (by simp) x2 y2
      refine ⟨p, .val (.d (.int 1)), .val (.d (.tuple [.str kd.str, .int w])), x3, y3, ?_, ?_⟩
      · simp only [List.mem_cons, List.not_mem_nil, or_false] at hp
        rcases hp with rfl | rfl | rfl | rfl
        · decide +kernel
        · decide +kernel
        · exact enc_phB (kd := kd) (r := w) ((okR_six hk).mpr w0) [.wk] 4 (by decide)
        · exact phB_le ho (by decide)
      · simp [b__law_book_1, ex, ev, evA, asgT, e1, e2, e3, big, hl']
    · refine ⟨.tuple [.str kd.str, .int w], .val (.d (.int k)), .val (.d (.tuple [.str kd.str, .int w])), x2, y2, phB_le ho (by decide), ?_⟩
      simp [b__law_book_1, ex, ev, evA, asgT, e1, e2, big, hl', c, c1]
theorem book_ok {m : Int} (h1 : 1 ≤ m) (h8 : m ≤ 8) (x y : Int) : ∃ ps x' y', BookD ps ∧ g__law_book [.bag, .d (.int m)] (some (x, y)) = .ok (.d (.tuple ps)) (some (x', y')) := by
  obtain ⟨w, x1, y1, w0, w7, e1⟩ := take_ok (m := 7) (by decide) (by decide) x y
  obtain ⟨r, x2, y2, r0, rm, e2⟩ := take_ok (m := m) h1 (by omega) x1 y1
  obtain ⟨s', e, d4, d5, d6, ps, x3, y3, hl, hp, hs⟩ := forR_k (f := fun x s => (R.ofS (asgT (.tname 4) x s)).bind fun _ s => ex (b__law_book_1 g__law_take (g__law_phrase 4) g__law_of) s)
    (P := fun k s => ∃ c4 c5 c6 ps x y, (ps.length : Int) = k ∧ (∀ p ∈ ps, phB 4 p = true) ∧ s = ⟨[.val .bag, .val (.d (.int m)), .val (.d (.int w)), .ol ps, c4, c5, c6], some (x, y)⟩)
    (1 + r).toNat 0 ⟨[.val .bag, .val (.d (.int m)), .val (.d (.int w)), .ol [], .un, .un, .un], some (x2, y2)⟩ ⟨_, _, _, [], _, _, rfl, (fun p hp => by cases hp), rfl⟩ fun j j0 j1 s ⟨c4, c5, c6, ps, x, y, hl, hp, hs⟩ => by
      subst hs
      obtain ⟨p, d5, d6, x', y', hp', e⟩ := bookrow_ok (m := m) (w := w) (by omega) (ps := ps) (by omega) (.val (.d (.int j))) c5 c6 x y
      refine ⟨_, e, _, _, _, _, _, _, by rw [List.length_append, List.length_singleton]; omega, fun z hz => ?_, rfl⟩
      rcases List.mem_append.mp hz with hz | hz
      · exact hp z hz
      · rw [List.mem_singleton.mp hz]
        exact hp'
  subst hs
  have hlen : ps.length ≤ 8 ∧ 1 ≤ ps.length := by omega
  refine ⟨sortP ps, x3, y3, ⟨fun p hq => hp p (sort_in hp hq), sort_up hp, by have := sort_len ps; omega, sort_some hp hlen.2⟩, ?_⟩
  have es := sortedL_ok hp (by omega) (some (x3, y3))
  have hi : evI (.itr1 (.bin .add (.cst (.int 1)) (.call "_law_take" g__law_take (.acons (.var 0) (.acons (.var 1) .anil))))) ⟨[.val .bag, .val (.d (.int m)), .val (.d (.int w)), .ol [], .un, .un, .un], some (x1, y1)⟩ = .ok (rangeD 0 (1 + r).toNat) ⟨[.val .bag, .val (.d (.int m)), .val (.d (.int w)), .ol [], .un, .un, .un], some (x2, y2)⟩ := by
    have : 1 + r ≤ 1000000 ∧ -1000000 ≤ 1 + r := by omega
    simp [evI, ev, evA, e2, this, big, binop]
  have hlp : ex (.loop (.tname 4) (.itr1 (.bin .add (.cst (.int 1)) (.call "_law_take" g__law_take (.acons (.var 0) (.acons (.var 1) .anil))))) (b__law_book_1 g__law_take (g__law_phrase 4) g__law_of)) ⟨[.val .bag, .val (.d (.int m)), .val (.d (.int w)), .ol [], .un, .un, .un], some (x1, y1)⟩ = .ok .nx ⟨[.val .bag, .val (.d (.int m)), .val (.d (.int w)), .ol ps, d4, d5, d6], some (x3, y3)⟩ := by
    show ((evI _ _).bind _) = _
    rw [hi]
    exact e
  refine run_rt (np := 2) (n := 7) (us := [.bag, .d (.int m)]) (s' := ⟨[.val .bag, .val (.d (.int m)), .val (.d (.int w)), .val (.d (.list ps)), d4, d5, d6], some (x3, y3)⟩) rfl ?_
  unfold t__law_book
  rw [seq_nx (s' := ⟨[.val .bag, .val (.d (.int m)), .val (.d (.int w)), .ol [], .un, .un, .un], some (x1, y1)⟩) (by simp [ex, ev, evA, e1, S.set]), seq_nx hlp]
  simp [ex, ev, evA, es]
theorem wordsof_ok (kd : Kd) (r : Int) : ∀ (W : List Ar) (n : Nat) (q : Bag), W.length < n → W.length ≤ 1000 → g_words_of n [.d (encP kd r W)] q = .ok (.d (.list (wordsD kd W))) q
  | _, 0, _, h, _ => absurd h (Nat.not_lt_zero _)
  | [], n + 1, q, _, _ => by
    have h := kd_inA kd
    simp [g_words_of, RD.run, ex, ev, evA, big, t_words_of, encP, wordsD, h]
  | a :: W, n + 1, q, hl, hb => by
    have h := ar_inA a
    have ih := wordsof_ok kd r W n q (Nat.lt_of_succ_lt_succ hl) (Nat.le_of_succ_le hb)
    have hb' : W.length + 1 ≤ 1000 := hb
    have hlen : 1 + (wordsD kd W).length ≤ 16777216 := by
      unfold wordsD
      rw [List.length_append, List.length_map, List.length_singleton]
      omega
    have e : wordsD kd (a :: W) = .str a.str :: wordsD kd W := rfl
    rw [e]
    generalize wordsD kd W = X at ih hlen
    simp [g_words_of, RD.run, ex, ev, evA, big, t_words_of, encP, h, ih, binop, hlen]
/-- both sides tell the same words -/
theorem both_words {p : PyData} (hp : phB 4 p = true) (q : Bag) : ∃ ws r, SeqAt.shaped (.list ws) = true ∧ g_words [.d p] q = .ok (.d (.list ws)) q ∧ g__law_words 6 [.d p] q = .ok (.d (.tuple [.list ws, r])) q := by
  have h0 := needphrase_ok hp q
  obtain ⟨kd, r, W, rfl, h1, h2⟩ := phB_enc2 4 p hp
  have e := wordsof_ok kd r W 6 q (by omega) (by omega)
  refine ⟨wordsD kd W, .int r, shaped_list (n := 0) (fun x hx => (words_lay kd W x hx).1) (fun x hx => Nat.le_of_eq (words_lay kd W x hx).2) (by decide), ?_, words_ok kd r W 6 q (by omega) (by omega)⟩
  simp [g_words, RD.run, ex, ev, evA, t_words, h0, e]
end PG
set_option Elab.async false
set_option linter.all false
set_option maxRecDepth 100000
set_option maxHeartbeats 4000000
/-! K01T: the law's own trees; printed by gen2.py. -/
namespace K01
open PySem L2 RD PG
def b_law_1 (g__law_of : G) (g__law_spoiled : G) (g__law_any_value : G) (g__law_told_right : G) : T := .seq (.asg (.tname 6) (.call "_law_of" g__law_of (.acons (.var 2) (.acons (.var 4) .anil)))) (.seq (.asgO 7 (.lst (.acons (.var 6) (.acons (.call "_law_spoiled" g__law_spoiled (.acons (.var 2) (.acons (.var 6) .anil))) (.acons (.call "_law_spoiled" g__law_spoiled (.acons (.var 2) (.acons (.var 6) .anil))) .anil))))) (.seq (.app 7 (.call "_law_any_value" g__law_any_value (.acons (.var 2) (.acons (.cst (.int 2)) .anil)))) (.seq (.iff (.not (.call "_law_told_right" g__law_told_right (.acons (.call "_law_of" g__law_of (.acons (.var 2) (.acons (.var 7) .anil))) .anil))) (.seq (.ret (.cst (.bool false))) (.nil)) (.nil)) (.nil))))
def b_law_2 (g__law_phrase : G) (g__law_book : G) (g__law_lot : G) (g__law_habit : G) (g__law_of : G) (g__law_spoiled : G) (g__law_any_value : G) (g__law_told_right : G) (g_words : G) (g__law_words : G) : T := .seq (.asg (.tname 3) (.call "_law_phrase" g__law_phrase (.acons (.var 2) (.acons (.cst (.int 4)) .anil)))) (.seq (.asg (.tname 4) (.lst (.acons (.call "_law_habit" g__law_habit (.acons (.var 2) .anil)) (.acons (.call "_law_lot" g__law_lot (.acons (.var 2) (.acons (.cst (.int 8)) .anil))) (.acons (.var 3) (.acons (.var 3) (.acons (.call "_law_book" g__law_book (.acons (.var 2) (.acons (.cst (.int 8)) .anil))) .anil))))))) (.seq (.loop (.tname 5) (.itr1 (.cst (.int 12))) (b_law_1 g__law_of g__law_spoiled g__law_any_value g__law_told_right)) (.seq (.iff (.cmp .ne (.call "words" g_words (.acons (.var 3) .anil)) (.idx (.call "_law_words" g__law_words (.acons (.var 3) .anil)) (.cst (.int 0)))) (.seq (.ret (.cst (.bool false))) (.nil)) (.nil)) (.nil))))
def b_law_3 (g__law_bag : G) (g__law_phrase : G) (g__law_book : G) (g__law_lot : G) (g__law_habit : G) (g__law_of : G) (g__law_spoiled : G) (g__law_any_value : G) (g__law_told_right : G) (g_words : G) (g__law_words : G) : T := .bagged 2 "_law_bag" g__law_bag (.acons (.var 0) (.acons (.var 1) .anil)) (b_law_2 g__law_phrase g__law_book g__law_lot g__law_habit g__law_of g__law_spoiled g__law_any_value g__law_told_right g_words g__law_words)
def c_law_4 : T := .comp [12] (.tname 12) (.itl (.lst (.acons (.cst (.str "from")) (.acons (.cst (.str "with")) .anil)))) .yes (.tup (.acons (.var 9) (.acons (.var 10) (.acons (.var 11) (.acons (.var 12) .anil)))))
def b_law_5 : T := .seq (.asg (.tname 8) (.bin .add (.var 8) (c_law_4))) (.nil)
def b_law_6 : T := .seq (.loop (.tname 11) (.itl (.lst (.acons (.cst (.str "coming")) (.acons (.cst (.str "second")) (.acons (.cst (.str "week")) .anil))))) b_law_5) (.nil)
def b_law_7 : T := .seq (.loop (.tname 10) (.itl (.lst (.acons (.cst (.str "later")) (.acons (.cst (.str "now")) .anil)))) b_law_6) (.nil)
def c_law_8 : T := .comp [15] (.tname 15) (.itr2 (.cst (.int 0)) (.cst (.int 17))) .yes (.tup (.acons (.tup (.acons (.cst (.str "in")) (.acons (.var 15) .anil))) .anil))
def b_law_9 : T := .seq (.asg (.tname 13) (.tup (.acons (.cst (.str "week")) (.acons (.var 13) .anil)))) (.nil)
def c_law_10 (g__law_told_right : G) : T := .comp [6] (.tname 6) (.itl (.var 16)) (.one (.not (.call "_law_told_right" g__law_told_right (.acons (.var 6) .anil)))) (.var 6)
def t_law (g__law_bag : G) (g__law_phrase : G) (g__law_book : G) (g__law_lot : G) (g__law_habit : G) (g__law_of : G) (g__law_spoiled : G) (g__law_any_value : G) (g__law_told_right : G) (g_words : G) (g__law_words : G) (g_all_habits : G) : T := .seq (.loop (.tname 1) (.itr1 (.blt .max2 (.acons (.cst (.int 4)) (.acons (.blt .min2 (.acons (.cst (.int 10)) (.acons (.bin .add (.lenS 0) (.cst (.int 3))) .anil))) .anil)))) (b_law_3 g__law_bag g__law_phrase g__law_book g__law_lot g__law_habit g__law_of g__law_spoiled g__law_any_value g__law_told_right g_words g__law_words)) (.seq (.asg (.tname 8) (.lst (.anil))) (.seq (.loop (.tname 9) (.itl (.lst (.acons (.cst (.int 0)) (.acons (.cst (.int 5)) (.acons (.cst (.int 6)) .anil))))) b_law_7) (.seq (.par [13, 14] (.acons (.tup (.acons (.cst (.str "in")) (.acons (.cst (.int 1)) .anil))) (.acons (c_law_8) .anil))) (.seq (.loop (.tname 5) (.itr1 (.cst (.int 3))) b_law_9) (.seq (.asgO 16 (.bin .add (.var 14) (.lst (.acons (.var 13) (.acons (.tup (.acons (.cst (.str "week")) (.acons (.var 13) .anil))) (.acons (.tup (.acons (.cst (.str "name")) (.acons (.cst (.int 7)) .anil))) (.acons (.tup (.acons (.cst (.str "name")) (.acons (.neg (.cst (.int 1))) .anil))) (.acons (.tup (.acons (.cst (.str "in")) (.acons (.cst (.bool true)) .anil))) (.acons (.blt .tuple (.acons (.slc (.var 8) .nopart (.acons (.cst (.int 8)) .anil)) .anil)) (.acons (.blt .tuple (.acons (.slc (.var 8) .nopart (.acons (.cst (.int 9)) .anil)) .anil)) .anil)))))))))) (.seq (.asgO 16 (.bin .add (.var 16) (.lst (.acons (.tup (.acons (.tup (.acons (.cst (.str "in")) (.acons (.cst (.int 2)) .anil))) (.acons (.tup (.acons (.cst (.str "in")) (.acons (.cst (.int 1)) .anil))) .anil))) (.acons (.tup (.acons (.tup (.acons (.cst (.str "name")) (.acons (.cst (.int 0)) .anil))) (.acons (.tup (.acons (.cst (.str "after")) (.acons (.tup (.acons (.cst (.str "in")) (.acons (.cst (.int 1)) .anil))) .anil))) .anil))) (.acons (.tup (.anil)) .anil)))))) (.seq (.app 16 (.tup (.acons (.tup (.acons (.cst (.str "after")) (.acons (.tup (.acons (.cst (.str "in")) (.acons (.cst (.int 1)) .anil))) .anil))) (.acons (.tup (.acons (.cst (.str "name")) (.acons (.cst (.int 0)) .anil))) .anil)))) (.seq (.ret (.and (.cmp .eq (.call "all_habits" g_all_habits (.anil)) (.var 8)) (.one (.cmp .eq ((c_law_10 g__law_told_right)) (.lst (.anil)))))) (.nil)))))))))
def g_law : G := run (K01.t_law g__law_bag (g__law_phrase 4) g__law_book g__law_lot g__law_habit g__law_of (g__law_spoiled 8) (g__law_any_value 3) g__law_told_right g_words (g__law_words 6) g_all_habits) 1 17
end K01
set_option Elab.async false
set_option linter.all false
set_option maxRecDepth 1000000
set_option maxHeartbeats 0
/-! K01D: the law; printed by mk01.py. -/
namespace K01
open PySem L2 RD PG
theorem inner_ok {some5 : List PyData} (hs : ∀ v ∈ some5, Cl 5 v) (hl : some5.length = 5) {ns : List Int} {k c3 c5 c6 c7 c8 c9 c10 c11 c12 c13 c14 c15 c16 : Slot} (x y : Int) :
    ∃ d6 d7 x' y', ex (b_law_1 g__law_of (g__law_spoiled 8) (g__law_any_value 3) g__law_told_right) ⟨[.val (.scr ns), k, .val .bag, c3, .val (.d (.list some5)), c5, c6, c7, c8, c9, c10, c11, c12, c13, c14, c15, c16], some (x, y)⟩ =
      .ok .nx ⟨[.val (.scr ns), k, .val .bag, c3, .val (.d (.list some5)), c5, d6, d7, c8, c9, c10, c11, c12, c13, c14, c15, c16], some (x', y')⟩ := by
  obtain ⟨v, x1, y1, hv, e1⟩ := of_ok some5 (fun z => by rw [z] at hl; cases hl) (by omega) x y
  have cv := hs v hv
  obtain ⟨o1, x2, y2, s1, e2⟩ := spoiled_ok 5 8 v x1 y1 cv (by decide) (by decide)
  obtain ⟨o2, x3, y3, s2, e3⟩ := spoiled_ok 5 8 v x2 y2 cv (by decide) (by decide)
  obtain ⟨o3, x4, y4, s3, e4⟩ := any_ok 2 3 x3 y3 (by decide) (by decide)
  rw [show ((2 : Nat) : Int) = 2 from rfl] at e4
  obtain ⟨o, x5, y5, ho, e5⟩ := of_ok [v, o1, o2, o3] (by simp) (by simp) x4 y4
  have so : Sm 9 o := by
    simp only [List.mem_cons, List.not_mem_nil, or_false] at ho
    rcases ho with rfl | rfl | rfl | rfl
    · exact cv.sm.up (by decide)
    · exact s1
    · exact s2
    · exact s3.up (by decide)
  have e6 := right_all so (by decide) (some (x5, y5))
  refine ⟨.val (.d v), .val (.d (.list [v, o1, o2, o3])), x5, y5, ?_⟩
  simp [b_law_1, ex, ev, evA, asgT, e1, e2, e3, e4, e5, e6, big]
theorem mid_ok {ns : List Int} {k c3 c4 c5 c6 c7 c8 c9 c10 c11 c12 c13 c14 c15 c16 : Slot} (x y : Int) :
    ∃ d3 d4 d5 d6 d7 d8 d9 d10 d11 d12 d13 d14 d15 d16 x' y', ex (b_law_2 (g__law_phrase 4) g__law_book g__law_lot g__law_habit g__law_of (g__law_spoiled 8) (g__law_any_value 3) g__law_told_right g_words (g__law_words 6)) ⟨[.val (.scr ns), k, .val .bag, c3, c4, c5, c6, c7, c8, c9, c10, c11, c12, c13, c14, c15, c16], some (x, y)⟩ =
      .ok .nx ⟨[.val (.scr ns), k, .val .bag, d3, d4, d5, d6, d7, d8, d9, d10, d11, d12, d13, d14, d15, d16], some (x', y')⟩ := by
  obtain ⟨p, x1, y1, hp0, e1⟩ := phrase_le 3 4 x y (by decide)
  have hp := phs_ph 3 p hp0
  rw [show (((3 : Nat) : Int) + 1) = 4 from rfl] at e1
  obtain ⟨h, x2, y2, hh, e2⟩ := habit_ok x1 y1
  obtain ⟨l, x3, y3, L, _, e3⟩ := lot_ok (m := 8) (by decide) (by decide) x2 y2
  obtain ⟨b, x4, y4, B, e4⟩ := book_ok (m := 8) (by decide) (by decide) x3 y3
  have h1 : ex (.asg (.tname 3) (.call "_law_phrase" (g__law_phrase 4) (.acons (.var 2) (.acons (.cst (.int 4)) .anil)))) ⟨[.val (.scr ns), k, .val .bag, c3, c4, c5, c6, c7, c8, c9, c10, c11, c12, c13, c14, c15, c16], some (x, y)⟩ = .ok .nx ⟨[.val (.scr ns), k, .val .bag, .val (.d p), c4, c5, c6, c7, c8, c9, c10, c11, c12, c13, c14, c15, c16], some (x1, y1)⟩ := by
    simp [ex, ev, evA, asgT, e1]
  have h2 : ex (.asg (.tname 4) (.lst (.acons (.call "_law_habit" g__law_habit (.acons (.var 2) .anil)) (.acons (.call "_law_lot" g__law_lot (.acons (.var 2) (.acons (.cst (.int 8)) .anil))) (.acons (.var 3) (.acons (.var 3) (.acons (.call "_law_book" g__law_book (.acons (.var 2) (.acons (.cst (.int 8)) .anil))) .anil)))))))
      ⟨[.val (.scr ns), k, .val .bag, .val (.d p), c4, c5, c6, c7, c8, c9, c10, c11, c12, c13, c14, c15, c16], some (x1, y1)⟩ = .ok .nx ⟨[.val (.scr ns), k, .val .bag, .val (.d p), .val (.d (.list [h, .tuple l, p, p, .tuple b])), c5, c6, c7, c8, c9, c10, c11, c12, c13, c14, c15, c16], some (x4, y4)⟩ := by
    simp [ex, ev, evA, asgT, e2, e3, e4, big]
  have cl : ∀ v ∈ [h, .tuple l, p, p, .tuple b], Cl 5 v := fun v hv => by
    simp only [List.mem_cons, List.not_mem_nil, or_false] at hv
    rcases hv with rfl | rfl | rfl | rfl | rfl
    · exact (hab_cl hh).up (by decide)
    · exact L.cl.up (by decide)
    · exact (ph_cl hp).up (by decide)
    · exact (ph_cl hp).up (by decide)
    · exact B.cl
  obtain ⟨s3, h3, d5, d6, d7, x5, y5, hs⟩ := loop_r (n := 12) (by decide) (by decide) (i := 5) (b := b_law_1 g__law_of (g__law_spoiled 8) (g__law_any_value 3) g__law_told_right) (P := fun s => ∃ c5 c6 c7 x y, s = ⟨[.val (.scr ns), k, .val .bag, .val (.d p), .val (.d (.list [h, .tuple l, p, p, .tuple b])), c5, c6, c7, c8, c9, c10, c11, c12, c13, c14, c15, c16], some (x, y)⟩)
    ⟨[.val (.scr ns), k, .val .bag, .val (.d p), .val (.d (.list [h, .tuple l, p, p, .tuple b])), c5, c6, c7, c8, c9, c10, c11, c12, c13, c14, c15, c16], some (x4, y4)⟩ ⟨_, _, _, _, _, rfl⟩ fun n _ _ s ⟨c5, c6, c7, x, y, hs⟩ => by
      subst hs
      obtain ⟨d6, d7, x', y', e⟩ := inner_ok cl rfl (ns := ns) (k := k) (c3 := .val (.d p)) (c5 := .val (.d (.int n))) (c6 := c6) (c7 := c7) (c8 := c8) (c9 := c9) (c10 := c10) (c11 := c11) (c12 := c12) (c13 := c13) (c14 := c14) (c15 := c15) (c16 := c16) x y
      exact ⟨_, e, _, _, _, _, _, rfl⟩
  subst hs
  obtain ⟨ws, r, sh, w1, w2⟩ := both_words hp (some (x5, y5))
  have w3 := ne_self sh
  refine ⟨.val (.d p), .val (.d (.list [h, .tuple l, p, p, .tuple b])), d5, d6, d7, c8, c9, c10, c11, c12, c13, c14, c15, c16, x5, y5, ?_⟩
  unfold b_law_2
  rw [seq_nx h1, seq_nx h2, seq_nx h3]
  simp [ex, ev, evA, w1, w2, w3]
theorem walk_ok (ns : List Int) (hn : ns.length ≤ 63) (r0 : List Slot) (h0 : ∃ c1 c2 c3 c4 c5 c6 c7 c8 c9 c10 c11 c12 c13 c14 c15 c16, r0 = [.val (.scr ns), c1, c2, c3, c4, c5, c6, c7, c8, c9, c10, c11, c12, c13, c14, c15, c16]) : ∃ rho', (∃ c1 c2 c3 c4 c5 c6 c7 c8 c9 c10 c11 c12 c13 c14 c15 c16, rho' = [.val (.scr ns), c1, c2, c3, c4, c5, c6, c7, c8, c9, c10, c11, c12, c13, c14, c15, c16]) ∧ ex (.loop (.tname 1) (turnsT 4 10 3) (b_law_3 g__law_bag (g__law_phrase 4) g__law_book g__law_lot g__law_habit g__law_of (g__law_spoiled 8) (g__law_any_value 3) g__law_told_right g_words (g__law_words 6))) ⟨r0, none⟩ = .ok .nx ⟨rho', none⟩ := by
  refine bags_ok (a := 4) (b := 10) (c := 3) (by decide) (by decide) (by decide) (i := 1) (j := 2) (body := (b_law_2 (g__law_phrase 4) g__law_book g__law_lot g__law_habit g__law_of (g__law_spoiled 8) (g__law_any_value 3) g__law_told_right g_words (g__law_words 6))) ns hn
    (fun r => ∃ c1 c2 c3 c4 c5 c6 c7 c8 c9 c10 c11 c12 c13 c14 c15 c16, r = [.val (.scr ns), c1, c2, c3, c4, c5, c6, c7, c8, c9, c10, c11, c12, c13, c14, c15, c16]) r0 h0 (fun r ⟨c1, c2, c3, c4, c5, c6, c7, c8, c9, c10, c11, c12, c13, c14, c15, c16, e⟩ => ⟨_, e⟩)
    fun r k x y ⟨c1, c2, c3, c4, c5, c6, c7, c8, c9, c10, c11, c12, c13, c14, c15, c16, e⟩ => by
      subst e
      refine ⟨⟨rfl, rfl⟩, ?_⟩
      obtain ⟨d3, d4, d5, d6, d7, d8, d9, d10, d11, d12, d13, d14, d15, d16, x', y', e⟩ := mid_ok (ns := ns) (k := .val (.d (.int k))) (c3 := nb1 c3) (c4 := nb1 c4) (c5 := nb1 c5) (c6 := nb1 c6) (c7 := nb1 c7) (c8 := nb1 c8) (c9 := nb1 c9) (c10 := nb1 c10) (c11 := nb1 c11) (c12 := nb1 c12) (c13 := nb1 c13) (c14 := nb1 c14) (c15 := nb1 c15) (c16 := nb1 c16) x y
      refine ⟨⟨[.val (.scr ns), .val (.d (.int k)), .val .bag, d3, d4, d5, d6, d7, d8, d9, d10, d11, d12, d13, d14, d15, d16], some (x', y')⟩, ?_, nb1 (.val (.d (.int k))), nb1 (.val .bag), nb1 d3, nb1 d4, nb1 d5, nb1 d6, nb1 d7, nb1 d8, nb1 d9, nb1 d10, nb1 d11, nb1 d12, nb1 d13, nb1 d14, nb1 d15, nb1 d16, ?_⟩
      · rw [noBag_map]
        exact e
      · rw [noBag_map]
        rfl
def booksL : List PyData := (rangeD 0 17).map fun n => .tuple [.tuple [.str "in", n]]
def fourD : PyData := .tuple [.str "week", .tuple [.str "week", .tuple [.str "week", .tuple [.str "in", .int 1]]]]
def rows1 : List PyData := booksL ++ [fourD, .tuple [.str "week", fourD], .tuple [.str "name", .int 7], .tuple [.str "name", .int (-1)], .tuple [.str "in", .bool true], .tuple (every.take 8), .tuple (every.take 9)]
def rows2 : List PyData := rows1 ++ [.tuple [.tuple [.str "in", .int 2], .tuple [.str "in", .int 1]], .tuple [.tuple [.str "name", .int 0], .tuple [.str "after", .tuple [.str "in", .int 1]]], .tuple []]
def rows3 : List PyData := rows2 ++ [.tuple [.tuple [.str "after", .tuple [.str "in", .int 1]], .tuple [.str "name", .int 0]]]
theorem rows_sm : ∀ v ∈ rows3, Sm 9 v := fun v hv => smB_sm 9 v (List.all_eq_true.mp (show rows3.all (smB 9) = true by decide +kernel) v hv)
theorem rows_len : rows3.length = 28 := by decide +kernel
section
variable {ns : List Int} {c1 c2 c3 c4 c5 c6 c7 c8 c9 c10 c11 c12 c13 c14 c15 c16 : Slot}
theorem step1 : ex (.asg (.tname 8) (.lst (.anil))) ⟨[.val (.scr ns), c1, c2, c3, c4, c5, c6, c7, c8, c9, c10, c11, c12, c13, c14, c15, c16], none⟩ = .ok .nx ⟨[.val (.scr ns), c1, c2, c3, c4, c5, c6, c7, .val (.d (.list [])), c9, c10, c11, c12, c13, c14, c15, c16], none⟩ := by kernel_rfl
theorem step2 : ex (.loop (.tname 9) (.itl (.lst (.acons (.cst (.int 0)) (.acons (.cst (.int 5)) (.acons (.cst (.int 6)) .anil))))) b_law_7) ⟨[.val (.scr ns), c1, c2, c3, c4, c5, c6, c7, .val (.d (.list [])), c9, c10, c11, c12, c13, c14, c15, c16], none⟩ = .ok .nx ⟨[.val (.scr ns), c1, c2, c3, c4, c5, c6, c7, .val (.d (.list every)), .val (.d (.int 6)), .val (.d (.str "now")), .val (.d (.str "week")), .un, c13, c14, c15, c16], none⟩ := by kernel_rfl
theorem step3 : ex (.par [13, 14] (.acons (.tup (.acons (.cst (.str "in")) (.acons (.cst (.int 1)) .anil))) (.acons (c_law_8) .anil))) ⟨[.val (.scr ns), c1, c2, c3, c4, c5, c6, c7, .val (.d (.list every)), .val (.d (.int 6)), .val (.d (.str "now")), .val (.d (.str "week")), .un, c13, c14, c15, c16], none⟩ = .ok .nx ⟨[.val (.scr ns), c1, c2, c3, c4, c5, c6, c7, .val (.d (.list every)), .val (.d (.int 6)), .val (.d (.str "now")), .val (.d (.str "week")), .un, .val (.d (.tuple [.str "in", .int 1])), .val (.d (.list booksL)), .un, c16], none⟩ := by kernel_rfl
theorem step4 : ex (.loop (.tname 5) (.itr1 (.cst (.int 3))) b_law_9) ⟨[.val (.scr ns), c1, c2, c3, c4, c5, c6, c7, .val (.d (.list every)), .val (.d (.int 6)), .val (.d (.str "now")), .val (.d (.str "week")), .un, .val (.d (.tuple [.str "in", .int 1])), .val (.d (.list booksL)), .un, c16], none⟩ = .ok .nx ⟨[.val (.scr ns), c1, c2, c3, c4, .val (.d (.int 2)), c6, c7, .val (.d (.list every)), .val (.d (.int 6)), .val (.d (.str "now")), .val (.d (.str "week")), .un, .val (.d fourD), .val (.d (.list booksL)), .un, c16], none⟩ := by kernel_rfl
theorem step5 : ex (.asgO 16 (.bin .add (.var 14) (.lst (.acons (.var 13) (.acons (.tup (.acons (.cst (.str "week")) (.acons (.var 13) .anil))) (.acons (.tup (.acons (.cst (.str "name")) (.acons (.cst (.int 7)) .anil))) (.acons (.tup (.acons (.cst (.str "name")) (.acons (.neg (.cst (.int 1))) .anil))) (.acons (.tup (.acons (.cst (.str "in")) (.acons (.cst (.bool true)) .anil))) (.acons (.blt .tuple (.acons (.slc (.var 8) .nopart (.acons (.cst (.int 8)) .anil)) .anil)) (.acons (.blt .tuple (.acons (.slc (.var 8) .nopart (.acons (.cst (.int 9)) .anil)) .anil)) .anil)))))))))) ⟨[.val (.scr ns), c1, c2, c3, c4, .val (.d (.int 2)), c6, c7, .val (.d (.list every)), .val (.d (.int 6)), .val (.d (.str "now")), .val (.d (.str "week")), .un, .val (.d fourD), .val (.d (.list booksL)), .un, c16], none⟩ = .ok .nx ⟨[.val (.scr ns), c1, c2, c3, c4, .val (.d (.int 2)), c6, c7, .val (.d (.list every)), .val (.d (.int 6)), .val (.d (.str "now")), .val (.d (.str "week")), .un, .val (.d fourD), .val (.d (.list booksL)), .un, .ol rows1], none⟩ := by kernel_rfl
theorem step6 : ex (.asgO 16 (.bin .add (.var 16) (.lst (.acons (.tup (.acons (.tup (.acons (.cst (.str "in")) (.acons (.cst (.int 2)) .anil))) (.acons (.tup (.acons (.cst (.str "in")) (.acons (.cst (.int 1)) .anil))) .anil))) (.acons (.tup (.acons (.tup (.acons (.cst (.str "name")) (.acons (.cst (.int 0)) .anil))) (.acons (.tup (.acons (.cst (.str "after")) (.acons (.tup (.acons (.cst (.str "in")) (.acons (.cst (.int 1)) .anil))) .anil))) .anil))) (.acons (.tup (.anil)) .anil)))))) ⟨[.val (.scr ns), c1, c2, c3, c4, .val (.d (.int 2)), c6, c7, .val (.d (.list every)), .val (.d (.int 6)), .val (.d (.str "now")), .val (.d (.str "week")), .un, .val (.d fourD), .val (.d (.list booksL)), .un, .ol rows1], none⟩ = .ok .nx ⟨[.val (.scr ns), c1, c2, c3, c4, .val (.d (.int 2)), c6, c7, .val (.d (.list every)), .val (.d (.int 6)), .val (.d (.str "now")), .val (.d (.str "week")), .un, .val (.d fourD), .val (.d (.list booksL)), .un, .ol rows2], none⟩ := by kernel_rfl
theorem step7 : ex (.app 16 (.tup (.acons (.tup (.acons (.cst (.str "after")) (.acons (.tup (.acons (.cst (.str "in")) (.acons (.cst (.int 1)) .anil))) .anil))) (.acons (.tup (.acons (.cst (.str "name")) (.acons (.cst (.int 0)) .anil))) .anil)))) ⟨[.val (.scr ns), c1, c2, c3, c4, .val (.d (.int 2)), c6, c7, .val (.d (.list every)), .val (.d (.int 6)), .val (.d (.str "now")), .val (.d (.str "week")), .un, .val (.d fourD), .val (.d (.list booksL)), .un, .ol rows2], none⟩ = .ok .nx ⟨[.val (.scr ns), c1, c2, c3, c4, .val (.d (.int 2)), c6, c7, .val (.d (.list every)), .val (.d (.int 6)), .val (.d (.str "now")), .val (.d (.str "week")), .un, .val (.d fourD), .val (.d (.list booksL)), .un, .ol rows3], none⟩ := by kernel_rfl
end
theorem last_ok {ns : List Int} {c1 c2 c3 c4 c5 c6 c7 c8 c9 c10 c11 c12 c13 c14 c15 c16 : Slot} : ex (.ret (.and (.cmp .eq (.call "all_habits" g_all_habits (.anil)) (.var 8)) (.one (.cmp .eq ((c_law_10 g__law_told_right)) (.lst (.anil)))))) ⟨[.val (.scr ns), c1, c2, c3, c4, .val (.d (.int 2)), c6, c7, .val (.d (.list every)), .val (.d (.int 6)), .val (.d (.str "now")), .val (.d (.str "week")), .un, .val (.d fourD), .val (.d (.list booksL)), .un, .ol rows3], none⟩ = .ok (.rt (.d (.bool true))) ⟨[.val (.scr ns), c1, c2, c3, c4, .val (.d (.int 2)), .un, c7, .val (.d (.list every)), .val (.d (.int 6)), .val (.d (.str "now")), .val (.d (.str "week")), .un, .val (.d fourD), .val (.d (.list booksL)), .un, .val (.d (.list rows3))], none⟩ := by
  have e1 : g_all_habits [] none = .ok (.d (.list every)) none := by
    have := every_ok none
    simp [g_all_habits, RD.run, ex, ev, evA, t_all_habits, this]
  have e2 := eq_self (x := .list every) (shaped_habs fun x hx => hx)
  have e4 : cmpop .eq (.list []) (.list []) = some true := eq_self (by decide +kernel)
  have h0 : ev (c_law_10 g__law_told_right) ⟨[.val (.scr ns), c1, c2, c3, c4, .val (.d (.int 2)), c6, c7, .val (.d (.list every)), .val (.d (.int 6)), .val (.d (.str "now")), .val (.d (.str "week")), .un, .val (.d fourD), .val (.d (.list booksL)), .un, .val (.d (.list rows3))], none⟩ = .ok (.d (.list (rows3.filter fun _ => false))) ⟨[.val (.scr ns), c1, c2, c3, c4, .val (.d (.int 2)), .un, c7, .val (.d (.list every)), .val (.d (.int 6)), .val (.d (.str "now")), .val (.d (.str "week")), .un, .val (.d fourD), .val (.d (.list booksL)), .un, .val (.d (.list rows3))], none⟩ :=
    comp_filt (i := 6) (rho := [.val (.scr ns), c1, c2, c3, c4, .val (.d (.int 2)), c6, c7, .val (.d (.list every)), .val (.d (.int 6)), .val (.d (.str "now")), .val (.d (.str "week")), .un, .val (.d fourD), .val (.d (.list booksL)), .un, .val (.d (.list rows3))]) (p := fun _ => false) (xs := rows3) (by simp [evI, ev]) (by rw [rows_len]; decide) (by simp) fun x hx => by
      have := right_all (rows_sm x hx) (by decide) none
      simp [ev, evA, this]
  have e3 : ev (c_law_10 g__law_told_right) ⟨[.val (.scr ns), c1, c2, c3, c4, .val (.d (.int 2)), c6, c7, .val (.d (.list every)), .val (.d (.int 6)), .val (.d (.str "now")), .val (.d (.str "week")), .un, .val (.d fourD), .val (.d (.list booksL)), .un, .ol rows3], none⟩ = .ok (.d (.list [])) ⟨[.val (.scr ns), c1, c2, c3, c4, .val (.d (.int 2)), .un, c7, .val (.d (.list every)), .val (.d (.int 6)), .val (.d (.str "now")), .val (.d (.str "week")), .un, .val (.d fourD), .val (.d (.list booksL)), .un, .val (.d (.list rows3))], none⟩ := by
    have z : (rows3.filter fun _ => false) = [] := by simp
    rw [z] at h0
    refine Eq.trans ?_ h0
    have i1 : evI (.itl (.var 16)) ⟨[.val (.scr ns), c1, c2, c3, c4, .val (.d (.int 2)), c6, c7, .val (.d (.list every)), .val (.d (.int 6)), .val (.d (.str "now")), .val (.d (.str "week")), .un, .val (.d fourD), .val (.d (.list booksL)), .un, .ol rows3], none⟩ = .ok rows3 ⟨[.val (.scr ns), c1, c2, c3, c4, .val (.d (.int 2)), c6, c7, .val (.d (.list every)), .val (.d (.int 6)), .val (.d (.str "now")), .val (.d (.str "week")), .un, .val (.d fourD), .val (.d (.list booksL)), .un, .val (.d (.list rows3))], none⟩ := by simp [evI, ev]
    have i2 : evI (.itl (.var 16)) ⟨[.val (.scr ns), c1, c2, c3, c4, .val (.d (.int 2)), c6, c7, .val (.d (.list every)), .val (.d (.int 6)), .val (.d (.str "now")), .val (.d (.str "week")), .un, .val (.d fourD), .val (.d (.list booksL)), .un, .val (.d (.list rows3))], none⟩ = .ok rows3 ⟨[.val (.scr ns), c1, c2, c3, c4, .val (.d (.int 2)), c6, c7, .val (.d (.list every)), .val (.d (.int 6)), .val (.d (.str "now")), .val (.d (.str "week")), .un, .val (.d fourD), .val (.d (.list booksL)), .un, .val (.d (.list rows3))], none⟩ := by simp [evI, ev]
    show ((evI _ _).bind _) = ((evI _ _).bind _)
    rw [i1, i2]
  simp [ex, ev, evA, e1, e2, e3, e4, big]
theorem law_true (ns : List Int) (hn : ns.length ≤ 63) : g_law [.scr ns] none = .ok (.d (.bool true)) none := by
  obtain ⟨rho', hr, e⟩ := walk_ok ns hn [.val (.scr ns), .un, .un, .un, .un, .un, .un, .un, .un, .un, .un, .un, .un, .un, .un, .un, .un] ⟨_, _, _, _, _, _, _, _, _, _, _, _, _, _, _, _, rfl⟩
  obtain ⟨c1, c2, c3, c4, c5, c6, c7, c8, c9, c10, c11, c12, c13, c14, c15, c16, rfl⟩ := hr
  refine run_rt (s' := ⟨[.val (.scr ns), c1, c2, c3, c4, .val (.d (.int 2)), .un, c7, .val (.d (.list every)), .val (.d (.int 6)), .val (.d (.str "now")), .val (.d (.str "week")), .un, .val (.d fourD), .val (.d (.list booksL)), .un, .val (.d (.list rows3))], none⟩) rfl ?_
  unfold t_law
  refine (seq_nx e).trans ?_
  rw [seq_nx step1, seq_nx step2, seq_nx step3, seq_nx step4, seq_nx step5, seq_nx step6, seq_nx step7]
  exact seq_rt (last_ok (c1 := c1) (c2 := c2) (c3 := c3) (c4 := c4) (c5 := c5) (c6 := c6) (c7 := c7) (c8 := c8) (c9 := c9) (c10 := c10) (c11 := c11) (c12 := c12) (c13 := c13) (c14 := c14) (c15 := c15) (c16 := c16))
end K01
set_option Elab.async false
set_option linter.all false
set_option maxRecDepth 100000
set_option maxHeartbeats 4000000
/-! K01A: the law's defs are the trees; printed by gen2.py from the linked T.py. -/
namespace K01
open PySem L2 RD PG
def top (i : Nat) : Stmt := PySem.Challenge.pw_retolddays_k01_habits_phrases_and_books.main.body.getD i (.Pass ⟨0, 0, 0, 0⟩)
/-! is_number -/
theorem sc_is_number : FnScope ["value"] ["value"] (defScope (top 20)) := ⟨rfl, rfl, rfl, by decide +kernel, rfl, by decide +kernel, by decide +kernel⟩
theorem ck_is_number : chkB ["value"] (defScope (top 20)) (t_is_number) (defBody (top 20)) = true := by kernel_rfl
/-! is_from -/
theorem sc_is_from : FnScope ["value", "low", "high"] ["value", "low", "high"] (defScope (top 21)) := ⟨rfl, rfl, rfl, by decide +kernel, rfl, by decide +kernel, by decide +kernel⟩
theorem ck_is_from (g_is_number : G) : chkB ["value", "low", "high"] (defScope (top 21)) (t_is_from g_is_number) (defBody (top 21)) = true := by kernel_rfl
/-! is_word -/
theorem sc_is_word : FnScope ["value", "some"] ["value", "some"] (defScope (top 22)) := ⟨rfl, rfl, rfl, by decide +kernel, rfl, by decide +kernel, by decide +kernel⟩
theorem ck_is_word : chkB ["value", "some"] (defScope (top 22)) (t_is_word) (defBody (top 22)) = true := by kernel_rfl
/-! is_habit -/
theorem sc_is_habit : FnScope ["value"] ["value"] (defScope (top 23)) := ⟨rfl, rfl, rfl, by decide +kernel, rfl, by decide +kernel, by decide +kernel⟩
theorem ck_is_habit (g_is_number : G) (g_is_word : G) : chkB ["value"] (defScope (top 23)) (t_is_habit g_is_number g_is_word) (defBody (top 23)) = true := by kernel_rfl
/-! is_lot -/
theorem sc_is_lot : FnScope ["value", "habit"] ["value"] (defScope (top 24)) := ⟨rfl, rfl, rfl, by decide +kernel, rfl, by decide +kernel, by decide +kernel⟩
theorem ck_is_lot (g_is_habit : G) : chkB ["value", "habit"] (defScope (top 24)) (t_is_lot g_is_habit) (defBody (top 24)) = true := by kernel_rfl
/-! is_phrase_of -/
theorem sc_is_phrase_of : FnScope ["value", "most"] ["value", "most"] (defScope (top 25)) := ⟨rfl, rfl, rfl, by decide +kernel, rfl, by decide +kernel, by decide +kernel⟩
theorem ck_is_phrase_of (g_is_phrase_of : G) (g_is_from : G) : chkB ["value", "most"] (defScope (top 25)) (t_is_phrase_of g_is_phrase_of g_is_from) (defBody (top 25)) = true := by kernel_rfl
/-! is_phrase -/
theorem sc_is_phrase : FnScope ["value"] ["value"] (defScope (top 26)) := ⟨rfl, rfl, rfl, by decide +kernel, rfl, by decide +kernel, by decide +kernel⟩
theorem ck_is_phrase (g_is_phrase_of : G) : chkB ["value"] (defScope (top 26)) (t_is_phrase g_is_phrase_of) (defBody (top 26)) = true := by kernel_rfl
/-! words_of -/
theorem sc_words_of : FnScope ["phrase"] ["phrase"] (defScope (top 27)) := ⟨rfl, rfl, rfl, by decide +kernel, rfl, by decide +kernel, by decide +kernel⟩
theorem ck_words_of (g_words_of : G) : chkB ["phrase"] (defScope (top 27)) (t_words_of g_words_of) (defBody (top 27)) = true := by kernel_rfl
/-! is_before -/
theorem sc_is_before : FnScope ["one", "other"] ["one", "other"] (defScope (top 28)) := ⟨rfl, rfl, rfl, by decide +kernel, rfl, by decide +kernel, by decide +kernel⟩
theorem ck_is_before (g_is_before : G) : chkB ["one", "other"] (defScope (top 28)) (t_is_before g_is_before) (defBody (top 28)) = true := by kernel_rfl
/-! are_ascending -/
theorem sc_are_ascending : FnScope ["phrases", "one", "other"] ["phrases"] (defScope (top 29)) := ⟨rfl, rfl, rfl, by decide +kernel, rfl, by decide +kernel, by decide +kernel⟩
theorem ck_are_ascending (g_is_before : G) : chkB ["phrases", "one", "other"] (defScope (top 29)) (t_are_ascending g_is_before) (defBody (top 29)) = true := by kernel_rfl
/-! is_book -/
theorem sc_is_book : FnScope ["value", "phrase"] ["value"] (defScope (top 30)) := ⟨rfl, rfl, rfl, by decide +kernel, rfl, by decide +kernel, by decide +kernel⟩
theorem ck_is_book (g_is_phrase : G) (g_are_ascending : G) : chkB ["value", "phrase"] (defScope (top 30)) (t_is_book g_is_phrase g_are_ascending) (defBody (top 30)) = true := by kernel_rfl
/-! need_phrase -/
theorem sc_need_phrase : FnScope ["value"] ["value"] (defScope (top 31)) := ⟨rfl, rfl, rfl, by decide +kernel, rfl, by decide +kernel, by decide +kernel⟩
theorem ck_need_phrase (g_is_phrase : G) : chkB ["value"] (defScope (top 31)) (t_need_phrase g_is_phrase) (defBody (top 31)) = true := by kernel_rfl
/-! all_habits_there_are -/
theorem sc_all_habits_there_are : FnScope ["found", "begin", "own", "word", "count"] [] (defScope (top 32)) := ⟨rfl, rfl, rfl, by decide +kernel, rfl, by decide +kernel, by decide +kernel⟩
theorem ck_all_habits_there_are : chkB ["found", "begin", "own", "word", "count"] (defScope (top 32)) (t_all_habits_there_are) (defBody (top 32)) = true := by kernel_rfl
/-! all_habits -/
theorem sc_all_habits : FnScope [] [] (defScope (top 33)) := ⟨rfl, rfl, rfl, by decide +kernel, rfl, by decide +kernel, by decide +kernel⟩
theorem ck_all_habits (g_all_habits_there_are : G) : chkB [] (defScope (top 33)) (t_all_habits g_all_habits_there_are) (defBody (top 33)) = true := by kernel_rfl
/-! words -/
theorem sc_words : FnScope ["phrase"] ["phrase"] (defScope (top 34)) := ⟨rfl, rfl, rfl, by decide +kernel, rfl, by decide +kernel, by decide +kernel⟩
theorem ck_words (g_need_phrase : G) (g_words_of : G) : chkB ["phrase"] (defScope (top 34)) (t_words g_need_phrase g_words_of) (defBody (top 34)) = true := by kernel_rfl
/-! _law_bag -/
theorem sc__law_bag : FnScope ["_law_script", "_law_k", "_law_cell"] ["_law_script", "_law_k"] (defScope (top 36)) := ⟨rfl, rfl, rfl, by decide +kernel, rfl, by decide +kernel, by decide +kernel⟩
theorem ck__law_bag : chkB ["_law_script", "_law_k", "_law_cell"] (defScope (top 36)) (t__law_bag) (defBody (top 36)) = true := by kernel_rfl
/-! _law_take -/
theorem sc__law_take : FnScope ["_law_bag_here", "_law_many", "_law_found", "_law_led"] ["_law_bag_here", "_law_many"] (defScope (top 37)) := ⟨rfl, rfl, rfl, by decide +kernel, rfl, by decide +kernel, by decide +kernel⟩
theorem ck__law_take : chkB ["_law_bag_here", "_law_many", "_law_found", "_law_led"] (defScope (top 37)) (t__law_take) (defBody (top 37)) = true := by kernel_rfl
/-! _law_of -/
theorem sc__law_of : FnScope ["_law_bag_here", "_law_some"] ["_law_bag_here", "_law_some"] (defScope (top 38)) := ⟨rfl, rfl, rfl, by decide +kernel, rfl, by decide +kernel, by decide +kernel⟩
theorem ck__law_of (g__law_take : G) : chkB ["_law_bag_here", "_law_some"] (defScope (top 38)) (t__law_of g__law_take) (defBody (top 38)) = true := by kernel_rfl
/-! _law_habit -/
theorem sc__law_habit : FnScope ["_law_bag_here", "_law_begin", "_law_own"] ["_law_bag_here"] (defScope (top 39)) := ⟨rfl, rfl, rfl, by decide +kernel, rfl, by decide +kernel, by decide +kernel⟩
theorem ck__law_habit (g__law_of : G) : chkB ["_law_bag_here", "_law_begin", "_law_own"] (defScope (top 39)) (t__law_habit g__law_of) (defBody (top 39)) = true := by kernel_rfl
/-! _law_lot -/
theorem sc__law_lot : FnScope ["_law_bag_here", "_law_most", "_law_turn"] ["_law_bag_here", "_law_most"] (defScope (top 40)) := ⟨rfl, rfl, rfl, by decide +kernel, rfl, by decide +kernel, by decide +kernel⟩
theorem ck__law_lot (g__law_take : G) (g__law_habit : G) : chkB ["_law_bag_here", "_law_most", "_law_turn"] (defScope (top 40)) (t__law_lot g__law_take g__law_habit) (defBody (top 40)) = true := by kernel_rfl
/-! _law_phrase -/
theorem sc__law_phrase : FnScope ["_law_bag_here", "_law_most", "_law_word"] ["_law_bag_here", "_law_most"] (defScope (top 41)) := ⟨rfl, rfl, rfl, by decide +kernel, rfl, by decide +kernel, by decide +kernel⟩
theorem ck__law_phrase (g__law_take : G) (g__law_phrase : G) (g__law_of : G) : chkB ["_law_bag_here", "_law_most", "_law_word"] (defScope (top 41)) (t__law_phrase g__law_take g__law_phrase g__law_of) (defBody (top 41)) = true := by kernel_rfl
/-! _law_words -/
theorem sc__law_words : FnScope ["_law_phrase_here", "_law_terms", "_law_number"] ["_law_phrase_here"] (defScope (top 43)) := ⟨rfl, rfl, rfl, by decide +kernel, rfl, by decide +kernel, by decide +kernel⟩
theorem ck__law_words (g__law_words : G) : chkB ["_law_phrase_here", "_law_terms", "_law_number"] (defScope (top 43)) (t__law_words g__law_words) (defBody (top 43)) = true := by kernel_rfl
/-! _law_made__t -/
theorem sc__law_made__t : FnScope ["_law_terms", "_law_number", "_law_found", "_law_word"] ["_law_terms", "_law_number"] (defScope (top 45)) := ⟨rfl, rfl, rfl, by decide +kernel, rfl, by decide +kernel, by decide +kernel⟩
theorem ck__law_made__t : chkB ["_law_terms", "_law_number", "_law_found", "_law_word"] (defScope (top 45)) (t__law_made__t) (defBody (top 45)) = true := by kernel_rfl
/-! _law_sorted -/
theorem sc__law_sorted : FnScope ["_law_phrases", "_law_rows", "_law_one", "_law_terms", "_law_number"] ["_law_phrases"] (defScope (top 44)) := ⟨rfl, rfl, rfl, by decide +kernel, rfl, by decide +kernel, by decide +kernel⟩
theorem ck__law_sorted (g__law_words : G) (g__law_made__t : G) : chkB ["_law_phrases", "_law_rows", "_law_one", "_law_terms", "_law_number"] (defScope (top 44)) (t__law_sorted g__law_words g__law_made__t) (defBody (top 44)) = true := by kernel_rfl
/-! _law_book -/
theorem sc__law_book : FnScope ["_law_bag_here", "_law_most", "_law_wished", "_law_found", "_law_turn", "_law_way", "_law_one"] ["_law_bag_here", "_law_most"] (defScope (top 42)) := ⟨rfl, rfl, rfl, by decide +kernel, rfl, by decide +kernel, by decide +kernel⟩
theorem ck__law_book (g__law_take : G) (g__law_phrase : G) (g__law_of : G) (g__law_sorted : G) : chkB ["_law_bag_here", "_law_most", "_law_wished", "_law_found", "_law_turn", "_law_way", "_law_one"] (defScope (top 42)) (t__law_book g__law_take g__law_phrase g__law_of g__law_sorted) (defBody (top 42)) = true := by kernel_rfl
/-! _law_made -/
theorem sc__law_made : FnScope ["_law_terms", "_law_number", "_law_found", "_law_word"] ["_law_terms", "_law_number"] (defScope (top 45)) := ⟨rfl, rfl, rfl, by decide +kernel, rfl, by decide +kernel, by decide +kernel⟩
theorem ck__law_made : chkB ["_law_terms", "_law_number", "_law_found", "_law_word"] (defScope (top 45)) (t__law_made) (defBody (top 45)) = true := by kernel_rfl
/-! _law_any_value -/
theorem sc__law_any_value : FnScope ["_law_bag_here", "_law_depth", "_law_kind", "_law_some", "_law_items", "_law_k"] ["_law_bag_here", "_law_depth"] (defScope (top 46)) := ⟨rfl, rfl, rfl, by decide +kernel, rfl, by decide +kernel, by decide +kernel⟩
theorem ck__law_any_value (g__law_take : G) (g__law_of : G) (g__law_any_value : G) : chkB ["_law_bag_here", "_law_depth", "_law_kind", "_law_some", "_law_items", "_law_k"] (defScope (top 46)) (t__law_any_value g__law_take g__law_of g__law_any_value) (defBody (top 46)) = true := by kernel_rfl
/-! _law_spoiled -/
theorem sc__law_spoiled : FnScope ["_law_bag_here", "_law_value", "_law_some", "_law_at", "_law_way"] ["_law_bag_here", "_law_value"] (defScope (top 47)) := ⟨rfl, rfl, rfl, by decide +kernel, rfl, by decide +kernel, by decide +kernel⟩
theorem ck__law_spoiled (g__law_take : G) (g__law_any_value : G) (g__law_of : G) (g__law_spoiled : G) : chkB ["_law_bag_here", "_law_value", "_law_some", "_law_at", "_law_way"] (defScope (top 47)) (t__law_spoiled g__law_take g__law_any_value g__law_of g__law_spoiled) (defBody (top 47)) = true := by kernel_rfl
/-! _law_is_int -/
theorem sc__law_is_int : FnScope ["_law_value", "_law_low", "_law_high"] ["_law_value", "_law_low", "_law_high"] (defScope (top 48)) := ⟨rfl, rfl, rfl, by decide +kernel, rfl, by decide +kernel, by decide +kernel⟩
theorem ck__law_is_int : chkB ["_law_value", "_law_low", "_law_high"] (defScope (top 48)) (t__law_is_int) (defBody (top 48)) = true := by kernel_rfl
/-! _law_among -/
theorem sc__law_among : FnScope ["_law_value", "_law_some"] ["_law_value", "_law_some"] (defScope (top 49)) := ⟨rfl, rfl, rfl, by decide +kernel, rfl, by decide +kernel, by decide +kernel⟩
theorem ck__law_among : chkB ["_law_value", "_law_some"] (defScope (top 49)) (t__law_among) (defBody (top 49)) = true := by kernel_rfl
/-! _law_is_habit -/
theorem sc__law_is_habit : FnScope ["_law_value"] ["_law_value"] (defScope (top 50)) := ⟨rfl, rfl, rfl, by decide +kernel, rfl, by decide +kernel, by decide +kernel⟩
theorem ck__law_is_habit (g__law_is_int : G) (g__law_among : G) : chkB ["_law_value"] (defScope (top 50)) (t__law_is_habit g__law_is_int g__law_among) (defBody (top 50)) = true := by kernel_rfl
/-! _law_is_phrase -/
theorem sc__law_is_phrase : FnScope ["_law_value", "_law_most"] ["_law_value", "_law_most"] (defScope (top 51)) := ⟨rfl, rfl, rfl, by decide +kernel, rfl, by decide +kernel, by decide +kernel⟩
theorem ck__law_is_phrase (g__law_is_phrase : G) (g__law_is_int : G) : chkB ["_law_value", "_law_most"] (defScope (top 51)) (t__law_is_phrase g__law_is_phrase g__law_is_int) (defBody (top 51)) = true := by kernel_rfl
/-! _law_is_lot -/
theorem sc__law_is_lot : FnScope ["_law_value", "_law_one", "_law_at"] ["_law_value"] (defScope (top 52)) := ⟨rfl, rfl, rfl, by decide +kernel, rfl, by decide +kernel, by decide +kernel⟩
theorem ck__law_is_lot (g__law_is_habit : G) : chkB ["_law_value", "_law_one", "_law_at"] (defScope (top 52)) (t__law_is_lot g__law_is_habit) (defBody (top 52)) = true := by kernel_rfl
/-! _law_sorted__t -/
theorem sc__law_sorted__t : FnScope ["_law_phrases", "_law_rows", "_law_one", "_law_terms", "_law_number"] ["_law_phrases"] (defScope (top 44)) := ⟨rfl, rfl, rfl, by decide +kernel, rfl, by decide +kernel, by decide +kernel⟩
theorem ck__law_sorted__t (g__law_words : G) (g__law_made__t : G) : chkB ["_law_phrases", "_law_rows", "_law_one", "_law_terms", "_law_number"] (defScope (top 44)) (t__law_sorted__t g__law_words g__law_made__t) (defBody (top 44)) = true := by kernel_rfl
/-! _law_is_book -/
theorem sc__law_is_book : FnScope ["_law_value", "_law_one"] ["_law_value"] (defScope (top 53)) := ⟨rfl, rfl, rfl, by decide +kernel, rfl, by decide +kernel, by decide +kernel⟩
theorem ck__law_is_book (g__law_is_phrase : G) (g__law_sorted__t : G) : chkB ["_law_value", "_law_one"] (defScope (top 53)) (t__law_is_book g__law_is_phrase g__law_sorted__t) (defBody (top 53)) = true := by kernel_rfl
/-! _law_told_right -/
theorem sc__law_told_right : FnScope ["_law_value", "_law_told", "_law_one"] ["_law_value"] (defScope (top 54)) := ⟨rfl, rfl, rfl, by decide +kernel, rfl, by decide +kernel, by decide +kernel⟩
theorem ck__law_told_right (g_is_book : G) (g_is_phrase : G) (g_is_lot : G) (g_is_habit : G) (g__law_is_book : G) (g__law_is_phrase : G) (g__law_is_lot : G) (g__law_is_habit : G) : chkB ["_law_value", "_law_told", "_law_one"] (defScope (top 54)) (t__law_told_right g_is_book g_is_phrase g_is_lot g_is_habit g__law_is_book g__law_is_phrase g__law_is_lot g__law_is_habit) (defBody (top 54)) = true := by kernel_rfl
/-! law -/
theorem sc_law : FnScope ["_law_script", "_law_k", "_law_bag_here", "_law_said", "_law_some", "_law_turn", "_law_value", "_law_more", "_law_due", "_law_begin", "_law_own", "_law_word", "_law_count", "_law_four", "_law_books", "_law_number", "_law_rows"] ["_law_script"] (defScope (top 55)) := ⟨rfl, rfl, rfl, by decide +kernel, rfl, by decide +kernel, by decide +kernel⟩
theorem ck_law (g__law_bag : G) (g__law_phrase : G) (g__law_book : G) (g__law_lot : G) (g__law_habit : G) (g__law_of : G) (g__law_spoiled : G) (g__law_any_value : G) (g__law_told_right : G) (g_words : G) (g__law_words : G) (g_all_habits : G) : chkB ["_law_script", "_law_k", "_law_bag_here", "_law_said", "_law_some", "_law_turn", "_law_value", "_law_more", "_law_due", "_law_begin", "_law_own", "_law_word", "_law_count", "_law_four", "_law_books", "_law_number", "_law_rows"] (defScope (top 55)) (K01.t_law g__law_bag g__law_phrase g__law_book g__law_lot g__law_habit g__law_of g__law_spoiled g__law_any_value g__law_told_right g_words g__law_words g_all_habits) (defBody (top 55)) = true := by kernel_rfl
/-! ### the top -/
def gl : List (Str × PyData) := [("NAME", k_NAME), ("THIS", k_THIS), ("NEXT", k_NEXT), ("LAST", k_LAST), ("IN", k_IN), ("AFTER", k_AFTER), ("BEFORE", k_BEFORE), ("WEEK", k_WEEK), ("NAMED", k_NAMED), ("AROUND", k_AROUND), ("BEGINS", k_BEGINS), ("OWN", k_OWN), ("NEXTS", k_NEXTS), ("COUNTS", k_COUNTS), ("MOST_WORDS", k_MOST_WORDS), ("MOST_DAYS", k_MOST_DAYS)]
def d_is_number : He.DefD := ⟨("is_number", none), "is_number", "is_number", defArgs (top 20), defBody (top 20), defScope (top 20), [], []⟩
def d_is_from : He.DefD := ⟨("is_from", none), "is_from", "is_from", defArgs (top 21), defBody (top 21), defScope (top 21), [], []⟩
def d_is_word : He.DefD := ⟨("is_word", none), "is_word", "is_word", defArgs (top 22), defBody (top 22), defScope (top 22), [], []⟩
def d_is_habit : He.DefD := ⟨("is_habit", none), "is_habit", "is_habit", defArgs (top 23), defBody (top 23), defScope (top 23), [], []⟩
def d_is_lot : He.DefD := ⟨("is_lot", none), "is_lot", "is_lot", defArgs (top 24), defBody (top 24), defScope (top 24), [], []⟩
def d_is_phrase_of : He.DefD := ⟨("is_phrase_of", none), "is_phrase_of", "is_phrase_of", defArgs (top 25), defBody (top 25), defScope (top 25), [], []⟩
def d_is_phrase : He.DefD := ⟨("is_phrase", none), "is_phrase", "is_phrase", defArgs (top 26), defBody (top 26), defScope (top 26), [], []⟩
def d_words_of : He.DefD := ⟨("words_of", none), "words_of", "words_of", defArgs (top 27), defBody (top 27), defScope (top 27), [], []⟩
def d_is_before : He.DefD := ⟨("is_before", none), "is_before", "is_before", defArgs (top 28), defBody (top 28), defScope (top 28), [], []⟩
def d_are_ascending : He.DefD := ⟨("are_ascending", none), "are_ascending", "are_ascending", defArgs (top 29), defBody (top 29), defScope (top 29), [], []⟩
def d_is_book : He.DefD := ⟨("is_book", none), "is_book", "is_book", defArgs (top 30), defBody (top 30), defScope (top 30), [], []⟩
def d_need_phrase : He.DefD := ⟨("need_phrase", none), "need_phrase", "need_phrase", defArgs (top 31), defBody (top 31), defScope (top 31), [], []⟩
def d_all_habits_there_are : He.DefD := ⟨("all_habits_there_are", none), "all_habits_there_are", "all_habits_there_are", defArgs (top 32), defBody (top 32), defScope (top 32), [], []⟩
def d_all_habits : He.DefD := ⟨("all_habits", none), "all_habits", "all_habits", defArgs (top 33), defBody (top 33), defScope (top 33), [], []⟩
def d_words : He.DefD := ⟨("words", none), "words", "words", defArgs (top 34), defBody (top 34), defScope (top 34), [], []⟩
def d__law_bag : He.DefD := ⟨("_law_bag", none), "_law_bag", "_law_bag", defArgs (top 36), defBody (top 36), defScope (top 36), [], []⟩
def d__law_take : He.DefD := ⟨("_law_take", none), "_law_take", "_law_take", defArgs (top 37), defBody (top 37), defScope (top 37), [], []⟩
def d__law_of : He.DefD := ⟨("_law_of", none), "_law_of", "_law_of", defArgs (top 38), defBody (top 38), defScope (top 38), [], []⟩
def d__law_habit : He.DefD := ⟨("_law_habit", none), "_law_habit", "_law_habit", defArgs (top 39), defBody (top 39), defScope (top 39), [], []⟩
def d__law_lot : He.DefD := ⟨("_law_lot", none), "_law_lot", "_law_lot", defArgs (top 40), defBody (top 40), defScope (top 40), [], []⟩
def d__law_phrase : He.DefD := ⟨("_law_phrase", none), "_law_phrase", "_law_phrase", defArgs (top 41), defBody (top 41), defScope (top 41), [], []⟩
def d__law_words : He.DefD := ⟨("_law_words", none), "_law_words", "_law_words", defArgs (top 43), defBody (top 43), defScope (top 43), [], []⟩
def d__law_sorted : He.DefD := ⟨("_law_sorted", none), "_law_sorted", "_law_sorted", defArgs (top 44), defBody (top 44), defScope (top 44), [], []⟩
def d__law_book : He.DefD := ⟨("_law_book", none), "_law_book", "_law_book", defArgs (top 42), defBody (top 42), defScope (top 42), [], []⟩
def d__law_made : He.DefD := ⟨("_law_made", none), "_law_made", "_law_made", defArgs (top 45), defBody (top 45), defScope (top 45), [], []⟩
def d__law_any_value : He.DefD := ⟨("_law_any_value", none), "_law_any_value", "_law_any_value", defArgs (top 46), defBody (top 46), defScope (top 46), [], []⟩
def d__law_spoiled : He.DefD := ⟨("_law_spoiled", none), "_law_spoiled", "_law_spoiled", defArgs (top 47), defBody (top 47), defScope (top 47), [], []⟩
def d__law_is_int : He.DefD := ⟨("_law_is_int", none), "_law_is_int", "_law_is_int", defArgs (top 48), defBody (top 48), defScope (top 48), [], []⟩
def d__law_among : He.DefD := ⟨("_law_among", none), "_law_among", "_law_among", defArgs (top 49), defBody (top 49), defScope (top 49), [], []⟩
def d__law_is_habit : He.DefD := ⟨("_law_is_habit", none), "_law_is_habit", "_law_is_habit", defArgs (top 50), defBody (top 50), defScope (top 50), [], []⟩
def d__law_is_phrase : He.DefD := ⟨("_law_is_phrase", none), "_law_is_phrase", "_law_is_phrase", defArgs (top 51), defBody (top 51), defScope (top 51), [], []⟩
def d__law_is_lot : He.DefD := ⟨("_law_is_lot", none), "_law_is_lot", "_law_is_lot", defArgs (top 52), defBody (top 52), defScope (top 52), [], []⟩
def d__law_is_book : He.DefD := ⟨("_law_is_book", none), "_law_is_book", "_law_is_book", defArgs (top 53), defBody (top 53), defScope (top 53), [], []⟩
def d__law_told_right : He.DefD := ⟨("_law_told_right", none), "_law_told_right", "_law_told_right", defArgs (top 54), defBody (top 54), defScope (top 54), [], []⟩
def d_law : He.DefD := ⟨("law", none), "law", "law", defArgs (top 55), defBody (top 55), defScope (top 55), [], []⟩
def fn : List He.DefD := [d_is_number, d_is_from, d_is_word, d_is_habit, d_is_lot, d_is_phrase_of, d_is_phrase, d_words_of, d_is_before, d_are_ascending, d_is_book, d_need_phrase, d_all_habits_there_are, d_all_habits, d_words, d__law_bag, d__law_take, d__law_of, d__law_habit, d__law_lot, d__law_phrase, d__law_words, d__law_sorted, d__law_book, d__law_made, d__law_any_value, d__law_spoiled, d__law_is_int, d__law_among, d__law_is_habit, d__law_is_phrase, d__law_is_lot, d__law_is_book, d__law_told_right, d_law]
def fa : List He.Fa := [.glo "is_number", .glo "is_from", .glo "is_word", .glo "is_habit", .glo "is_lot", .glo "is_phrase_of", .glo "is_phrase", .glo "words_of", .glo "is_before", .glo "are_ascending", .glo "is_book", .glo "need_phrase", .glo "all_habits_there_are", .glo "all_habits", .glo "words", .glo "_law_bag", .glo "_law_take", .glo "_law_of", .glo "_law_habit", .glo "_law_lot", .glo "_law_phrase", .glo "_law_words", .glo "_law_sorted", .glo "_law_book", .glo "_law_made", .glo "_law_any_value", .glo "_law_spoiled", .glo "_law_is_int", .glo "_law_among", .glo "_law_is_habit", .glo "_law_is_phrase", .glo "_law_is_lot", .glo "_law_is_book", .glo "_law_told_right", .glo "law", .glo "InvalidPhrase", .exc "InvalidPhrase", .exm "InvalidPhrase" "InvalidPhrase" true] ++ bltNames.map He.Fa.free
abbrev RowR : PySem.W.OpenRow := PySem.W.OpenLaw.row PySem.Challenge.rw_retolddays_k01_habits_phrases_and_books
abbrev hk : PySem.W.Hook := hookX 5 fa gl fn
def ob (s : PySem.W.SharedT) : He.AlD := obsXG 5 fa gl fn (HandSHeadRun.getT s)
theorem ob_eq (s : PySem.W.SharedT) : ob s = hk.obs s.abs := obsXG_eq (HandSHeadRun.getT_eq s)
def loose0 : List Str := ["DayError", "InvalidPhrase", "NAME", "THIS", "NEXT", "LAST", "IN", "AFTER", "BEFORE", "WEEK", "NAMED", "AROUND", "BEGINS", "OWN", "NEXTS", "COUNTS", "MOST_WORDS", "MOST_DAYS", "is_number", "is_from", "is_word", "is_habit", "is_lot", "is_phrase_of", "is_phrase"]
def loose1 : List Str := ["words_of", "is_before", "are_ascending", "is_book", "need_phrase", "all_habits_there_are", "all_habits", "words", "_law_bag", "_law_take", "_law_of", "_law_habit", "_law_lot", "_law_phrase", "_law_book", "_law_words", "_law_sorted", "_law_made", "_law_any_value", "_law_spoiled", "_law_is_int", "_law_among", "_law_is_habit", "_law_is_phrase", "_law_is_lot"]
def loose2 : List Str := ["_law_is_book", "_law_told_right"]
def loose : List Str := loose0 ++ loose1 ++ loose2
theorem run_top (w : World) : HandSHeadRun.RunEq RowR (PySem.W.view RowR.prog [55]) hk ob 8000 loose w := by
  intro os
  kernel_rfl
section
variable {P : Program} {w : World} {K : PySem.W.Frag} {mg : Str → Option Value} {base h : Heap}
theorem blt_ok (X : K.In h) (G : h.Ns mainGlobals mg) (c : SaysX fa gl fn K) : BltOk mg := by
  intro x hx
  have hc := c.old
  have hall : ∀ y ∈ bltNames, (He.Fa.free y) ∈ fa := fun y hy => List.mem_append_right _ (List.mem_map_of_mem hy)
  obtain ⟨i, hi⟩ := List.getElem?_of_mem (hall x hx)
  exact He.free_ok X G (hc.fact i hi)
theorem exc_InvalidPhrase (X : K.In h) (G : h.Ns mainGlobals mg) (c : SaysX fa gl fn K) : ExcOk K mg "InvalidPhrase" := by
  obtain ⟨e1, e2, e3, e4⟩ := He.exc_ok (c.old.fact 36 (f := .exc "InvalidPhrase") rfl)
  exact ⟨_, He.glo_ok X G (c.old.fact 35 (f := .glo "InvalidPhrase") rfl), e1, e2, e3, e4, He.exm_ok (c.old.fact 37 (f := .exm "InvalidPhrase" "InvalidPhrase" true) rfl)⟩
theorem fun_is_number (c : SaysX fa gl fn K) : ∃ fd, FunD K "is_number" "is_number" (defArgs (top 20)) (defBody (top 20)) (defScope (top 20)) [] [] (He.ga K "is_number") fd ∧ Binds K fd ["value"] [] := by
  obtain ⟨fd, F⟩ := c.old.def_ 0 (d := d_is_number) rfl
  exact ⟨fd, F, FunD.bindsN F fun _ _ _ _ _ _ us hl => match us, hl with | [_], _ => rfl⟩
theorem mg_is_number (X : K.In h) (G : h.Ns mainGlobals mg) (c : SaysX fa gl fn K) : mg "is_number" = some (.ref (He.ga K "is_number")) := He.glo_ok X G (c.old.fact 0 (f := .glo "is_number") rfl)
theorem gf_is_number (X : K.In h) (G : h.Ns mainGlobals mg) (c : SaysX fa gl fn K) : GF P w K mg base 1 1 "is_number" g_is_number := by
  obtain ⟨fd, F, b⟩ := fun_is_number c
  refine ⟨_, fd, ["value"], 1, Nat.le_refl _, rfl, mg_is_number X G c, F.kp, b, ?_⟩
  exact def_ok (lv := 0) F sc_is_number (blt_ok X G c) _ (by repeat' (first | exact True.intro | refine And.intro ?_ ?_)) (ck_is_number)
theorem fun_is_from (c : SaysX fa gl fn K) : ∃ fd, FunD K "is_from" "is_from" (defArgs (top 21)) (defBody (top 21)) (defScope (top 21)) [] [] (He.ga K "is_from") fd ∧ Binds K fd ["value", "low", "high"] [] := by
  obtain ⟨fd, F⟩ := c.old.def_ 1 (d := d_is_from) rfl
  exact ⟨fd, F, FunD.bindsN F fun _ _ _ _ _ _ us hl => match us, hl with | [_, _, _], _ => rfl⟩
theorem mg_is_from (X : K.In h) (G : h.Ns mainGlobals mg) (c : SaysX fa gl fn K) : mg "is_from" = some (.ref (He.ga K "is_from")) := He.glo_ok X G (c.old.fact 1 (f := .glo "is_from") rfl)
theorem gf_is_from (X : K.In h) (G : h.Ns mainGlobals mg) (c : SaysX fa gl fn K) : GF P w K mg base 2 3 "is_from" g_is_from := by
  obtain ⟨fd, F, b⟩ := fun_is_from c
  refine ⟨_, fd, ["value", "low", "high"], 2, Nat.le_refl _, rfl, mg_is_from X G c, F.kp, b, ?_⟩
  have h_is_number := (gf_is_number (P := P) (w := w) (base := base) X G c).mono (by decide : 1 ≤ 1)
  exact def_ok (lv := 1) F sc_is_from (blt_ok X G c) _ (by repeat' (first | exact True.intro | refine And.intro ?_ ?_ | exact h_is_number)) (ck_is_from _)
theorem fun_is_word (c : SaysX fa gl fn K) : ∃ fd, FunD K "is_word" "is_word" (defArgs (top 22)) (defBody (top 22)) (defScope (top 22)) [] [] (He.ga K "is_word") fd ∧ Binds K fd ["value", "some"] [] := by
  obtain ⟨fd, F⟩ := c.old.def_ 2 (d := d_is_word) rfl
  exact ⟨fd, F, FunD.bindsN F fun _ _ _ _ _ _ us hl => match us, hl with | [_, _], _ => rfl⟩
theorem mg_is_word (X : K.In h) (G : h.Ns mainGlobals mg) (c : SaysX fa gl fn K) : mg "is_word" = some (.ref (He.ga K "is_word")) := He.glo_ok X G (c.old.fact 2 (f := .glo "is_word") rfl)
theorem gf_is_word (X : K.In h) (G : h.Ns mainGlobals mg) (c : SaysX fa gl fn K) : GF P w K mg base 1 2 "is_word" g_is_word := by
  obtain ⟨fd, F, b⟩ := fun_is_word c
  refine ⟨_, fd, ["value", "some"], 1, Nat.le_refl _, rfl, mg_is_word X G c, F.kp, b, ?_⟩
  exact def_ok (lv := 0) F sc_is_word (blt_ok X G c) _ (by repeat' (first | exact True.intro | refine And.intro ?_ ?_)) (ck_is_word)
theorem fun_is_habit (c : SaysX fa gl fn K) : ∃ fd, FunD K "is_habit" "is_habit" (defArgs (top 23)) (defBody (top 23)) (defScope (top 23)) [] [] (He.ga K "is_habit") fd ∧ Binds K fd ["value"] [] := by
  obtain ⟨fd, F⟩ := c.old.def_ 3 (d := d_is_habit) rfl
  exact ⟨fd, F, FunD.bindsN F fun _ _ _ _ _ _ us hl => match us, hl with | [_], _ => rfl⟩
theorem mg_is_habit (X : K.In h) (G : h.Ns mainGlobals mg) (c : SaysX fa gl fn K) : mg "is_habit" = some (.ref (He.ga K "is_habit")) := He.glo_ok X G (c.old.fact 3 (f := .glo "is_habit") rfl)
theorem gf_is_habit (X : K.In h) (G : h.Ns mainGlobals mg) (c : SaysX fa gl fn K) : GF P w K mg base 2 1 "is_habit" g_is_habit := by
  obtain ⟨fd, F, b⟩ := fun_is_habit c
  refine ⟨_, fd, ["value"], 2, Nat.le_refl _, rfl, mg_is_habit X G c, F.kp, b, ?_⟩
  have h_is_number := (gf_is_number (P := P) (w := w) (base := base) X G c).mono (by decide : 1 ≤ 1)
  have h_is_word := (gf_is_word (P := P) (w := w) (base := base) X G c).mono (by decide : 1 ≤ 1)
  exact def_ok (lv := 1) F sc_is_habit (blt_ok X G c) _ (by repeat' (first | exact True.intro | refine And.intro ?_ ?_ | exact h_is_number | exact h_is_word | exact c.glob X G 10 (q := ("BEGINS", k_BEGINS)) rfl | exact c.glob X G 11 (q := ("OWN", k_OWN)) rfl | exact c.glob X G 12 (q := ("NEXTS", k_NEXTS)) rfl | exact c.glob X G 13 (q := ("COUNTS", k_COUNTS)) rfl)) (ck_is_habit _ _)
theorem fun_is_lot (c : SaysX fa gl fn K) : ∃ fd, FunD K "is_lot" "is_lot" (defArgs (top 24)) (defBody (top 24)) (defScope (top 24)) [] [] (He.ga K "is_lot") fd ∧ Binds K fd ["value"] [] := by
  obtain ⟨fd, F⟩ := c.old.def_ 4 (d := d_is_lot) rfl
  exact ⟨fd, F, FunD.bindsN F fun _ _ _ _ _ _ us hl => match us, hl with | [_], _ => rfl⟩
theorem mg_is_lot (X : K.In h) (G : h.Ns mainGlobals mg) (c : SaysX fa gl fn K) : mg "is_lot" = some (.ref (He.ga K "is_lot")) := He.glo_ok X G (c.old.fact 4 (f := .glo "is_lot") rfl)
theorem gf_is_lot (X : K.In h) (G : h.Ns mainGlobals mg) (c : SaysX fa gl fn K) : GF P w K mg base 3 1 "is_lot" g_is_lot := by
  obtain ⟨fd, F, b⟩ := fun_is_lot c
  refine ⟨_, fd, ["value"], 3, Nat.le_refl _, rfl, mg_is_lot X G c, F.kp, b, ?_⟩
  have h_is_habit := (gf_is_habit (P := P) (w := w) (base := base) X G c).mono (by decide : 2 ≤ 2)
  exact def_ok (lv := 2) F sc_is_lot (blt_ok X G c) _ (by repeat' (first | exact True.intro | refine And.intro ?_ ?_ | exact h_is_habit)) (ck_is_lot _)
theorem fun_is_phrase_of (c : SaysX fa gl fn K) : ∃ fd, FunD K "is_phrase_of" "is_phrase_of" (defArgs (top 25)) (defBody (top 25)) (defScope (top 25)) [] [] (He.ga K "is_phrase_of") fd ∧ Binds K fd ["value", "most"] [] := by
  obtain ⟨fd, F⟩ := c.old.def_ 5 (d := d_is_phrase_of) rfl
  exact ⟨fd, F, FunD.bindsN F fun _ _ _ _ _ _ us hl => match us, hl with | [_, _], _ => rfl⟩
theorem mg_is_phrase_of (X : K.In h) (G : h.Ns mainGlobals mg) (c : SaysX fa gl fn K) : mg "is_phrase_of" = some (.ref (He.ga K "is_phrase_of")) := He.glo_ok X G (c.old.fact 5 (f := .glo "is_phrase_of") rfl)
theorem gf_is_phrase_of (X : K.In h) (G : h.Ns mainGlobals mg) (c : SaysX fa gl fn K) : ∀ n, GF P w K mg base (2 + n) 2 "is_phrase_of" (g_is_phrase_of n)
  | 0 => by
    obtain ⟨fd, F, b⟩ := fun_is_phrase_of c
    exact ⟨_, fd, ["value", "most"], 2, Nat.le_refl _, rfl, mg_is_phrase_of X G c, F.kp, b, fn_stuck⟩
  | n + 1 => by
    obtain ⟨fd, F, b⟩ := fun_is_phrase_of c
    have ih := gf_is_phrase_of X G c n
    refine ⟨_, fd, ["value", "most"], 2 + n + 1, Nat.le_refl _, rfl, mg_is_phrase_of X G c, F.kp, b, ?_⟩
    have h_is_from := (gf_is_from (P := P) (w := w) (base := base) X G c).mono (Nat.le_add_right 2 n |> Nat.le_trans (by decide : 2 ≤ 2))
    exact def_ok (lv := 2 + n) F sc_is_phrase_of (blt_ok X G c) _ (by repeat' (first | exact True.intro | refine And.intro ?_ ?_ | exact ih | exact h_is_from | exact c.glob X G 4 (q := ("IN", k_IN)) rfl | exact c.glob X G 8 (q := ("NAMED", k_NAMED)) rfl | exact c.glob X G 9 (q := ("AROUND", k_AROUND)) rfl | exact c.glob X G 15 (q := ("MOST_DAYS", k_MOST_DAYS)) rfl)) (ck_is_phrase_of _ _)
theorem fun_is_phrase (c : SaysX fa gl fn K) : ∃ fd, FunD K "is_phrase" "is_phrase" (defArgs (top 26)) (defBody (top 26)) (defScope (top 26)) [] [] (He.ga K "is_phrase") fd ∧ Binds K fd ["value"] [] := by
  obtain ⟨fd, F⟩ := c.old.def_ 6 (d := d_is_phrase) rfl
  exact ⟨fd, F, FunD.bindsN F fun _ _ _ _ _ _ us hl => match us, hl with | [_], _ => rfl⟩
theorem mg_is_phrase (X : K.In h) (G : h.Ns mainGlobals mg) (c : SaysX fa gl fn K) : mg "is_phrase" = some (.ref (He.ga K "is_phrase")) := He.glo_ok X G (c.old.fact 6 (f := .glo "is_phrase") rfl)
theorem gf_is_phrase (X : K.In h) (G : h.Ns mainGlobals mg) (c : SaysX fa gl fn K) : GF P w K mg base 9 1 "is_phrase" g_is_phrase := by
  obtain ⟨fd, F, b⟩ := fun_is_phrase c
  refine ⟨_, fd, ["value"], 9, Nat.le_refl _, rfl, mg_is_phrase X G c, F.kp, b, ?_⟩
  have h_is_phrase_of := (gf_is_phrase_of (P := P) (w := w) (base := base) X G c 6).mono (by decide : 8 ≤ 8)
  exact def_ok (lv := 8) F sc_is_phrase (blt_ok X G c) _ (by repeat' (first | exact True.intro | refine And.intro ?_ ?_ | exact h_is_phrase_of | exact c.glob X G 14 (q := ("MOST_WORDS", k_MOST_WORDS)) rfl)) (ck_is_phrase _)
theorem fun_words_of (c : SaysX fa gl fn K) : ∃ fd, FunD K "words_of" "words_of" (defArgs (top 27)) (defBody (top 27)) (defScope (top 27)) [] [] (He.ga K "words_of") fd ∧ Binds K fd ["phrase"] [] := by
  obtain ⟨fd, F⟩ := c.old.def_ 7 (d := d_words_of) rfl
  exact ⟨fd, F, FunD.bindsN F fun _ _ _ _ _ _ us hl => match us, hl with | [_], _ => rfl⟩
theorem mg_words_of (X : K.In h) (G : h.Ns mainGlobals mg) (c : SaysX fa gl fn K) : mg "words_of" = some (.ref (He.ga K "words_of")) := He.glo_ok X G (c.old.fact 7 (f := .glo "words_of") rfl)
theorem gf_words_of (X : K.In h) (G : h.Ns mainGlobals mg) (c : SaysX fa gl fn K) : ∀ n, GF P w K mg base (0 + n) 1 "words_of" (g_words_of n)
  | 0 => by
    obtain ⟨fd, F, b⟩ := fun_words_of c
    exact ⟨_, fd, ["phrase"], 0, Nat.le_refl _, rfl, mg_words_of X G c, F.kp, b, fn_stuck⟩
  | n + 1 => by
    obtain ⟨fd, F, b⟩ := fun_words_of c
    have ih := gf_words_of X G c n
    refine ⟨_, fd, ["phrase"], 0 + n + 1, Nat.le_refl _, rfl, mg_words_of X G c, F.kp, b, ?_⟩
    exact def_ok (lv := 0 + n) F sc_words_of (blt_ok X G c) _ (by repeat' (first | exact True.intro | refine And.intro ?_ ?_ | exact ih | exact c.glob X G 9 (q := ("AROUND", k_AROUND)) rfl)) (ck_words_of _)
theorem fun_is_before (c : SaysX fa gl fn K) : ∃ fd, FunD K "is_before" "is_before" (defArgs (top 28)) (defBody (top 28)) (defScope (top 28)) [] [] (He.ga K "is_before") fd ∧ Binds K fd ["one", "other"] [] := by
  obtain ⟨fd, F⟩ := c.old.def_ 8 (d := d_is_before) rfl
  exact ⟨fd, F, FunD.bindsN F fun _ _ _ _ _ _ us hl => match us, hl with | [_, _], _ => rfl⟩
theorem mg_is_before (X : K.In h) (G : h.Ns mainGlobals mg) (c : SaysX fa gl fn K) : mg "is_before" = some (.ref (He.ga K "is_before")) := He.glo_ok X G (c.old.fact 8 (f := .glo "is_before") rfl)
theorem gf_is_before (X : K.In h) (G : h.Ns mainGlobals mg) (c : SaysX fa gl fn K) : ∀ n, GF P w K mg base (0 + n) 2 "is_before" (g_is_before n)
  | 0 => by
    obtain ⟨fd, F, b⟩ := fun_is_before c
    exact ⟨_, fd, ["one", "other"], 0, Nat.le_refl _, rfl, mg_is_before X G c, F.kp, b, fn_stuck⟩
  | n + 1 => by
    obtain ⟨fd, F, b⟩ := fun_is_before c
    have ih := gf_is_before X G c n
    refine ⟨_, fd, ["one", "other"], 0 + n + 1, Nat.le_refl _, rfl, mg_is_before X G c, F.kp, b, ?_⟩
    exact def_ok (lv := 0 + n) F sc_is_before (blt_ok X G c) _ (by repeat' (first | exact True.intro | refine And.intro ?_ ?_ | exact ih | exact c.glob X G 9 (q := ("AROUND", k_AROUND)) rfl)) (ck_is_before _)
theorem fun_are_ascending (c : SaysX fa gl fn K) : ∃ fd, FunD K "are_ascending" "are_ascending" (defArgs (top 29)) (defBody (top 29)) (defScope (top 29)) [] [] (He.ga K "are_ascending") fd ∧ Binds K fd ["phrases"] [] := by
  obtain ⟨fd, F⟩ := c.old.def_ 9 (d := d_are_ascending) rfl
  exact ⟨fd, F, FunD.bindsN F fun _ _ _ _ _ _ us hl => match us, hl with | [_], _ => rfl⟩
theorem mg_are_ascending (X : K.In h) (G : h.Ns mainGlobals mg) (c : SaysX fa gl fn K) : mg "are_ascending" = some (.ref (He.ga K "are_ascending")) := He.glo_ok X G (c.old.fact 9 (f := .glo "are_ascending") rfl)
theorem gf_are_ascending (X : K.In h) (G : h.Ns mainGlobals mg) (c : SaysX fa gl fn K) : GF P w K mg base 7 1 "are_ascending" g_are_ascending := by
  obtain ⟨fd, F, b⟩ := fun_are_ascending c
  refine ⟨_, fd, ["phrases"], 7, Nat.le_refl _, rfl, mg_are_ascending X G c, F.kp, b, ?_⟩
  have h_is_before := (gf_is_before (P := P) (w := w) (base := base) X G c 6).mono (by decide : 6 ≤ 6)
  exact def_ok (lv := 6) F sc_are_ascending (blt_ok X G c) _ (by repeat' (first | exact True.intro | refine And.intro ?_ ?_ | exact h_is_before)) (ck_are_ascending _)
theorem fun_is_book (c : SaysX fa gl fn K) : ∃ fd, FunD K "is_book" "is_book" (defArgs (top 30)) (defBody (top 30)) (defScope (top 30)) [] [] (He.ga K "is_book") fd ∧ Binds K fd ["value"] [] := by
  obtain ⟨fd, F⟩ := c.old.def_ 10 (d := d_is_book) rfl
  exact ⟨fd, F, FunD.bindsN F fun _ _ _ _ _ _ us hl => match us, hl with | [_], _ => rfl⟩
theorem mg_is_book (X : K.In h) (G : h.Ns mainGlobals mg) (c : SaysX fa gl fn K) : mg "is_book" = some (.ref (He.ga K "is_book")) := He.glo_ok X G (c.old.fact 10 (f := .glo "is_book") rfl)
theorem gf_is_book (X : K.In h) (G : h.Ns mainGlobals mg) (c : SaysX fa gl fn K) : GF P w K mg base 10 1 "is_book" g_is_book := by
  obtain ⟨fd, F, b⟩ := fun_is_book c
  refine ⟨_, fd, ["value"], 10, Nat.le_refl _, rfl, mg_is_book X G c, F.kp, b, ?_⟩
  have h_is_phrase := (gf_is_phrase (P := P) (w := w) (base := base) X G c).mono (by decide : 9 ≤ 9)
  have h_are_ascending := (gf_are_ascending (P := P) (w := w) (base := base) X G c).mono (by decide : 7 ≤ 9)
  exact def_ok (lv := 9) F sc_is_book (blt_ok X G c) _ (by repeat' (first | exact True.intro | refine And.intro ?_ ?_ | exact h_is_phrase | exact h_are_ascending)) (ck_is_book _ _)
theorem fun_need_phrase (c : SaysX fa gl fn K) : ∃ fd, FunD K "need_phrase" "need_phrase" (defArgs (top 31)) (defBody (top 31)) (defScope (top 31)) [] [] (He.ga K "need_phrase") fd ∧ Binds K fd ["value"] [] := by
  obtain ⟨fd, F⟩ := c.old.def_ 11 (d := d_need_phrase) rfl
  exact ⟨fd, F, FunD.bindsN F fun _ _ _ _ _ _ us hl => match us, hl with | [_], _ => rfl⟩
theorem mg_need_phrase (X : K.In h) (G : h.Ns mainGlobals mg) (c : SaysX fa gl fn K) : mg "need_phrase" = some (.ref (He.ga K "need_phrase")) := He.glo_ok X G (c.old.fact 11 (f := .glo "need_phrase") rfl)
theorem gf_need_phrase (X : K.In h) (G : h.Ns mainGlobals mg) (c : SaysX fa gl fn K) : GF P w K mg base 10 1 "need_phrase" g_need_phrase := by
  obtain ⟨fd, F, b⟩ := fun_need_phrase c
  refine ⟨_, fd, ["value"], 10, Nat.le_refl _, rfl, mg_need_phrase X G c, F.kp, b, ?_⟩
  have h_is_phrase := (gf_is_phrase (P := P) (w := w) (base := base) X G c).mono (by decide : 9 ≤ 9)
  exact def_ok (lv := 9) F sc_need_phrase (blt_ok X G c) _ (by repeat' (first | exact True.intro | refine And.intro ?_ ?_ | exact h_is_phrase | exact exc_InvalidPhrase X G c)) (ck_need_phrase _)
theorem fun_all_habits_there_are (c : SaysX fa gl fn K) : ∃ fd, FunD K "all_habits_there_are" "all_habits_there_are" (defArgs (top 32)) (defBody (top 32)) (defScope (top 32)) [] [] (He.ga K "all_habits_there_are") fd ∧ Binds K fd [] [] := by
  obtain ⟨fd, F⟩ := c.old.def_ 12 (d := d_all_habits_there_are) rfl
  exact ⟨fd, F, FunD.bindsN F fun _ _ _ _ _ _ us hl => match us, hl with | [], _ => rfl⟩
theorem mg_all_habits_there_are (X : K.In h) (G : h.Ns mainGlobals mg) (c : SaysX fa gl fn K) : mg "all_habits_there_are" = some (.ref (He.ga K "all_habits_there_are")) := He.glo_ok X G (c.old.fact 12 (f := .glo "all_habits_there_are") rfl)
theorem gf_all_habits_there_are (X : K.In h) (G : h.Ns mainGlobals mg) (c : SaysX fa gl fn K) : GF P w K mg base 1 0 "all_habits_there_are" g_all_habits_there_are := by
  obtain ⟨fd, F, b⟩ := fun_all_habits_there_are c
  refine ⟨_, fd, [], 1, Nat.le_refl _, rfl, mg_all_habits_there_are X G c, F.kp, b, ?_⟩
  exact def_ok (lv := 0) F sc_all_habits_there_are (blt_ok X G c) _ (by repeat' (first | exact True.intro | refine And.intro ?_ ?_ | exact c.glob X G 10 (q := ("BEGINS", k_BEGINS)) rfl | exact c.glob X G 11 (q := ("OWN", k_OWN)) rfl | exact c.glob X G 12 (q := ("NEXTS", k_NEXTS)) rfl | exact c.glob X G 13 (q := ("COUNTS", k_COUNTS)) rfl)) (ck_all_habits_there_are)
theorem fun_all_habits (c : SaysX fa gl fn K) : ∃ fd, FunD K "all_habits" "all_habits" (defArgs (top 33)) (defBody (top 33)) (defScope (top 33)) [] [] (He.ga K "all_habits") fd ∧ Binds K fd [] [] := by
  obtain ⟨fd, F⟩ := c.old.def_ 13 (d := d_all_habits) rfl
  exact ⟨fd, F, FunD.bindsN F fun _ _ _ _ _ _ us hl => match us, hl with | [], _ => rfl⟩
theorem mg_all_habits (X : K.In h) (G : h.Ns mainGlobals mg) (c : SaysX fa gl fn K) : mg "all_habits" = some (.ref (He.ga K "all_habits")) := He.glo_ok X G (c.old.fact 13 (f := .glo "all_habits") rfl)
theorem gf_all_habits (X : K.In h) (G : h.Ns mainGlobals mg) (c : SaysX fa gl fn K) : GF P w K mg base 2 0 "all_habits" g_all_habits := by
  obtain ⟨fd, F, b⟩ := fun_all_habits c
  refine ⟨_, fd, [], 2, Nat.le_refl _, rfl, mg_all_habits X G c, F.kp, b, ?_⟩
  have h_all_habits_there_are := (gf_all_habits_there_are (P := P) (w := w) (base := base) X G c).mono (by decide : 1 ≤ 1)
  exact def_ok (lv := 1) F sc_all_habits (blt_ok X G c) _ (by repeat' (first | exact True.intro | refine And.intro ?_ ?_ | exact h_all_habits_there_are)) (ck_all_habits _)
theorem fun_words (c : SaysX fa gl fn K) : ∃ fd, FunD K "words" "words" (defArgs (top 34)) (defBody (top 34)) (defScope (top 34)) [] [] (He.ga K "words") fd ∧ Binds K fd ["phrase"] [] := by
  obtain ⟨fd, F⟩ := c.old.def_ 14 (d := d_words) rfl
  exact ⟨fd, F, FunD.bindsN F fun _ _ _ _ _ _ us hl => match us, hl with | [_], _ => rfl⟩
theorem mg_words (X : K.In h) (G : h.Ns mainGlobals mg) (c : SaysX fa gl fn K) : mg "words" = some (.ref (He.ga K "words")) := He.glo_ok X G (c.old.fact 14 (f := .glo "words") rfl)
theorem gf_words (X : K.In h) (G : h.Ns mainGlobals mg) (c : SaysX fa gl fn K) : GF P w K mg base 11 1 "words" g_words := by
  obtain ⟨fd, F, b⟩ := fun_words c
  refine ⟨_, fd, ["phrase"], 11, Nat.le_refl _, rfl, mg_words X G c, F.kp, b, ?_⟩
  have h_need_phrase := (gf_need_phrase (P := P) (w := w) (base := base) X G c).mono (by decide : 10 ≤ 10)
  have h_words_of := (gf_words_of (P := P) (w := w) (base := base) X G c 6).mono (by decide : 6 ≤ 10)
  exact def_ok (lv := 10) F sc_words (blt_ok X G c) _ (by repeat' (first | exact True.intro | refine And.intro ?_ ?_ | exact h_need_phrase | exact h_words_of)) (ck_words _ _)
theorem fun__law_bag (c : SaysX fa gl fn K) : ∃ fd, FunD K "_law_bag" "_law_bag" (defArgs (top 36)) (defBody (top 36)) (defScope (top 36)) [] [] (He.ga K "_law_bag") fd ∧ Binds K fd ["_law_script", "_law_k"] [] := by
  obtain ⟨fd, F⟩ := c.old.def_ 15 (d := d__law_bag) rfl
  exact ⟨fd, F, FunD.bindsN F fun _ _ _ _ _ _ us hl => match us, hl with | [_, _], _ => rfl⟩
theorem mg__law_bag (X : K.In h) (G : h.Ns mainGlobals mg) (c : SaysX fa gl fn K) : mg "_law_bag" = some (.ref (He.ga K "_law_bag")) := He.glo_ok X G (c.old.fact 15 (f := .glo "_law_bag") rfl)
theorem gb__law_bag (X : K.In h) (G : h.Ns mainGlobals mg) (c : SaysX fa gl fn K) : GB P w K mg base 1 2 "_law_bag" g__law_bag := by
  obtain ⟨fd, F, b⟩ := fun__law_bag c
  refine ⟨_, fd, ["_law_script", "_law_k"], 1, Nat.le_refl _, rfl, mg__law_bag X G c, F.kp, b, ?_⟩
  exact bag_ok (lv := 0) F sc__law_bag (blt_ok X G c) _ _ _ (by repeat' (first | exact True.intro | refine And.intro ?_ ?_)) ck__law_bag
theorem fun__law_take (c : SaysX fa gl fn K) : ∃ fd, FunD K "_law_take" "_law_take" (defArgs (top 37)) (defBody (top 37)) (defScope (top 37)) [] [] (He.ga K "_law_take") fd ∧ Binds K fd ["_law_bag_here", "_law_many"] [] := by
  obtain ⟨fd, F⟩ := c.old.def_ 16 (d := d__law_take) rfl
  exact ⟨fd, F, FunD.bindsN F fun _ _ _ _ _ _ us hl => match us, hl with | [_, _], _ => rfl⟩
theorem mg__law_take (X : K.In h) (G : h.Ns mainGlobals mg) (c : SaysX fa gl fn K) : mg "_law_take" = some (.ref (He.ga K "_law_take")) := He.glo_ok X G (c.old.fact 16 (f := .glo "_law_take") rfl)
theorem gf__law_take (X : K.In h) (G : h.Ns mainGlobals mg) (c : SaysX fa gl fn K) : GF P w K mg base 1 2 "_law_take" g__law_take := by
  obtain ⟨fd, F, b⟩ := fun__law_take c
  refine ⟨_, fd, ["_law_bag_here", "_law_many"], 1, Nat.le_refl _, rfl, mg__law_take X G c, F.kp, b, ?_⟩
  exact def_ok (lv := 0) F sc__law_take (blt_ok X G c) _ (by repeat' (first | exact True.intro | refine And.intro ?_ ?_)) (ck__law_take)
theorem fun__law_of (c : SaysX fa gl fn K) : ∃ fd, FunD K "_law_of" "_law_of" (defArgs (top 38)) (defBody (top 38)) (defScope (top 38)) [] [] (He.ga K "_law_of") fd ∧ Binds K fd ["_law_bag_here", "_law_some"] [] := by
  obtain ⟨fd, F⟩ := c.old.def_ 17 (d := d__law_of) rfl
  exact ⟨fd, F, FunD.bindsN F fun _ _ _ _ _ _ us hl => match us, hl with | [_, _], _ => rfl⟩
theorem mg__law_of (X : K.In h) (G : h.Ns mainGlobals mg) (c : SaysX fa gl fn K) : mg "_law_of" = some (.ref (He.ga K "_law_of")) := He.glo_ok X G (c.old.fact 17 (f := .glo "_law_of") rfl)
theorem gf__law_of (X : K.In h) (G : h.Ns mainGlobals mg) (c : SaysX fa gl fn K) : GF P w K mg base 2 2 "_law_of" g__law_of := by
  obtain ⟨fd, F, b⟩ := fun__law_of c
  refine ⟨_, fd, ["_law_bag_here", "_law_some"], 2, Nat.le_refl _, rfl, mg__law_of X G c, F.kp, b, ?_⟩
  have h__law_take := (gf__law_take (P := P) (w := w) (base := base) X G c).mono (by decide : 1 ≤ 1)
  exact def_ok (lv := 1) F sc__law_of (blt_ok X G c) _ (by repeat' (first | exact True.intro | refine And.intro ?_ ?_ | exact h__law_take)) (ck__law_of _)
theorem fun__law_habit (c : SaysX fa gl fn K) : ∃ fd, FunD K "_law_habit" "_law_habit" (defArgs (top 39)) (defBody (top 39)) (defScope (top 39)) [] [] (He.ga K "_law_habit") fd ∧ Binds K fd ["_law_bag_here"] [] := by
  obtain ⟨fd, F⟩ := c.old.def_ 18 (d := d__law_habit) rfl
  exact ⟨fd, F, FunD.bindsN F fun _ _ _ _ _ _ us hl => match us, hl with | [_], _ => rfl⟩
theorem mg__law_habit (X : K.In h) (G : h.Ns mainGlobals mg) (c : SaysX fa gl fn K) : mg "_law_habit" = some (.ref (He.ga K "_law_habit")) := He.glo_ok X G (c.old.fact 18 (f := .glo "_law_habit") rfl)
theorem gf__law_habit (X : K.In h) (G : h.Ns mainGlobals mg) (c : SaysX fa gl fn K) : GF P w K mg base 3 1 "_law_habit" g__law_habit := by
  obtain ⟨fd, F, b⟩ := fun__law_habit c
  refine ⟨_, fd, ["_law_bag_here"], 3, Nat.le_refl _, rfl, mg__law_habit X G c, F.kp, b, ?_⟩
  have h__law_of := (gf__law_of (P := P) (w := w) (base := base) X G c).mono (by decide : 2 ≤ 2)
  exact def_ok (lv := 2) F sc__law_habit (blt_ok X G c) _ (by repeat' (first | exact True.intro | refine And.intro ?_ ?_ | exact h__law_of)) (ck__law_habit _)
theorem fun__law_lot (c : SaysX fa gl fn K) : ∃ fd, FunD K "_law_lot" "_law_lot" (defArgs (top 40)) (defBody (top 40)) (defScope (top 40)) [] [] (He.ga K "_law_lot") fd ∧ Binds K fd ["_law_bag_here", "_law_most"] [] := by
  obtain ⟨fd, F⟩ := c.old.def_ 19 (d := d__law_lot) rfl
  exact ⟨fd, F, FunD.bindsN F fun _ _ _ _ _ _ us hl => match us, hl with | [_, _], _ => rfl⟩
theorem mg__law_lot (X : K.In h) (G : h.Ns mainGlobals mg) (c : SaysX fa gl fn K) : mg "_law_lot" = some (.ref (He.ga K "_law_lot")) := He.glo_ok X G (c.old.fact 19 (f := .glo "_law_lot") rfl)
theorem gf__law_lot (X : K.In h) (G : h.Ns mainGlobals mg) (c : SaysX fa gl fn K) : GF P w K mg base 4 2 "_law_lot" g__law_lot := by
  obtain ⟨fd, F, b⟩ := fun__law_lot c
  refine ⟨_, fd, ["_law_bag_here", "_law_most"], 4, Nat.le_refl _, rfl, mg__law_lot X G c, F.kp, b, ?_⟩
  have h__law_take := (gf__law_take (P := P) (w := w) (base := base) X G c).mono (by decide : 1 ≤ 3)
  have h__law_habit := (gf__law_habit (P := P) (w := w) (base := base) X G c).mono (by decide : 3 ≤ 3)
  exact def_ok (lv := 3) F sc__law_lot (blt_ok X G c) _ (by repeat' (first | exact True.intro | refine And.intro ?_ ?_ | exact h__law_take | exact h__law_habit)) (ck__law_lot _ _)
theorem fun__law_phrase (c : SaysX fa gl fn K) : ∃ fd, FunD K "_law_phrase" "_law_phrase" (defArgs (top 41)) (defBody (top 41)) (defScope (top 41)) [] [] (He.ga K "_law_phrase") fd ∧ Binds K fd ["_law_bag_here", "_law_most"] [] := by
  obtain ⟨fd, F⟩ := c.old.def_ 20 (d := d__law_phrase) rfl
  exact ⟨fd, F, FunD.bindsN F fun _ _ _ _ _ _ us hl => match us, hl with | [_, _], _ => rfl⟩
theorem mg__law_phrase (X : K.In h) (G : h.Ns mainGlobals mg) (c : SaysX fa gl fn K) : mg "_law_phrase" = some (.ref (He.ga K "_law_phrase")) := He.glo_ok X G (c.old.fact 20 (f := .glo "_law_phrase") rfl)
theorem gf__law_phrase (X : K.In h) (G : h.Ns mainGlobals mg) (c : SaysX fa gl fn K) : ∀ n, GF P w K mg base (2 + n) 2 "_law_phrase" (g__law_phrase n)
  | 0 => by
    obtain ⟨fd, F, b⟩ := fun__law_phrase c
    exact ⟨_, fd, ["_law_bag_here", "_law_most"], 2, Nat.le_refl _, rfl, mg__law_phrase X G c, F.kp, b, fn_stuck⟩
  | n + 1 => by
    obtain ⟨fd, F, b⟩ := fun__law_phrase c
    have ih := gf__law_phrase X G c n
    refine ⟨_, fd, ["_law_bag_here", "_law_most"], 2 + n + 1, Nat.le_refl _, rfl, mg__law_phrase X G c, F.kp, b, ?_⟩
    have h__law_take := (gf__law_take (P := P) (w := w) (base := base) X G c).mono (Nat.le_add_right 2 n |> Nat.le_trans (by decide : 1 ≤ 2))
    have h__law_of := (gf__law_of (P := P) (w := w) (base := base) X G c).mono (Nat.le_add_right 2 n |> Nat.le_trans (by decide : 2 ≤ 2))
    exact def_ok (lv := 2 + n) F sc__law_phrase (blt_ok X G c) _ (by repeat' (first | exact True.intro | refine And.intro ?_ ?_ | exact ih | exact h__law_take | exact h__law_of)) (ck__law_phrase _ _ _)
theorem fun__law_words (c : SaysX fa gl fn K) : ∃ fd, FunD K "_law_words" "_law_words" (defArgs (top 43)) (defBody (top 43)) (defScope (top 43)) [] [] (He.ga K "_law_words") fd ∧ Binds K fd ["_law_phrase_here"] [] := by
  obtain ⟨fd, F⟩ := c.old.def_ 21 (d := d__law_words) rfl
  exact ⟨fd, F, FunD.bindsN F fun _ _ _ _ _ _ us hl => match us, hl with | [_], _ => rfl⟩
theorem mg__law_words (X : K.In h) (G : h.Ns mainGlobals mg) (c : SaysX fa gl fn K) : mg "_law_words" = some (.ref (He.ga K "_law_words")) := He.glo_ok X G (c.old.fact 21 (f := .glo "_law_words") rfl)
theorem gf__law_words (X : K.In h) (G : h.Ns mainGlobals mg) (c : SaysX fa gl fn K) : ∀ n, GF P w K mg base (0 + n) 1 "_law_words" (g__law_words n)
  | 0 => by
    obtain ⟨fd, F, b⟩ := fun__law_words c
    exact ⟨_, fd, ["_law_phrase_here"], 0, Nat.le_refl _, rfl, mg__law_words X G c, F.kp, b, fn_stuck⟩
  | n + 1 => by
    obtain ⟨fd, F, b⟩ := fun__law_words c
    have ih := gf__law_words X G c n
    refine ⟨_, fd, ["_law_phrase_here"], 0 + n + 1, Nat.le_refl _, rfl, mg__law_words X G c, F.kp, b, ?_⟩
    exact def_ok (lv := 0 + n) F sc__law_words (blt_ok X G c) _ (by repeat' (first | exact True.intro | refine And.intro ?_ ?_ | exact ih)) (ck__law_words _)
theorem fun__law_made__t (c : SaysX fa gl fn K) : ∃ fd, FunD K "_law_made" "_law_made" (defArgs (top 45)) (defBody (top 45)) (defScope (top 45)) [] [] (He.ga K "_law_made") fd ∧ Binds K fd ["_law_terms", "_law_number"] [] := by
  obtain ⟨fd, F⟩ := c.old.def_ 24 (d := d__law_made) rfl
  exact ⟨fd, F, FunD.bindsN F fun _ _ _ _ _ _ us hl => match us, hl with | [_, _], _ => rfl⟩
theorem mg__law_made__t (X : K.In h) (G : h.Ns mainGlobals mg) (c : SaysX fa gl fn K) : mg "_law_made" = some (.ref (He.ga K "_law_made")) := He.glo_ok X G (c.old.fact 24 (f := .glo "_law_made") rfl)
theorem gf__law_made__t (X : K.In h) (G : h.Ns mainGlobals mg) (c : SaysX fa gl fn K) : GF P w K mg base 1 2 "_law_made" g__law_made__t := by
  obtain ⟨fd, F, b⟩ := fun__law_made__t c
  refine ⟨_, fd, ["_law_terms", "_law_number"], 1, Nat.le_refl _, rfl, mg__law_made__t X G c, F.kp, b, ?_⟩
  exact def_ok (lv := 0) F sc__law_made__t (blt_ok X G c) _ (by repeat' (first | exact True.intro | refine And.intro ?_ ?_)) (ck__law_made__t)
theorem fun__law_sorted (c : SaysX fa gl fn K) : ∃ fd, FunD K "_law_sorted" "_law_sorted" (defArgs (top 44)) (defBody (top 44)) (defScope (top 44)) [] [] (He.ga K "_law_sorted") fd ∧ Binds K fd ["_law_phrases"] [] := by
  obtain ⟨fd, F⟩ := c.old.def_ 22 (d := d__law_sorted) rfl
  exact ⟨fd, F, FunD.bindsN F fun _ _ _ _ _ _ us hl => match us, hl with | [_], _ => rfl⟩
theorem mg__law_sorted (X : K.In h) (G : h.Ns mainGlobals mg) (c : SaysX fa gl fn K) : mg "_law_sorted" = some (.ref (He.ga K "_law_sorted")) := He.glo_ok X G (c.old.fact 22 (f := .glo "_law_sorted") rfl)
theorem gf__law_sorted (X : K.In h) (G : h.Ns mainGlobals mg) (c : SaysX fa gl fn K) : GF P w K mg base 7 1 "_law_sorted" g__law_sorted := by
  obtain ⟨fd, F, b⟩ := fun__law_sorted c
  refine ⟨_, fd, ["_law_phrases"], 7, Nat.le_refl _, rfl, mg__law_sorted X G c, F.kp, b, ?_⟩
  have h__law_words := (gf__law_words (P := P) (w := w) (base := base) X G c 6).mono (by decide : 6 ≤ 6)
  have h__law_made__t := (gf__law_made__t (P := P) (w := w) (base := base) X G c).mono (by decide : 1 ≤ 6)
  exact def_ok (lv := 6) F sc__law_sorted (blt_ok X G c) _ (by repeat' (first | exact True.intro | refine And.intro ?_ ?_ | exact h__law_words | exact h__law_made__t)) (ck__law_sorted _ _)
theorem fun__law_book (c : SaysX fa gl fn K) : ∃ fd, FunD K "_law_book" "_law_book" (defArgs (top 42)) (defBody (top 42)) (defScope (top 42)) [] [] (He.ga K "_law_book") fd ∧ Binds K fd ["_law_bag_here", "_law_most"] [] := by
  obtain ⟨fd, F⟩ := c.old.def_ 23 (d := d__law_book) rfl
  exact ⟨fd, F, FunD.bindsN F fun _ _ _ _ _ _ us hl => match us, hl with | [_, _], _ => rfl⟩
theorem mg__law_book (X : K.In h) (G : h.Ns mainGlobals mg) (c : SaysX fa gl fn K) : mg "_law_book" = some (.ref (He.ga K "_law_book")) := He.glo_ok X G (c.old.fact 23 (f := .glo "_law_book") rfl)
theorem gf__law_book (X : K.In h) (G : h.Ns mainGlobals mg) (c : SaysX fa gl fn K) : GF P w K mg base 8 2 "_law_book" g__law_book := by
  obtain ⟨fd, F, b⟩ := fun__law_book c
  refine ⟨_, fd, ["_law_bag_here", "_law_most"], 8, Nat.le_refl _, rfl, mg__law_book X G c, F.kp, b, ?_⟩
  have h__law_take := (gf__law_take (P := P) (w := w) (base := base) X G c).mono (by decide : 1 ≤ 7)
  have h__law_phrase := (gf__law_phrase (P := P) (w := w) (base := base) X G c 4).mono (by decide : 6 ≤ 7)
  have h__law_of := (gf__law_of (P := P) (w := w) (base := base) X G c).mono (by decide : 2 ≤ 7)
  have h__law_sorted := (gf__law_sorted (P := P) (w := w) (base := base) X G c).mono (by decide : 7 ≤ 7)
  exact def_ok (lv := 7) F sc__law_book (blt_ok X G c) _ (by repeat' (first | exact True.intro | refine And.intro ?_ ?_ | exact h__law_take | exact h__law_phrase | exact h__law_of | exact h__law_sorted)) (ck__law_book _ _ _ _)
theorem fun__law_made (c : SaysX fa gl fn K) : ∃ fd, FunD K "_law_made" "_law_made" (defArgs (top 45)) (defBody (top 45)) (defScope (top 45)) [] [] (He.ga K "_law_made") fd ∧ Binds K fd ["_law_terms", "_law_number"] [] := by
  obtain ⟨fd, F⟩ := c.old.def_ 24 (d := d__law_made) rfl
  exact ⟨fd, F, FunD.bindsN F fun _ _ _ _ _ _ us hl => match us, hl with | [_, _], _ => rfl⟩
theorem mg__law_made (X : K.In h) (G : h.Ns mainGlobals mg) (c : SaysX fa gl fn K) : mg "_law_made" = some (.ref (He.ga K "_law_made")) := He.glo_ok X G (c.old.fact 24 (f := .glo "_law_made") rfl)
theorem gf__law_made (X : K.In h) (G : h.Ns mainGlobals mg) (c : SaysX fa gl fn K) : GF P w K mg base 1 2 "_law_made" g__law_made := by
  obtain ⟨fd, F, b⟩ := fun__law_made c
  refine ⟨_, fd, ["_law_terms", "_law_number"], 1, Nat.le_refl _, rfl, mg__law_made X G c, F.kp, b, ?_⟩
  exact def_ok (lv := 0) F sc__law_made (blt_ok X G c) _ (by repeat' (first | exact True.intro | refine And.intro ?_ ?_)) (ck__law_made)
theorem fun__law_any_value (c : SaysX fa gl fn K) : ∃ fd, FunD K "_law_any_value" "_law_any_value" (defArgs (top 46)) (defBody (top 46)) (defScope (top 46)) [] [] (He.ga K "_law_any_value") fd ∧ Binds K fd ["_law_bag_here", "_law_depth"] [] := by
  obtain ⟨fd, F⟩ := c.old.def_ 25 (d := d__law_any_value) rfl
  exact ⟨fd, F, FunD.bindsN F fun _ _ _ _ _ _ us hl => match us, hl with | [_, _], _ => rfl⟩
theorem mg__law_any_value (X : K.In h) (G : h.Ns mainGlobals mg) (c : SaysX fa gl fn K) : mg "_law_any_value" = some (.ref (He.ga K "_law_any_value")) := He.glo_ok X G (c.old.fact 25 (f := .glo "_law_any_value") rfl)
theorem gf__law_any_value (X : K.In h) (G : h.Ns mainGlobals mg) (c : SaysX fa gl fn K) : ∀ n, GF P w K mg base (2 + n) 2 "_law_any_value" (g__law_any_value n)
  | 0 => by
    obtain ⟨fd, F, b⟩ := fun__law_any_value c
    exact ⟨_, fd, ["_law_bag_here", "_law_depth"], 2, Nat.le_refl _, rfl, mg__law_any_value X G c, F.kp, b, fn_stuck⟩
  | n + 1 => by
    obtain ⟨fd, F, b⟩ := fun__law_any_value c
    have ih := gf__law_any_value X G c n
    refine ⟨_, fd, ["_law_bag_here", "_law_depth"], 2 + n + 1, Nat.le_refl _, rfl, mg__law_any_value X G c, F.kp, b, ?_⟩
    have h__law_take := (gf__law_take (P := P) (w := w) (base := base) X G c).mono (Nat.le_add_right 2 n |> Nat.le_trans (by decide : 1 ≤ 2))
    have h__law_of := (gf__law_of (P := P) (w := w) (base := base) X G c).mono (Nat.le_add_right 2 n |> Nat.le_trans (by decide : 2 ≤ 2))
    exact def_ok (lv := 2 + n) F sc__law_any_value (blt_ok X G c) _ (by repeat' (first | exact True.intro | refine And.intro ?_ ?_ | exact ih | exact h__law_take | exact h__law_of)) (ck__law_any_value _ _ _)
theorem fun__law_spoiled (c : SaysX fa gl fn K) : ∃ fd, FunD K "_law_spoiled" "_law_spoiled" (defArgs (top 47)) (defBody (top 47)) (defScope (top 47)) [] [] (He.ga K "_law_spoiled") fd ∧ Binds K fd ["_law_bag_here", "_law_value"] [] := by
  obtain ⟨fd, F⟩ := c.old.def_ 26 (d := d__law_spoiled) rfl
  exact ⟨fd, F, FunD.bindsN F fun _ _ _ _ _ _ us hl => match us, hl with | [_, _], _ => rfl⟩
theorem mg__law_spoiled (X : K.In h) (G : h.Ns mainGlobals mg) (c : SaysX fa gl fn K) : mg "_law_spoiled" = some (.ref (He.ga K "_law_spoiled")) := He.glo_ok X G (c.old.fact 26 (f := .glo "_law_spoiled") rfl)
theorem gf__law_spoiled (X : K.In h) (G : h.Ns mainGlobals mg) (c : SaysX fa gl fn K) : ∀ n, GF P w K mg base (5 + n) 2 "_law_spoiled" (g__law_spoiled n)
  | 0 => by
    obtain ⟨fd, F, b⟩ := fun__law_spoiled c
    exact ⟨_, fd, ["_law_bag_here", "_law_value"], 5, Nat.le_refl _, rfl, mg__law_spoiled X G c, F.kp, b, fn_stuck⟩
  | n + 1 => by
    obtain ⟨fd, F, b⟩ := fun__law_spoiled c
    have ih := gf__law_spoiled X G c n
    refine ⟨_, fd, ["_law_bag_here", "_law_value"], 5 + n + 1, Nat.le_refl _, rfl, mg__law_spoiled X G c, F.kp, b, ?_⟩
    have h__law_take := (gf__law_take (P := P) (w := w) (base := base) X G c).mono (Nat.le_add_right 5 n |> Nat.le_trans (by decide : 1 ≤ 5))
    have h__law_any_value := (gf__law_any_value (P := P) (w := w) (base := base) X G c 3).mono (Nat.le_add_right 5 n |> Nat.le_trans (by decide : 5 ≤ 5))
    have h__law_of := (gf__law_of (P := P) (w := w) (base := base) X G c).mono (Nat.le_add_right 5 n |> Nat.le_trans (by decide : 2 ≤ 5))
    exact def_ok (lv := 5 + n) F sc__law_spoiled (blt_ok X G c) _ (by repeat' (first | exact True.intro | refine And.intro ?_ ?_ | exact ih | exact h__law_take | exact h__law_any_value | exact h__law_of)) (ck__law_spoiled _ _ _ _)
theorem fun__law_is_int (c : SaysX fa gl fn K) : ∃ fd, FunD K "_law_is_int" "_law_is_int" (defArgs (top 48)) (defBody (top 48)) (defScope (top 48)) [] [] (He.ga K "_law_is_int") fd ∧ Binds K fd ["_law_value", "_law_low", "_law_high"] [] := by
  obtain ⟨fd, F⟩ := c.old.def_ 27 (d := d__law_is_int) rfl
  exact ⟨fd, F, FunD.bindsN F fun _ _ _ _ _ _ us hl => match us, hl with | [_, _, _], _ => rfl⟩
theorem mg__law_is_int (X : K.In h) (G : h.Ns mainGlobals mg) (c : SaysX fa gl fn K) : mg "_law_is_int" = some (.ref (He.ga K "_law_is_int")) := He.glo_ok X G (c.old.fact 27 (f := .glo "_law_is_int") rfl)
theorem gf__law_is_int (X : K.In h) (G : h.Ns mainGlobals mg) (c : SaysX fa gl fn K) : GF P w K mg base 1 3 "_law_is_int" g__law_is_int := by
  obtain ⟨fd, F, b⟩ := fun__law_is_int c
  refine ⟨_, fd, ["_law_value", "_law_low", "_law_high"], 1, Nat.le_refl _, rfl, mg__law_is_int X G c, F.kp, b, ?_⟩
  exact def_ok (lv := 0) F sc__law_is_int (blt_ok X G c) _ (by repeat' (first | exact True.intro | refine And.intro ?_ ?_)) (ck__law_is_int)
theorem fun__law_among (c : SaysX fa gl fn K) : ∃ fd, FunD K "_law_among" "_law_among" (defArgs (top 49)) (defBody (top 49)) (defScope (top 49)) [] [] (He.ga K "_law_among") fd ∧ Binds K fd ["_law_value", "_law_some"] [] := by
  obtain ⟨fd, F⟩ := c.old.def_ 28 (d := d__law_among) rfl
  exact ⟨fd, F, FunD.bindsN F fun _ _ _ _ _ _ us hl => match us, hl with | [_, _], _ => rfl⟩
theorem mg__law_among (X : K.In h) (G : h.Ns mainGlobals mg) (c : SaysX fa gl fn K) : mg "_law_among" = some (.ref (He.ga K "_law_among")) := He.glo_ok X G (c.old.fact 28 (f := .glo "_law_among") rfl)
theorem gf__law_among (X : K.In h) (G : h.Ns mainGlobals mg) (c : SaysX fa gl fn K) : GF P w K mg base 1 2 "_law_among" g__law_among := by
  obtain ⟨fd, F, b⟩ := fun__law_among c
  refine ⟨_, fd, ["_law_value", "_law_some"], 1, Nat.le_refl _, rfl, mg__law_among X G c, F.kp, b, ?_⟩
  exact def_ok (lv := 0) F sc__law_among (blt_ok X G c) _ (by repeat' (first | exact True.intro | refine And.intro ?_ ?_)) (ck__law_among)
theorem fun__law_is_habit (c : SaysX fa gl fn K) : ∃ fd, FunD K "_law_is_habit" "_law_is_habit" (defArgs (top 50)) (defBody (top 50)) (defScope (top 50)) [] [] (He.ga K "_law_is_habit") fd ∧ Binds K fd ["_law_value"] [] := by
  obtain ⟨fd, F⟩ := c.old.def_ 29 (d := d__law_is_habit) rfl
  exact ⟨fd, F, FunD.bindsN F fun _ _ _ _ _ _ us hl => match us, hl with | [_], _ => rfl⟩
theorem mg__law_is_habit (X : K.In h) (G : h.Ns mainGlobals mg) (c : SaysX fa gl fn K) : mg "_law_is_habit" = some (.ref (He.ga K "_law_is_habit")) := He.glo_ok X G (c.old.fact 29 (f := .glo "_law_is_habit") rfl)
theorem gf__law_is_habit (X : K.In h) (G : h.Ns mainGlobals mg) (c : SaysX fa gl fn K) : GF P w K mg base 2 1 "_law_is_habit" g__law_is_habit := by
  obtain ⟨fd, F, b⟩ := fun__law_is_habit c
  refine ⟨_, fd, ["_law_value"], 2, Nat.le_refl _, rfl, mg__law_is_habit X G c, F.kp, b, ?_⟩
  have h__law_is_int := (gf__law_is_int (P := P) (w := w) (base := base) X G c).mono (by decide : 1 ≤ 1)
  have h__law_among := (gf__law_among (P := P) (w := w) (base := base) X G c).mono (by decide : 1 ≤ 1)
  exact def_ok (lv := 1) F sc__law_is_habit (blt_ok X G c) _ (by repeat' (first | exact True.intro | refine And.intro ?_ ?_ | exact h__law_is_int | exact h__law_among)) (ck__law_is_habit _ _)
theorem fun__law_is_phrase (c : SaysX fa gl fn K) : ∃ fd, FunD K "_law_is_phrase" "_law_is_phrase" (defArgs (top 51)) (defBody (top 51)) (defScope (top 51)) [] [] (He.ga K "_law_is_phrase") fd ∧ Binds K fd ["_law_value", "_law_most"] [] := by
  obtain ⟨fd, F⟩ := c.old.def_ 30 (d := d__law_is_phrase) rfl
  exact ⟨fd, F, FunD.bindsN F fun _ _ _ _ _ _ us hl => match us, hl with | [_, _], _ => rfl⟩
theorem mg__law_is_phrase (X : K.In h) (G : h.Ns mainGlobals mg) (c : SaysX fa gl fn K) : mg "_law_is_phrase" = some (.ref (He.ga K "_law_is_phrase")) := He.glo_ok X G (c.old.fact 30 (f := .glo "_law_is_phrase") rfl)
theorem gf__law_is_phrase (X : K.In h) (G : h.Ns mainGlobals mg) (c : SaysX fa gl fn K) : ∀ n, GF P w K mg base (1 + n) 2 "_law_is_phrase" (g__law_is_phrase n)
  | 0 => by
    obtain ⟨fd, F, b⟩ := fun__law_is_phrase c
    exact ⟨_, fd, ["_law_value", "_law_most"], 1, Nat.le_refl _, rfl, mg__law_is_phrase X G c, F.kp, b, fn_stuck⟩
  | n + 1 => by
    obtain ⟨fd, F, b⟩ := fun__law_is_phrase c
    have ih := gf__law_is_phrase X G c n
    refine ⟨_, fd, ["_law_value", "_law_most"], 1 + n + 1, Nat.le_refl _, rfl, mg__law_is_phrase X G c, F.kp, b, ?_⟩
    have h__law_is_int := (gf__law_is_int (P := P) (w := w) (base := base) X G c).mono (Nat.le_add_right 1 n |> Nat.le_trans (by decide : 1 ≤ 1))
    exact def_ok (lv := 1 + n) F sc__law_is_phrase (blt_ok X G c) _ (by repeat' (first | exact True.intro | refine And.intro ?_ ?_ | exact ih | exact h__law_is_int)) (ck__law_is_phrase _ _)
theorem fun__law_is_lot (c : SaysX fa gl fn K) : ∃ fd, FunD K "_law_is_lot" "_law_is_lot" (defArgs (top 52)) (defBody (top 52)) (defScope (top 52)) [] [] (He.ga K "_law_is_lot") fd ∧ Binds K fd ["_law_value"] [] := by
  obtain ⟨fd, F⟩ := c.old.def_ 31 (d := d__law_is_lot) rfl
  exact ⟨fd, F, FunD.bindsN F fun _ _ _ _ _ _ us hl => match us, hl with | [_], _ => rfl⟩
theorem mg__law_is_lot (X : K.In h) (G : h.Ns mainGlobals mg) (c : SaysX fa gl fn K) : mg "_law_is_lot" = some (.ref (He.ga K "_law_is_lot")) := He.glo_ok X G (c.old.fact 31 (f := .glo "_law_is_lot") rfl)
theorem gf__law_is_lot (X : K.In h) (G : h.Ns mainGlobals mg) (c : SaysX fa gl fn K) : GF P w K mg base 3 1 "_law_is_lot" g__law_is_lot := by
  obtain ⟨fd, F, b⟩ := fun__law_is_lot c
  refine ⟨_, fd, ["_law_value"], 3, Nat.le_refl _, rfl, mg__law_is_lot X G c, F.kp, b, ?_⟩
  have h__law_is_habit := (gf__law_is_habit (P := P) (w := w) (base := base) X G c).mono (by decide : 2 ≤ 2)
  exact def_ok (lv := 2) F sc__law_is_lot (blt_ok X G c) _ (by repeat' (first | exact True.intro | refine And.intro ?_ ?_ | exact h__law_is_habit)) (ck__law_is_lot _)
theorem fun__law_sorted__t (c : SaysX fa gl fn K) : ∃ fd, FunD K "_law_sorted" "_law_sorted" (defArgs (top 44)) (defBody (top 44)) (defScope (top 44)) [] [] (He.ga K "_law_sorted") fd ∧ Binds K fd ["_law_phrases"] [] := by
  obtain ⟨fd, F⟩ := c.old.def_ 22 (d := d__law_sorted) rfl
  exact ⟨fd, F, FunD.bindsN F fun _ _ _ _ _ _ us hl => match us, hl with | [_], _ => rfl⟩
theorem mg__law_sorted__t (X : K.In h) (G : h.Ns mainGlobals mg) (c : SaysX fa gl fn K) : mg "_law_sorted" = some (.ref (He.ga K "_law_sorted")) := He.glo_ok X G (c.old.fact 22 (f := .glo "_law_sorted") rfl)
theorem gf__law_sorted__t (X : K.In h) (G : h.Ns mainGlobals mg) (c : SaysX fa gl fn K) : GF P w K mg base 7 1 "_law_sorted" g__law_sorted__t := by
  obtain ⟨fd, F, b⟩ := fun__law_sorted__t c
  refine ⟨_, fd, ["_law_phrases"], 7, Nat.le_refl _, rfl, mg__law_sorted__t X G c, F.kp, b, ?_⟩
  have h__law_words := (gf__law_words (P := P) (w := w) (base := base) X G c 6).mono (by decide : 6 ≤ 6)
  have h__law_made__t := (gf__law_made__t (P := P) (w := w) (base := base) X G c).mono (by decide : 1 ≤ 6)
  exact def_ok (lv := 6) F sc__law_sorted__t (blt_ok X G c) _ (by repeat' (first | exact True.intro | refine And.intro ?_ ?_ | exact h__law_words | exact h__law_made__t)) (ck__law_sorted__t _ _)
theorem fun__law_is_book (c : SaysX fa gl fn K) : ∃ fd, FunD K "_law_is_book" "_law_is_book" (defArgs (top 53)) (defBody (top 53)) (defScope (top 53)) [] [] (He.ga K "_law_is_book") fd ∧ Binds K fd ["_law_value"] [] := by
  obtain ⟨fd, F⟩ := c.old.def_ 32 (d := d__law_is_book) rfl
  exact ⟨fd, F, FunD.bindsN F fun _ _ _ _ _ _ us hl => match us, hl with | [_], _ => rfl⟩
theorem mg__law_is_book (X : K.In h) (G : h.Ns mainGlobals mg) (c : SaysX fa gl fn K) : mg "_law_is_book" = some (.ref (He.ga K "_law_is_book")) := He.glo_ok X G (c.old.fact 32 (f := .glo "_law_is_book") rfl)
theorem gf__law_is_book (X : K.In h) (G : h.Ns mainGlobals mg) (c : SaysX fa gl fn K) : GF P w K mg base 8 1 "_law_is_book" g__law_is_book := by
  obtain ⟨fd, F, b⟩ := fun__law_is_book c
  refine ⟨_, fd, ["_law_value"], 8, Nat.le_refl _, rfl, mg__law_is_book X G c, F.kp, b, ?_⟩
  have h__law_is_phrase := (gf__law_is_phrase (P := P) (w := w) (base := base) X G c 6).mono (by decide : 7 ≤ 7)
  have h__law_sorted__t := (gf__law_sorted__t (P := P) (w := w) (base := base) X G c).mono (by decide : 7 ≤ 7)
  exact def_ok (lv := 7) F sc__law_is_book (blt_ok X G c) _ (by repeat' (first | exact True.intro | refine And.intro ?_ ?_ | exact h__law_is_phrase | exact h__law_sorted__t)) (ck__law_is_book _ _)
theorem fun__law_told_right (c : SaysX fa gl fn K) : ∃ fd, FunD K "_law_told_right" "_law_told_right" (defArgs (top 54)) (defBody (top 54)) (defScope (top 54)) [] [] (He.ga K "_law_told_right") fd ∧ Binds K fd ["_law_value"] [] := by
  obtain ⟨fd, F⟩ := c.old.def_ 33 (d := d__law_told_right) rfl
  exact ⟨fd, F, FunD.bindsN F fun _ _ _ _ _ _ us hl => match us, hl with | [_], _ => rfl⟩
theorem mg__law_told_right (X : K.In h) (G : h.Ns mainGlobals mg) (c : SaysX fa gl fn K) : mg "_law_told_right" = some (.ref (He.ga K "_law_told_right")) := He.glo_ok X G (c.old.fact 33 (f := .glo "_law_told_right") rfl)
theorem gf__law_told_right (X : K.In h) (G : h.Ns mainGlobals mg) (c : SaysX fa gl fn K) : GF P w K mg base 11 1 "_law_told_right" g__law_told_right := by
  obtain ⟨fd, F, b⟩ := fun__law_told_right c
  refine ⟨_, fd, ["_law_value"], 11, Nat.le_refl _, rfl, mg__law_told_right X G c, F.kp, b, ?_⟩
  have h_is_book := (gf_is_book (P := P) (w := w) (base := base) X G c).mono (by decide : 10 ≤ 10)
  have h_is_phrase := (gf_is_phrase (P := P) (w := w) (base := base) X G c).mono (by decide : 9 ≤ 10)
  have h_is_lot := (gf_is_lot (P := P) (w := w) (base := base) X G c).mono (by decide : 3 ≤ 10)
  have h_is_habit := (gf_is_habit (P := P) (w := w) (base := base) X G c).mono (by decide : 2 ≤ 10)
  have h__law_is_book := (gf__law_is_book (P := P) (w := w) (base := base) X G c).mono (by decide : 8 ≤ 10)
  have h__law_is_phrase := (gf__law_is_phrase (P := P) (w := w) (base := base) X G c 6).mono (by decide : 7 ≤ 10)
  have h__law_is_lot := (gf__law_is_lot (P := P) (w := w) (base := base) X G c).mono (by decide : 3 ≤ 10)
  have h__law_is_habit := (gf__law_is_habit (P := P) (w := w) (base := base) X G c).mono (by decide : 2 ≤ 10)
  exact def_ok (lv := 10) F sc__law_told_right (blt_ok X G c) _ (by repeat' (first | exact True.intro | refine And.intro ?_ ?_ | exact h_is_book | exact h_is_phrase | exact h_is_lot | exact h_is_habit | exact h__law_is_book | exact h__law_is_phrase | exact h__law_is_lot | exact h__law_is_habit)) (ck__law_told_right _ _ _ _ _ _ _ _)
theorem fun_law (c : SaysX fa gl fn K) : ∃ fd, FunD K "law" "law" (defArgs (top 55)) (defBody (top 55)) (defScope (top 55)) [] [] (He.ga K "law") fd ∧ Binds K fd ["_law_script"] [] := by
  obtain ⟨fd, F⟩ := c.old.def_ 34 (d := d_law) rfl
  exact ⟨fd, F, FunD.bindsN F fun _ _ _ _ _ _ us hl => match us, hl with | [_], _ => rfl⟩
theorem mg_law (X : K.In h) (G : h.Ns mainGlobals mg) (c : SaysX fa gl fn K) : mg "law" = some (.ref (He.ga K "law")) := He.glo_ok X G (c.old.fact 34 (f := .glo "law") rfl)
theorem fn_law (X : K.In h) (G : h.Ns mainGlobals mg) (c : SaysX fa gl fn K) {fd : FuncData} (F : FunD K "law" "law" (defArgs (top 55)) (defBody (top 55)) (defScope (top 55)) [] [] (He.ga K "law") fd) : FnOk P w K mg base (L2.CX P w) 14 (He.ga K "law") fd ["_law_script"] (spG K mg 1 K01.g_law) := by
  have h__law_bag := (gb__law_bag (P := P) (w := w) (base := base) X G c).mono (by decide : 1 ≤ 13)
  have h__law_phrase := (gf__law_phrase (P := P) (w := w) (base := base) X G c 4).mono (by decide : 6 ≤ 13)
  have h__law_book := (gf__law_book (P := P) (w := w) (base := base) X G c).mono (by decide : 8 ≤ 13)
  have h__law_lot := (gf__law_lot (P := P) (w := w) (base := base) X G c).mono (by decide : 4 ≤ 13)
  have h__law_habit := (gf__law_habit (P := P) (w := w) (base := base) X G c).mono (by decide : 3 ≤ 13)
  have h__law_of := (gf__law_of (P := P) (w := w) (base := base) X G c).mono (by decide : 2 ≤ 13)
  have h__law_spoiled := (gf__law_spoiled (P := P) (w := w) (base := base) X G c 8).mono (by decide : 13 ≤ 13)
  have h__law_any_value := (gf__law_any_value (P := P) (w := w) (base := base) X G c 3).mono (by decide : 5 ≤ 13)
  have h__law_told_right := (gf__law_told_right (P := P) (w := w) (base := base) X G c).mono (by decide : 11 ≤ 13)
  have h_words := (gf_words (P := P) (w := w) (base := base) X G c).mono (by decide : 11 ≤ 13)
  have h__law_words := (gf__law_words (P := P) (w := w) (base := base) X G c 6).mono (by decide : 6 ≤ 13)
  have h_all_habits := (gf_all_habits (P := P) (w := w) (base := base) X G c).mono (by decide : 2 ≤ 13)
  exact def_ok (lv := 13) F sc_law (blt_ok X G c) _ (by repeat' (first | exact True.intro | refine And.intro ?_ ?_ | exact h__law_bag | exact h__law_phrase | exact h__law_book | exact h__law_lot | exact h__law_habit | exact h__law_of | exact h__law_spoiled | exact h__law_any_value | exact h__law_told_right | exact h_words | exact h__law_words | exact h_all_habits)) (ck_law _ _ _ _ _ _ _ _ _ _ _ _)
end
end K01
set_option Elab.async false
set_option linter.all false
set_option maxRecDepth 100000
/-! K01E: the end. -/
open PySem PySem.W PySem.Calls PyProof.Rows
set_option maxRecDepth 100000 in
set_option maxHeartbeats 0 in
theorem PySem.Challenge.cw_retolddays_k01_habits_phrases_and_books_holds : PySem.Challenge.rw_retolddays_k01_habits_phrases_and_books.Holds := by
  w_on; o_law
  refine HandSHeadRun.head_any (r := OpenLaw.row PySem.Challenge.rw_retolddays_k01_habits_phrases_and_books) (q := view (OpenLaw.row PySem.Challenge.rw_retolddays_k01_habits_phrases_and_books).prog [55]) (H := K01.hk) (ob := K01.ob) (M := 8000) (loose := K01.loose)
    (d := HandSHeadRun.topDef (OpenLaw.row PySem.Challenge.rw_retolddays_k01_habits_phrases_and_books).prog 55) (kwd := []) K01.ob_eq
    (by kernel_rfl) (fun s => by kernel_rfl) K01.run_top (by kernel_rfl) (by kernel_rfl) (by kernel_rfl) (by rfl)
    (by first | assumption | decide +kernel) (by decide +kernel) ⟨rfl, rfl, rfl, rfl, rfl, by decide +kernel⟩ ?hw ?hc
  case hw => w_witness2
  case hc =>
    refine L2.walk_ofE (l := PySem.Challenge.rw_retolddays_k01_habits_phrases_and_books) (n := 63) (k := 14) (x := "_law_script") (CX := RD.CXA) rfl (by decide) (by kernel_rfl) ⟨rfl, by decide, by decide⟩ ?F RD.law_out
    intro w mg fa h Y G hmg0
    obtain ⟨K, KX, c⟩ := Y
    have en : (HandSHeadRun.topDef (OpenLaw.row PySem.Challenge.rw_retolddays_k01_habits_phrases_and_books).prog 55).name = ("law" : PySem.Str) := by kernel_rfl
    rw [en] at hmg0
    have e := hmg0.symm.trans (K01.mg_law KX G c)
    cases e
    obtain ⟨fd, F, b⟩ := K01.fun_law c
    exact ⟨K, fd, RD.spG K mg 1 K01.g_law, KX, fun s u => L2.FunD.bindsA (ps := ["_law_script"]) F (fun _ _ _ _ _ _ us hl => match us, hl with | [_], _ => rfl) s [u] rfl,
      fun H a ns hl _ hS => RD.spG_law hS (K01.law_true ns hl), fun base _ _ => RD.fn_cxa (K01.fn_law KX G c F)⟩
