import PyProof.Rows.All
import Wide.All
import OpenK.AllK
import Wide.FinOn
import HandS.Words
import HandS.Head0
import HandS.Head1
import HandS.Head2
import HandS.HeadEnd
import HandS.HeadHook1
import HandS.HeadHook2
import KE.KIsAll
import KE.KSuper
import HandS.Exc
import HandS.ExcField
import PySem.Challenge.RW_retolddays_k15_texts_that_are_no_phrases
import KE.SortData
import KE.KeyNested
import HandS.ForMost
import HandS.ForExc
import HandS.Style
import HandS.TupAny
import HandS.TupMul
import HandS.Deep
import HandS.IsInst
import HandS.Text
import HandS.Dict
import HandS.Conv
import HandS.ExcOwn
import HandS.TryOnly
import HandS.ExcValue
import HandS.ExcInit
import HandS.TupSets
import PyProof.WalksMore
import HandS.Strs
import HandS.Zip
import HandS.Small
import HandS.Defaults
import KE.KSuperObj
import KE.KExcSuper
import KE.KExcIs
import HandS.Base
import HandS.Call
import HandS.List
import HandS.ExcIs
import HandS.Nested
set_option Elab.async false
set_option linter.all false
set_option maxRecDepth 100000
/-! RdT0: what the top's run is asked about: defs, classes, constants. (Ahead of all others: the top's run wants the memory.) -/
namespace RD
open PySem L2
/-- the module's own tuples: they are not tracked in the heap -/
def constL : List PyData := [.tuple [.int 0, .int 5, .int 6], .tuple [.str "later", .str "now"], .tuple [.str "coming", .str "second", .str "week"], .tuple [.str "from", .str "with"], .tuple [.str "name", .str "this", .str "next", .str "last"], .tuple [.str "after", .str "before", .str "week"]]
def constB (d : PyData) : Bool := constL.any fun c => PyData.eqv c d
def bltNames : List Str := ["len", "int", "str", "bool", "abs", "max", "min", "tuple", "list", "all", "isinstance", "range", "sorted", "set", "zip"]
mutual
def datB (K : PySem.W.Frag) : PyData → Value → Bool
  | .none, .none => true
  | .bool b, .bool c => b == c
  | .int i, .int j _ => decide (i = j)
  | .str x, .str y _ => decide (x = y)
  | .tuple ds, .ref a => (match K.lookup a with
    | some ⟨.type c, _, .seq its _, _⟩ => decide (c = "tuple") && decide (its.size ≤ sizeLine) && (constB (.tuple ds) && datsB K ds its.toList)
    | _ => false)
  | _, _ => false
def datsB (K : PySem.W.Frag) : List PyData → List Value → Bool
  | [], [] => true
  | d :: ds, v :: vs => datB K d v && datsB K ds vs
  | _, _ => false
end
def gloB (K : PySem.W.Frag) (q : Str × PyData) : Bool := match PySem.W.nsIn K mainGlobals q.1 with
  | some (some u) => datB K q.2 u
  | _ => false
def obsX (fa : List He.Fa) (gl : List (Str × PyData)) (fn : List He.DefD) (K : PySem.W.Frag) : He.AlD := ((He.obsD fa fn K).1 && gl.all (gloB K), (He.obsD fa fn K).2)
def SaysX (fa : List He.Fa) (gl : List (Str × PyData)) (fn : List He.DefD) (K : PySem.W.Frag) : Prop := obsX fa gl fn K = He.valD fn
end RD
set_option Elab.async false
set_option linter.all false
set_option maxRecDepth 100000
/-! ExT: what the top's run is asked about own exception classes. (Ahead of the others, as RdT0.) -/
namespace RD
open PySem L2
/-- an exception class over ValueError, with an initializer of its own or none -/
def oexB (K : PySem.W.Frag) (C : Addr) : Bool := (match K.lookup C with
  | some ⟨.type t, _, .cls cd, sl⟩ => decide (t = "type") && (match cd.mro, sl.toList with
    | .ref C' :: bm, [_, _, _, _, some (.builtin n), _] => decide (C' = C) && PySem.HandSPX.refsVE bm && cd.hasDict && !cd.hasDel && decide (n = "ValueError.__new__")
    | _, _ => false)
  | _ => false) && (decide (PySem.W.findIn K (.ref C) "__setattr__" = some (some (.builtin "object.__setattr__"))) && (decide (PySem.W.subIn K (.ref C) (.type "BaseException") = some true) && (decide (PySem.W.typeIn K (.ref C) = some (.type "type")) && PySem.W.keepIn K (.ref C))))
/-- an initializer with super().__init__(text) and one field -/
def xtB (K : PySem.W.Frag) (file x : Str) : Bool := oexB K (He.ga K x) && (decide (PySem.W.findIn K (.ref (He.ga K x)) "__init__" = some (some (.ref (He.ma K (He.ga K x) "__init__")))) && (decide (PySem.W.typeIn K (.ref (He.ma K (He.ga K x) "__init__")) = some (.type "function")) &&
  ((match K.lookup (He.ma K (He.ga K x) "__init__") with
    | some ⟨_, _, .func fd, _⟩ => (match fd.code, fd.closure, fd.defaults with
      | .ref cda, [(_, cc)], .none => PySem.W.codeIn K (.ref cda) fd.qualname && ((match K.lookup cda with
        | some ⟨_, _, .fields vs, _⟩ => (match (vs[2]? : Option Value) with
          | some (.str fl _) => decide (fl = file)
          | _ => false)
        | _ => false) && (match K.lookup cc with
        | some ⟨_, _, .cell (some (.ref C)), _⟩ => decide (C = He.ga K x)
        | _ => false))
      | _, _, _ => false)
    | _ => false) && (decide (PySem.W.ks_superIn K (He.ga K x) (He.ga K x) "__init__" = some (some (.builtin "ValueError.__init__"))) && (decide (PySem.W.subIn K (.ref (He.ga K x)) (.type "ValueError") = some true) && (decide (PySem.W.mroIn K (He.ga K x) (.ref (He.ga K x)) = some true) &&
    (decide (PySem.W.nsIn K cStatics "thirdparty.any" = some none) && (decide (PySem.W.findIn K (.ref (He.ga K x)) "word" = some none) && xfB K (He.ga K x)))))))))
/-- an initializer: its class, its words -/
structure XtD where
  cls : Str
  qual : Str
  params : Arguments
  body : List Stmt
  scope : Scope
/-- the i-th statement of a class's body -/
def inCls (s : Stmt) (i : Nat) : Stmt := match s with
  | .ClassDef _ _ _ b _ _ _ _ _ _ _ => b.getD i (.Pass ⟨0, 0, 0, 0⟩)
  | _ => .Pass ⟨0, 0, 0, 0⟩
def XtD.val (d : XtD) : He.FnW := some ("__init__", d.qual, d.params, .stmts d.body, d.scope, mainGlobals, [("__class__", 0)], builtinsNs)
def XtD.obs (K : PySem.W.Frag) (d : XtD) : He.FnW := match K.lookup (He.ma K (He.ga K d.cls) "__init__") with
  | some ⟨_, _, .func fd, _⟩ => some (fd.name, fd.qualname, fd.params, fd.body, fd.scope, fd.globals, fd.closure.map fun q => (q.1, 0), fd.builtins)
  | _ => none
def asY (g : Addr → Option Obj) : Nat → List Addr
  | 0 => [mainGlobals, cStatics]
  | n + 1 => He.growD g (asY g n)
/-- bs: tests of one's own; xs: initializers -/
def obsY (bs : List (PySem.W.Frag → Bool)) (xs : List XtD) (fa : List He.Fa) (gl : List (Str × PyData)) (fn : List He.DefD) (K : PySem.W.Frag) : He.AlD × List He.FnW := (((obsX fa gl fn K).1 && bs.all fun b => b K, (obsX fa gl fn K).2), xs.map (XtD.obs K))
def valY (xs : List XtD) (fn : List He.DefD) : He.AlD × List He.FnW := (He.valD fn, xs.map XtD.val)
def obsYG (n : Nat) (bs : List (PySem.W.Frag → Bool)) (xs : List XtD) (fa : List He.Fa) (gl : List (Str × PyData)) (fn : List He.DefD) (g : Addr → Option Obj) : He.AlD × List He.FnW := obsY bs xs fa gl fn (He.frG g (asY g n))
def SaysY (bs : List (PySem.W.Frag → Bool)) (xs : List XtD) (fa : List He.Fa) (gl : List (Str × PyData)) (fn : List He.DefD) (K : PySem.W.Frag) : Prop := obsY bs xs fa gl fn K = valY xs fn
def hookY (n : Nat) (bs : List (PySem.W.Frag → Bool)) (xs : List XtD) (fa : List He.Fa) (gl : List (Str × PyData)) (fn : List He.DefD) : PySem.W.Hook where
  α := He.AlD × List He.FnW
  obs := fun s => obsYG n bs xs fa gl fn s.heap.get?
  val := fun _ => valY xs fn
  says := fun _ h => ∃ K : PySem.W.Frag, K.In h ∧ SaysY bs xs fa gl fn K
  of := fun _ _ e => ⟨_, He.frG_in, e⟩
  keeps := fun _ _ _ ⟨K, hK, c⟩ k => ⟨K, PySem.W.Frag.In.keeps hK k, c⟩
theorem obsYG_eq {n : Nat} {bs : List (PySem.W.Frag → Bool)} {xs : List XtD} {fa : List He.Fa} {gl : List (Str × PyData)} {fn : List He.DefD} {g : Addr → Option Obj} {s : Shared} (h : ∀ a, g a = s.heap.get? a) : obsYG n bs xs fa gl fn g = (hookY n bs xs fa gl fn).obs s := by
  have e : g = s.heap.get? := funext h
  rw [e]
  rfl
end RD
set_option Elab.async false
set_option linter.all false
/-! PgC0: the constants of the module, printed by genpg.py. -/
namespace PG
open PySem
def k_NAME : PyData := .str "name"
def k_THIS : PyData := .str "this"
def k_NEXT : PyData := .str "next"
def k_LAST : PyData := .str "last"
def k_IN : PyData := .str "in"
def k_AFTER : PyData := .str "after"
def k_BEFORE : PyData := .str "before"
def k_WEEK : PyData := .str "week"
def k_NAMED : PyData := .tuple [.str "name", .str "this", .str "next", .str "last"]
def k_AROUND : PyData := .tuple [.str "after", .str "before", .str "week"]
def k_MOST_WORDS : PyData := .int 4
def k_MOST_DAYS : PyData := .int 15
end PG
set_option Elab.async false
set_option linter.all false
set_option maxRecDepth 100000
set_option maxHeartbeats 4000000
/-! K15R: the top is run; printed by gen2.py from the linked T.py. -/
namespace K15
open PySem L2 RD PG
def top (i : Nat) : Stmt := PySem.Challenge.pw_retolddays_k15_texts_that_are_no_phrases.main.body.getD i (.Pass ⟨0, 0, 0, 0⟩)
def fl : Str := PySem.Challenge.pw_retolddays_k15_texts_that_are_no_phrases.main.file
def x_InvalidText : XtD := ⟨"InvalidText", "InvalidText.__init__", defArgs (inCls (top 2) 0), defBody (inCls (top 2) 0), defScope (inCls (top 2) 0)⟩
def xs : List XtD := [x_InvalidText]
def bs : List (PySem.W.Frag → Bool) := [fun K => xtB K fl "InvalidText"]
def gl : List (Str × PyData) := [("NAME", k_NAME), ("THIS", k_THIS), ("NEXT", k_NEXT), ("LAST", k_LAST), ("IN", k_IN), ("AFTER", k_AFTER), ("BEFORE", k_BEFORE), ("WEEK", k_WEEK), ("NAMED", k_NAMED), ("AROUND", k_AROUND), ("MOST_WORDS", k_MOST_WORDS), ("MOST_DAYS", k_MOST_DAYS)]
def d_number_of : He.DefD := ⟨("number_of", none), "number_of", "number_of", defArgs (top 16), defBody (top 16), defScope (top 16), [], []⟩
def d_phrase_read : He.DefD := ⟨("phrase_read", none), "phrase_read", "phrase_read", defArgs (top 17), defBody (top 17), defScope (top 17), [], []⟩
def d_read_phrase : He.DefD := ⟨("read_phrase", none), "read_phrase", "read_phrase", defArgs (top 18), defBody (top 18), defScope (top 18), [], []⟩
def d__law_bag : He.DefD := ⟨("_law_bag", none), "_law_bag", "_law_bag", defArgs (top 20), defBody (top 20), defScope (top 20), [], []⟩
def d__law_take : He.DefD := ⟨("_law_take", none), "_law_take", "_law_take", defArgs (top 21), defBody (top 21), defScope (top 21), [], []⟩
def d__law_of : He.DefD := ⟨("_law_of", none), "_law_of", "_law_of", defArgs (top 22), defBody (top 22), defScope (top 22), [], []⟩
def d__law_phrase : He.DefD := ⟨("_law_phrase", none), "_law_phrase", "_law_phrase", defArgs (top 23), defBody (top 23), defScope (top 23), [], []⟩
def d__law_words : He.DefD := ⟨("_law_words", none), "_law_words", "_law_words", defArgs (top 24), defBody (top 24), defScope (top 24), [], []⟩
def d__law_is_int : He.DefD := ⟨("_law_is_int", none), "_law_is_int", "_law_is_int", defArgs (top 25), defBody (top 25), defScope (top 25), [], []⟩
def d__law_is_phrase : He.DefD := ⟨("_law_is_phrase", none), "_law_is_phrase", "_law_is_phrase", defArgs (top 26), defBody (top 26), defScope (top 26), [], []⟩
def d__law_begins : He.DefD := ⟨("_law_begins", none), "_law_begins", "_law_begins", defArgs (top 27), defBody (top 27), defScope (top 27), [], []⟩
def d__law_read : He.DefD := ⟨("_law_read", none), "_law_read", "_law_read", defArgs (top 28), defBody (top 28), defScope (top 28), [], []⟩
def d__law_right : He.DefD := ⟨("_law_right", none), "_law_right", "_law_right", defArgs (top 29), defBody (top 29), defScope (top 29), [], []⟩
def d__law_bent_text : He.DefD := ⟨("_law_bent_text", none), "_law_bent_text", "_law_bent_text", defArgs (top 30), defBody (top 30), defScope (top 30), [], []⟩
def d_law : He.DefD := ⟨("law", none), "law", "law", defArgs (top 31), defBody (top 31), defScope (top 31), [], []⟩
def fn : List He.DefD := [d_number_of, d_phrase_read, d_read_phrase, d__law_bag, d__law_take, d__law_of, d__law_phrase, d__law_words, d__law_is_int, d__law_is_phrase, d__law_begins, d__law_read, d__law_right, d__law_bent_text, d_law]
def fa : List He.Fa := [.glo "number_of", .glo "phrase_read", .glo "read_phrase", .glo "_law_bag", .glo "_law_take", .glo "_law_of", .glo "_law_phrase", .glo "_law_words", .glo "_law_is_int", .glo "_law_is_phrase", .glo "_law_begins", .glo "_law_read", .glo "_law_right", .glo "_law_bent_text", .glo "law", .glo "InvalidText", .exm "InvalidText" "InvalidText" true, .glo "DayError", .free "super", .free "ValueError"] ++ bltNames.map He.Fa.free
abbrev RowR : PySem.W.OpenRow := PySem.W.OpenLaw.row PySem.Challenge.rw_retolddays_k15_texts_that_are_no_phrases
abbrev hk : PySem.W.Hook := hookY 6 bs xs fa gl fn
def ob (s : PySem.W.SharedT) : He.AlD × List He.FnW := obsYG 6 bs xs fa gl fn (HandSHeadRun.getT s)
theorem ob_eq (s : PySem.W.SharedT) : ob s = hk.obs s.abs := obsYG_eq (HandSHeadRun.getT_eq s)
def loose0 : List Str := ["DayError", "InvalidText", "NAME", "THIS", "NEXT", "LAST", "IN", "AFTER", "BEFORE", "WEEK", "NAMED", "AROUND", "MOST_WORDS", "MOST_DAYS", "number_of", "phrase_read", "read_phrase", "_law_bag", "_law_take", "_law_of", "_law_phrase", "_law_words", "_law_is_int", "_law_is_phrase", "_law_begins"]
def loose1 : List Str := ["_law_read", "_law_right", "_law_bent_text"]
def loose : List Str := loose0 ++ loose1
theorem run_top (w : World) : HandSHeadRun.RunEq RowR (PySem.W.view RowR.prog [31]) hk ob 8000 loose w := by
  intro os
  kernel_rfl
end K15
set_option Elab.async false
set_option linter.all false
set_option maxRecDepth 100000
/-! RdSe: the order of alike data; the sorted list without doubles. -/
namespace RD
open PySem PySem.W PyProof.Rows
mutual
theorem eq_of_eqv : ∀ (x y : PyData), alike x y = true → PyData.eqv x y = true → x = y
  | .none, y, h, e => by cases y <;> first | rfl | exact absurd h (by simp [alike])
  | .bool a, y, h, e => by
    cases y with
    | bool b => rw [show a = b by simpa [PyData.eqv] using e]
    | _ => exact absurd h (by simp [alike])
  | .int a, y, h, e => by
    cases y with
    | int b => rw [show a = b by simpa [PyData.eqv] using e]
    | _ => exact absurd h (by simp [alike])
  | .str a, y, h, e => by
    cases y with
    | str b => rw [show a = b by simpa [PyData.eqv] using e]
    | _ => exact absurd h (by simp [alike])
  | .list xs, y, h, e => by
    cases y with
    | list ys => rw [eq_of_eqvAll xs ys (by simpa [alike] using h) (by simpa [PyData.eqv] using e)]
    | _ => exact absurd h (by simp [alike])
  | .tuple xs, y, h, e => by
    cases y with
    | tuple ys => rw [eq_of_eqvAll xs ys (by simpa [alike] using h) (by simpa [PyData.eqv] using e)]
    | _ => exact absurd h (by simp [alike])
  | .dict _, y, h, _ => absurd h (by cases y <;> simp [alike])
theorem eq_of_eqvAll : ∀ (xs ys : List PyData), alikeAll xs ys = true → PyData.eqvAll xs ys = true → xs = ys
  | [], [], _, _ => rfl
  | [], y :: ys, _, e => absurd e (by simp [PyData.eqvAll])
  | x :: xs, [], _, e => absurd e (by simp [PyData.eqvAll])
  | x :: xs, y :: ys, h, e => by
    rw [eqv_all_cons, Bool.and_eq_true] at e
    obtain ⟨h1, h2⟩ := alike_all_cons h
    rw [eq_of_eqv x y h1 e.1, eq_of_eqvAll xs ys h2 e.2]
end
theorem lt_irr (x : PyData) : dataLt x x = false := lex_irrefl (O := itemOrd) _
theorem lt_tr {x y z : PyData} (h : dataLt x y = true) (k : dataLt y z = true) : dataLt x z = true := lex_trans (O := itemOrd) _ _ _ h k
theorem lt_tri {x y : PyData} (a : alike x y = true) (h : dataLt x y = false) (k : dataLt y x = false) : x = y := by
  have e : keyToks x = keyToks y := lex_total (O := itemOrd) _ _ h k
  refine eq_of_eqv x y a ?_
  cases q : PyData.eqv x y with
  | true => rfl
  | false =>
    have t := (toks_eqv x y a).2 q
    have t1 := t [] [.inl 0]
    have t2 := t [.inl 0] []
    rw [e, lex_pre] at t1 t2
    rw [← t2] at t1
    exact t1.symm
/-- x is put into a list that ascends -/
def insD (x : PyData) : List PyData → List PyData
  | [] => [x]
  | y :: r => if dataLt x y = true then x :: y :: r else if dataLt y x = true then y :: insD x r else y :: r
/-- sorted(set(ds)) -/
def uniqD (ds : List PyData) : List PyData := ds.foldr insD []
abbrev Up (l : List PyData) : Prop := l.Pairwise fun x y => dataLt x y = true
theorem mem_ins {x : PyData} : ∀ {l : List PyData}, (∀ y ∈ l, alike x y = true) → ∀ z, z ∈ insD x l ↔ z = x ∨ z ∈ l
  | [], _, z => by simp [insD]
  | y :: r, h, z => by
    have ih := mem_ins (l := r) (fun u hu => h u (List.mem_cons_of_mem _ hu)) z
    unfold insD
    split
    · simp
    · split
      · rw [List.mem_cons, ih, List.mem_cons]
        constructor
        · rintro (e | e | e)
          · exact .inr (.inl e)
          · exact .inl e
          · exact .inr (.inr e)
        · rintro (e | e | e)
          · exact .inr (.inl e)
          · exact .inl e
          · exact .inr (.inr e)
      · rename_i h1 h2
        have : x = y := lt_tri (h y List.mem_cons_self) (by simpa using h1) (by simpa using h2)
        rw [List.mem_cons, ← this]
        constructor
        · exact .inr
        · rintro (e | e)
          · exact .inl e
          · exact e
theorem up_ins {x : PyData} : ∀ {l : List PyData}, (∀ y ∈ l, alike x y = true) → Up l → Up (insD x l)
  | [], _, _ => by simp [insD, Up]
  | y :: r, h, u => by
    obtain ⟨u1, u2⟩ := List.pairwise_cons.mp u
    have hr := fun z (hz : z ∈ r) => h z (List.mem_cons_of_mem _ hz)
    unfold insD
    split
    · rename_i c
      refine List.pairwise_cons.mpr ⟨fun z hz => ?_, u⟩
      rcases List.mem_cons.mp hz with rfl | hz
      · exact c
      · exact lt_tr c (u1 z hz)
    · split
      · rename_i c
        refine List.pairwise_cons.mpr ⟨fun z hz => ?_, up_ins hr u2⟩
        rcases (mem_ins hr z).mp hz with rfl | hz
        · exact c
        · exact u1 z hz
      · exact u
theorem uniq_both : ∀ {ds : List PyData}, AllAlike ds → (∀ z, z ∈ uniqD ds ↔ z ∈ ds) ∧ Up (uniqD ds)
  | [], _ => ⟨fun z => by simp [uniqD], by simp [uniqD, Up]⟩
  | x :: r, h => by
    obtain ⟨h1, h2⟩ := uniq_both (ds := r) fun a ha b hb => h a (List.mem_cons_of_mem _ ha) b (List.mem_cons_of_mem _ hb)
    have al : ∀ y ∈ uniqD r, alike x y = true := fun y hy => h x List.mem_cons_self y (List.mem_cons_of_mem _ ((h1 y).mp hy))
    refine ⟨fun z => ?_, up_ins al h2⟩
    show z ∈ insD x (uniqD r) ↔ _
    rw [mem_ins al, h1, List.mem_cons]
theorem uniq_mem {ds : List PyData} (h : AllAlike ds) (z : PyData) : z ∈ uniqD ds ↔ z ∈ ds := (uniq_both h).1 z
theorem uniq_up {ds : List PyData} (h : AllAlike ds) : Up (uniqD ds) := (uniq_both h).2
/-- a list that ascends is told by its members -/
theorem up_eq : ∀ {l m : List PyData}, Up l → Up m → (∀ z, z ∈ l ↔ z ∈ m) → l = m
  | [], [], _, _, _ => rfl
  | [], y :: m, _, _, h => absurd ((h y).mpr List.mem_cons_self) (by simp)
  | x :: l, [], _, _, h => absurd ((h x).mp List.mem_cons_self) (by simp)
  | x :: l, y :: m, a, b, h => by
    obtain ⟨a1, a2⟩ := List.pairwise_cons.mp a
    obtain ⟨b1, b2⟩ := List.pairwise_cons.mp b
    have e : x = y := by
      rcases List.mem_cons.mp ((h x).mp List.mem_cons_self) with e | e
      · exact e
      · rcases List.mem_cons.mp ((h y).mpr List.mem_cons_self) with q | q
        · exact q.symm
        · have := lt_tr (b1 x e) (a1 y q)
          rw [lt_irr] at this
          cases this
    subst e
    have hm : ∀ z, z ∈ l ↔ z ∈ m := fun z => by
      have := h z
      rw [List.mem_cons, List.mem_cons] at this
      constructor
      · intro hz
        rcases this.mp (.inr hz) with e | e
        · rw [e] at hz
          have := a1 x hz
          rw [lt_irr] at this
          cases this
        · exact e
      · intro hz
        rcases this.mpr (.inr hz) with e | e
        · rw [e] at hz
          have := b1 x hz
          rw [lt_irr] at this
          cases this
        · exact e
    rw [up_eq a2 b2 hm]
theorem uniq_eq {ds l : List PyData} (h : AllAlike ds) (u : Up l) (m : ∀ z, z ∈ l ↔ z ∈ ds) : uniqD ds = l := up_eq (uniq_up h) u fun z => by rw [uniq_mem h, m]
/-! ### what can be a key; what is sorted -/
mutual
/-- whole numbers, texts, None, tuples of such -/
def plainK : PyData → Bool
  | .none => true
  | .int _ => true
  | .str _ => true
  | .tuple ds => plainKs ds
  | _ => false
def plainKs : List PyData → Bool
  | [] => true
  | d :: r => plainK d && plainKs r
end
mutual
def keyK : PyData → NestedKey
  | .int i => .num i
  | .str x => .text x
  | .tuple ds => .tup (keyKs ds)
  | _ => .none
def keyKs : List PyData → List NestedKey
  | [] => []
  | d :: r => keyK d :: keyKs r
end
def isIntD : PyData → Bool
  | .int _ => true
  | _ => false
def tup1 : PyData → Bool
  | .tuple (_ :: _) => true
  | _ => false
def nestB (d : PyData) : Bool := plainK d && decide (d.depth ≤ 8) && decide ((keyK d).depth ≤ 8)
def alikeB (ds : List PyData) : Bool := ds.all fun x => ds.all fun y => PySem.W.alike x y
/-- what a set is made of here -/
def isTupD : PyData → Bool
  | .tuple _ => true
  | _ => false
def setOk (ds : List PyData) : Bool := (ds.all isIntD && decide (ds.length < 64)) || (ds.all isTupD && ds.all nestB && alikeB ds && decide ((uniqD ds).length < 64))
def uniqOk (ds : List PyData) : Bool := setOk ds && (ds.all isIntD || ds.all tup1)
/-- sorted(ds), doubles kept -/
def insS (x : PyData) : List PyData → List PyData
  | [] => [x]
  | y :: r => if PySem.W.dataLt y x = true then y :: insS x r else x :: y :: r
def sortD (ds : List PyData) : List PyData := ds.foldr insS []
def noneD : PyData → Bool
  | .none => true
  | _ => false
def srtOk (ds : List PyData) : Bool := alikeB ds && (ds.all tup1 || ds.all fun d => !isTupD d && !noneD d) && ds.all (fun d => decide (d.depth ≤ 8)) && decide (ds.length ≤ 1000000)
end RD
set_option Elab.async false
set_option maxRecDepth 100000
/-! RdA: syntax trees without names and positions, and what they compute over plain data. -/
namespace RD
open PySem L2
/-- the drawing bag's two numbers, where there is one -/
abbrev Bag := Option (Int × Int)

inductive U where
  | d (x : PyData)
  | bag
  | scr (ns : List Int)

/-- what is a slot's own: a growing list, a dict (keys: tuples) -/
inductive Own where
  | l (ds : List PyData)
  | d (kvs : List (List Key × PyData))
inductive Slot where
  | un
  | val (u : U)
  | ow (o : Own)
abbrev Slot.ol (ds : List PyData) : Slot := .ow (.l ds)

structure S where
  rho : List Slot
  bag : Bag

inductive R (α : Type) where
  | ok (a : α) (s : S)
  | exn (c : Str) (p : Option PyData) (s : S)
  | stuck

def R.bind {α β : Type} (m : R α) (k : α → S → R β) : R β :=
  match m with
  | .ok a s => k a s
  | .exn c p s => .exn c p s
  | .stuck => .stuck
@[simp] theorem R.bind_ok {α β : Type} (a : α) (s : S) (k : α → S → R β) : (R.ok a s).bind k = k a s := rfl
@[simp] theorem R.bind_exn {α β : Type} (c : Str) (p : Option PyData) (s : S) (k : α → S → R β) : (R.exn c p s : R α).bind k = .exn c p s := rfl
@[simp] theorem R.bind_stuck {α β : Type} (k : α → S → R β) : (R.stuck : R α).bind k = .stuck := rfl

/-- what a call hands back -/
inductive RB where
  | ok (u : U) (b : Bag)
  | exn (c : Str) (p : Option PyData) (b : Bag)
  | stuck
abbrev G := List U → Bag → RB

def RB.lift (r : RB) (s : S) : R U :=
  match r with
  | .ok u b => .ok u ⟨s.rho, b⟩
  | .exn c p b => .exn c p ⟨s.rho, b⟩
  | .stuck => .stuck
@[simp] theorem RB.lift_ok (u : U) (b : Bag) (s : S) : (RB.ok u b).lift s = .ok u ⟨s.rho, b⟩ := rfl
@[simp] theorem RB.lift_exn (c : Str) (p : Option PyData) (b : Bag) (s : S) : (RB.exn c p b).lift s = .exn c p ⟨s.rho, b⟩ := rfl
@[simp] theorem RB.lift_stuck (s : S) : RB.stuck.lift s = .stuck := rfl

inductive BOp where
  | add | sub | mul | fdiv | mod | pow
  deriving DecidableEq
inductive COp where
  | eq | ne | lt | le | gt | ge | isin | notin
  deriving DecidableEq
def BOp.op : BOp → Operator
  | .add => .Add | .sub => .Sub | .mul => .Mult | .fdiv => .FloorDiv | .mod => .Mod | .pow => .Pow
def COp.op : COp → CmpOp
  | .eq => .Eq | .ne => .NotEq | .lt => .Lt | .le => .LtE | .gt => .Gt | .ge => .GtE | .isin => .In | .notin => .NotIn

instance decMul (i j : Int) : Decidable (CMul i j) := by unfold CMul; infer_instance
instance decDiv (i j : Int) : Decidable (CDivN i j) := by unfold CDivN; infer_instance
instance decPow (i j : Int) : Decidable (CPow i j) := by unfold CPow; infer_instance
/-- the greatest length that is carried -/
abbrev big : Nat := 16777216

def binop : BOp → PyData → PyData → Option PyData
  | .add, .int i, .int j => some (.int (i + j))
  | .add, .str x, .str y => if x.length + y.length ≤ big then some (.str (x ++ y)) else none
  | .add, .tuple xs, .tuple ys => if xs.length + ys.length ≤ big then some (.tuple (xs ++ ys)) else none
  | .add, .list xs, .list ys => if xs.length + ys.length ≤ big then some (.list (xs ++ ys)) else none
  | .sub, .int i, .int j => some (.int (i - j))
  | .mul, .int i, .int j => if CMul i j then some (.int (i * j)) else none
  | .mul, .tuple xs, .int k => if 2 ≤ k ∧ k ≤ 1000 ∧ xs.length ≤ 1000 then some (.tuple (List.replicate k.toNat xs).flatten) else if k = 1 then some (.tuple xs) else none
  | .mul, .list xs, .int k => if 0 ≤ k ∧ k ≤ 1000 ∧ xs.length ≤ 1000 then some (.list (List.replicate k.toNat xs).flatten) else none
  | .fdiv, .int i, .int j => if CDivN i j then some (.int (i.fdiv j)) else none
  | .mod, .int i, .int j => if j = 0 then none else some (.int (i.fmod j))
  | .pow, .int i, .int j => if CPow i j then some (.int (i ^ j.toNat)) else none
  | _, _, _ => none

def cmpop : COp → PyData → PyData → Option Bool
  | .eq, x, y => if SeqAt.shaped x && SeqAt.shaped y then some (PyData.eqv x y) else none
  | .ne, x, y => if SeqAt.shaped x && SeqAt.shaped y then some (!PyData.eqv x y) else none
  | .lt, .int i, .int j => some (decide (i < j))
  | .lt, .str x, .str y => some (decide (x.cps.toList < y.cps.toList))
  | .lt, .tuple xs, .tuple ys => if PySem.W.alike (.tuple xs) (.tuple ys) && decide ((PyData.tuple xs).depth ≤ 40) && ((PyData.tuple xs).canLay0 && (PyData.tuple ys).canLay0) then some (PySem.W.dataLt (.tuple xs) (.tuple ys)) else none
  | .le, .int i, .int j => some (decide (i ≤ j))
  | .gt, .int i, .int j => some (decide (j < i))
  | .ge, .int i, .int j => some (decide (j ≤ i))
  | .isin, x, .tuple ys => if SeqAt.shaped x && SeqAt.shaped (.tuple ys) then some (ys.any fun z => PyData.eqv z x) else none
  | .isin, x, .list ys => if SeqAt.shaped x && SeqAt.shaped (.list ys) then some (ys.any fun z => PyData.eqv z x) else none
  | .notin, x, .tuple ys => if SeqAt.shaped x && SeqAt.shaped (.tuple ys) then some (!ys.any fun z => PyData.eqv z x) else none
  | .notin, x, .list ys => if SeqAt.shaped x && SeqAt.shaped (.list ys) then some (!ys.any fun z => PyData.eqv z x) else none
  | _, _, _ => none

def idxop : PyData → PyData → Option PyData
  | .tuple xs, .int i => atI xs i
  | .list xs, .int i => atI xs i
  | _, _ => none

def cutD (xs : List PyData) (lo hi : Option Int) : List PyData := (xs.drop (HT.sIx xs.length 0 lo)).take (HT.sIx xs.length xs.length hi - HT.sIx xs.length 0 lo)
def slcop : PyData → Option Int → Option Int → Option PyData
  | .tuple xs, lo, hi => some (.tuple (cutD xs lo hi))
  | .list xs, lo, hi => some (.list (cutD xs lo hi))
  | .str x, lo, hi => if x.length ≤ big then some (.str (cutS x lo hi)) else none
  | _, _, _ => none

/-- built-in calls -/
inductive BF where
  | len | int | str | bool | abs | max2 | min2 | max1 | min1 | sorted | tuple | list | all | isInt | isBool | isStr | isTuple | isList
  deriving DecidableEq

def allB : List PyData → Option Bool
  | [] => some true
  | .bool b :: r => (allB r).map fun c => b && c
  | _ :: _ => none

def isiD (n : BF) : PyData → Option Bool
  | .none => some false
  | .bool _ => some (n == .isInt || n == .isBool)
  | .int _ => some (n == .isInt)
  | .str _ => some (n == .isStr)
  | .list _ => some (n == .isList)
  | .tuple _ => some (n == .isTuple)
  | .dict _ => Option.none

def intsD : List PyData → Option (List Int)
  | [] => some []
  | .int i :: r => (intsD r).map (i :: ·)
  | _ :: _ => none
def maxI : List Int → Int
  | [] => 0
  | [x] => x
  | x :: r => if maxI r > x then maxI r else x
def minI : List Int → Int
  | [] => 0
  | [x] => x
  | x :: r => if minI r < x then minI r else x
def bltop : BF → List PyData → Option PyData
  | .len, [.tuple xs] => some (.int xs.length)
  | .len, [.list xs] => some (.int xs.length)
  | .len, [.str x] => if x.length ≤ big then some (.int x.length) else none
  | .int, [.int i] => some (.int i)
  | .int, [.bool b] => some (.int (if b then 1 else 0))
  | .str, [.int i] => if i.natAbs.log2 < 1920 then some (.str (toString i)) else none
  | .bool, [.bool b] => some (.bool b)
  | .abs, [.int i] => some (.int (if i < 0 then -i else i))
  | .max2, [.int i, .int j] => some (.int (if j > i then j else i))
  | .min2, [.int i, .int j] => some (.int (if j < i then j else i))
  | .max1, [.list xs] => match intsD xs with
    | some (n :: ns) => some (.int (maxI (n :: ns)))
    | _ => none
  | .min1, [.list xs] => match intsD xs with
    | some (n :: ns) => some (.int (minI (n :: ns)))
    | _ => none
  | .sorted, [.list xs] => if srtOk xs then some (.list (sortD xs)) else none
  | .tuple, [.list xs] => some (.tuple xs)
  | .tuple, [.tuple xs] => some (.tuple xs)
  | .list, [.list xs] => some (.list xs)
  | .list, [.tuple xs] => some (.list xs)
  | .all, [.list xs] => (allB xs).map .bool
  | _, _ => none

/-- methods of a text -/
inductive MF where
  | join | split
  deriving DecidableEq
def txts : List PyData → Option (List Str)
  | [] => some []
  | .str x :: r => (txts r).map (x :: ·)
  | _ :: _ => none
def mthop : MF → Str → PyData → Option PyData
  | .join, a, .list ds => match txts ds with
    | some ys => if (ys.map (·.length)).sum + ys.length * a.length ≤ big then some (.str (Txt.join a ys)) else none
    | none => none
  | .split, a, .str b => if (b.length == 0) = false ∧ a.length + 2 ≤ big then some (.list ((Txt.split a b).map .str)) else none
  | _, _, _ => none

/-- how a statement ends -/
inductive Out where
  | nx
  | rt (u : U)

/-- nodes of one's own: how they look (their parts), what they compute (from their parts) -/
abbrev CkE := List Str → Scope → Expr → Option (Option Expr × Option Expr × List Expr)
abbrev CkS := List Str → Scope → Stmt → Option (Option Expr × List Expr × List Stmt × List Stmt)
abbrev FnE := (S → R U) → (S → R U) → (S → R (List U)) → S → R U
abbrev FnI := (S → R U) → (S → R U) → (S → R (List U)) → S → R (List PyData)
abbrev FnS := (S → R U) → (S → R (List U)) → (S → R Out) → (S → R Out) → S → R Out
inductive T where
  | var (i : Nat)
  | lenS (i : Nat)
  | bget (i j : Nat)
  | sat (i : Nat) (e : T)
  | bset (i j : Nat) (e : T)
  | cst (d : PyData)
  | glob (x : Str) (d : PyData)
  | bin (op : BOp) (a b : T)
  | neg (a : T)
  | cmp (op : COp) (a b : T)
  | chain (o p : COp) (a b c : T)
  | isN (a : T)
  | notN (a : T)
  | not (a : T)
  | and (a b : T)
  | or (a b : T)
  | ite (c a b : T)
  | tup (a : T)
  | lst (a : T)
  | anil
  | acons (a r : T)
  | idx (a b : T)
  | slc (a l h : T)
  | nopart
  | rev (a : T)
  | mth (f : MF) (a b : T)
  | call (x : Str) (g : G) (a : T)
  | blt (f : BF) (a : T)
  | isi (f : BF) (a : T)
  | comp (own : List Nat) (g it c e : T)
  | yes
  | tname (i : Nat)
  | ttup (a : T)
  | itl (e : T)
  | itt (e : T)
  | itr1 (e : T)
  | itr2 (a b : T)
  | one (a : T)
  | nil
  | seq (a b : T)
  | bagged (i : Nat) (x : Str) (g : G) (a r : T)
  | asg (g e : T)
  | asgO (i : Nat) (e : T)
  | par (is : List Nat) (a : T)
  | parL (i j : Nat) (a : T)
  | parR (i j : Nat) (a : T)
  | app (i : Nat) (e : T)
  | iff (c a b : T)
  | loop (g it b : T)
  | while (n : Nat) (c b : T)
  | ret (e : T)
  | drop (e : T)
  | raise (x : Str) (a : T)
  | tryR (x : Str) (e : T) (r : Str)
  | dix (ks : List Str) (vs : List Int) (e : T)
  | lrg (a b : T)
  | lr1 (a : T)
  | uniq (e : T)
  | lenset (e : T)
  | itz (a b : T)
  | inD (neg : Bool) (i : Nat) (a : T)
  | atD (i : Nat) (a : T)
  | getD (i : Nat) (a b : T)
  | newD (i : Nat)
  | parDL (i j : Nat)
  | putD (i : Nat) (a v : T)
  | putDN (i : Nat) (a : T) (j : Nat) (v w : T)
  | inX (neg : Bool) (a e : T)
  | popO (i : Nat)
  | pop0 (i : Nat)
  | neO (i : Nat)
  | itd (e : T)
  | keysD (i : Nat)
  | par3D (i j k : Nat) (a b : T)
  | asg4D (i j k l : Nat) (a b c : T)
  | parD1 (i : Nat) (k v : T) (j : Nat) (own : Bool) (e : T)
  | parDC (i j : Nat) (c : T)
  | idxOf (lst : Bool) (a b : T)
  | trg (a : T)
  | unV (i : Nat)
  | tupK (l : T)
  | idxK (i : Nat) (b : T)
  | raiseW (x : Str) (a : T)
  | tryW (x : Str) (e : T)
  | ext (ck : CkE) (f : FnE) (a b l : T)
  | extI (tp : Bool) (ck : CkE) (f : FnI) (a b l : T)
  | exs (ck : CkS) (f : FnS) (a l b c : T)

/-- a def of the module, as data -/
def fnD (x : Str) : PyData := .dict [(.none, .str x)]
/-- a key, as data -/
def keyD1 : Key → PyData
  | .inl i => .int i
  | .inr x => .str x
def keyD (k : List Key) : PyData := .tuple (k.map keyD1)
/-- a dict, as data -/
def dctD (kvs : List (List Key × PyData)) : PyData := .dict (kvs.map fun p => (keyD p.1, p.2))
/-- a datum as a dict's key: a tuple of whole numbers and texts, tracked -/
def key1 : PyData → Option Key
  | .int i => some (.inl i)
  | .str x => some (.inr x)
  | _ => none
def keysOf : List PyData → Option (List Key)
  | [] => some []
  | d :: ds => (key1 d).bind fun k => (keysOf ds).map (k :: ·)
def keyOf : PyData → Option (List Key)
  | .tuple ds => if constB (.tuple ds) = true then none else keysOf ds
  | _ => none
def lookD : List (List Key × PyData) → List Key → Option PyData
  | [], _ => none
  | (j, x) :: r, k => if j = k then some x else lookD r k
def putD (kvs : List (List Key × PyData)) (k : List Key) (y : PyData) : List (List Key × PyData) :=
  if (kvs.any fun p => decide (p.1 = k)) = true then kvs.map fun p => if p.1 = k then (p.1, y) else p else kvs ++ [(k, y)]
/-- a datum as a dict -/
def undctL : List (PyData × PyData) → Option (List (List Key × PyData))
  | [] => some []
  | (.tuple ds, x) :: r => (keysOf ds).bind fun k => (undctL r).map ((k, x) :: ·)
  | _ :: _ => none
def undct : PyData → Option (List (List Key × PyData))
  | .dict l => undctL l
  | _ => none
/-- a tuple whose object is known, as data -/
def ktD (ds : List PyData) : PyData := .dict [(.none, .tuple ds)]
def unkt : PyData → Option (List PyData)
  | .dict [(.none, .tuple ds)] => some ds
  | _ => none
/-- an exception of an own class, as data; one with its word -/
def excD (c : Str) : PyData := .dict [(.bool false, .str c)]
def exwD (c : Str) (d : PyData) : PyData := .dict [(.bool false, .str c), (.bool false, d)]
/-- an instance of an own class that is never changed, as data -/
def istD (c : Str) (fs : List (Str × PyData)) : PyData := .dict ((.bool true, .str c) :: fs.map fun p => (.str p.1, p.2))
theorem keysOf_map : ∀ k : List Key, keysOf (k.map keyD1) = some k
  | [] => rfl
  | .inl i :: k => by
    show (some (Sum.inl i : Key)).bind (fun j => (keysOf (k.map keyD1)).map (j :: ·)) = _
    rw [keysOf_map k]
    rfl
  | .inr x :: k => by
    show (some (Sum.inr x : Key)).bind (fun j => (keysOf (k.map keyD1)).map (j :: ·)) = _
    rw [keysOf_map k]
    rfl
/-- what is a slot's own dict -/
def S.odict (s : S) (i : Nat) : Option (List (List Key × PyData)) := match s.rho[i]? with
  | some (.ow (.d kvs)) => some kvs
  | _ => none
/-- a slot's dict, its own or data -/
def S.dict (s : S) (i : Nat) : Option (List (List Key × PyData)) := match s.rho[i]? with
  | some (.ow (.d kvs)) => some kvs
  | some (.val (.d x)) => undct x
  | _ => none
/-- the first place of an equal one -/
def findD : List PyData → PyData → Option Nat
  | [], _ => none
  | x :: xs, y => if PyData.eqv x y = true then some 0 else (findD xs y).map (· + 1)
def idxofD (xs : List PyData) (y : PyData) : Option PyData := if (SeqAt.shaped y && SeqAt.shaped (.list xs)) = true then (findD xs y).map fun j => .int (j : Nat) else none
def S.get (s : S) (i : Nat) : R U :=
  match s.rho[i]? with
  | some (.val u) => .ok u s
  | some (.ow (.l ds)) => .ok (.d (.list ds)) ⟨s.rho.set i (.val (.d (.list ds))), s.bag⟩
  | some (.ow (.d kvs)) => .ok (.d (dctD kvs)) ⟨s.rho.set i (.val (.d (dctD kvs))), s.bag⟩
  | _ => .stuck
def S.set (s : S) (i : Nat) (x : PyData) : S := ⟨s.rho.set i (.val (.d x)), s.bag⟩
def R.dat {α : Type} (m : R U) (k : PyData → S → R α) : R α := m.bind fun u s => match u with
  | .d x => k x s
  | _ => .stuck
@[simp] theorem R.dat_ok {α : Type} (x : PyData) (s : S) (k : PyData → S → R α) : (R.ok (.d x) s).dat k = k x s := rfl
@[simp] theorem R.dat_bag {α : Type} (s : S) (k : PyData → S → R α) : (R.ok .bag s).dat k = .stuck := rfl
@[simp] theorem R.dat_exn {α : Type} (c : Str) (p : Option PyData) (s : S) (k : PyData → S → R α) : (R.exn c p s).dat k = .exn c p s := rfl
@[simp] theorem R.dat_stuck {α : Type} (k : PyData → S → R α) : (R.stuck).dat k = .stuck := rfl
def R.tst {α : Type} (m : R U) (k : Bool → S → R α) : R α := m.bind fun u s => match u with
  | .d (.bool b) => k b s
  | _ => .stuck
@[simp] theorem R.tst_ok {α : Type} (b : Bool) (s : S) (k : Bool → S → R α) : (R.ok (.d (.bool b)) s).tst k = k b s := rfl
@[simp] theorem R.tst_exn {α : Type} (c : Str) (p : Option PyData) (s : S) (k : Bool → S → R α) : (R.exn c p s).tst k = .exn c p s := rfl
@[simp] theorem R.tst_stuck {α : Type} (k : Bool → S → R α) : (R.stuck).tst k = .stuck := rfl
def lift (o : Option PyData) (s : S) : R U :=
  match o with
  | some x => .ok (.d x) s
  | none => .stuck
@[simp] theorem lift_some (x : PyData) (s : S) : lift (some x) s = .ok (.d x) s := rfl
@[simp] theorem lift_none (s : S) : lift none s = .stuck := rfl
def liftB (o : Option Bool) (s : S) : R U :=
  match o with
  | some x => .ok (.d (.bool x)) s
  | none => .stuck
@[simp] theorem liftB_some (x : Bool) (s : S) : liftB (some x) s = .ok (.d (.bool x)) s := rfl
@[simp] theorem liftB_none (s : S) : liftB none s = .stuck := rfl

def datas : List U → Option (List PyData)
  | [] => some []
  | .d x :: r => (datas r).map (x :: ·)
  | _ :: _ => none
@[simp] theorem datas_nil : datas [] = some [] := rfl
@[simp] theorem datas_cons (x : PyData) (r : List U) : datas (.d x :: r) = (datas r).map (x :: ·) := rfl

def isNone : PyData → Bool
  | .none => true
  | _ => false

def wipeS : List Slot → List Nat → List Slot
  | r, [] => r
  | r, v :: vs => (wipeS r vs).set v .un

/-- a comprehension's turns -/
def compR (f : PyData → S → R (Option PyData)) : List PyData → List PyData → S → R (List PyData)
  | acc, [], s => .ok acc s
  | acc, x :: xs, s => (f x s).bind fun o s => match o with
    | some y => if acc.length < big then compR f (acc ++ [y]) xs s else .stuck
    | none => compR f acc xs s
/-- a for's turns -/
def forR (f : PyData → S → R Out) : List PyData → S → R Out
  | [], s => .ok .nx s
  | x :: xs, s => (f x s).bind fun o s => match o with
    | .nx => forR f xs s
    | .rt u => .ok (.rt u) s
/-- a while's turns, at most n -/
def whileR (c : S → R U) (b : S → R Out) : Nat → S → R Out
  | 0, _ => .stuck
  | n + 1, s => (c s).tst fun k s => if k = true then (b s).bind fun o s => match o with
      | .nx => whileR c b n s
      | .rt u => .ok (.rt u) s
    else .ok .nx s
def rangeD (lo : Int) (n : Nat) : List PyData := (List.range n).map fun (k : Nat) => PyData.int (lo + (k : Int))
def raiseR {α : Type} (c : Str) (s : S) : R α := .exn c none s

/-- a dict's display of whole numbers, asked -/
def dsub : List Str → List Int → Str → Option PyData
  | k :: ks, x :: xs, z => if k = z then some (.int x) else dsub ks xs z
  | _, _, _ => none
/-- sorted(set(x)), len(set(x)) -/
def uniqop : PyData → Option PyData
  | .list xs => if uniqOk xs then some (.list (uniqD xs)) else none
  | .tuple xs => if uniqOk xs then some (.list (uniqD xs)) else none
  | _ => none
def lensop : PyData → Option PyData
  | .list xs => if setOk xs then some (.int (uniqD xs).length) else none
  | .tuple xs => if setOk xs then some (.int (uniqD xs).length) else none
  | _ => none
def zipD : List PyData → List PyData → List PyData
  | x :: xs, y :: ys => .tuple [x, y] :: zipD xs ys
  | _, _ => []
/-- a value goes to targets -/
def asgT : T → PyData → S → Option S
  | .tname i, x, s => some (s.set i x)
  | .ttup a, .tuple xs, s => asgTs a xs s
  | _, _, _ => none
where
  asgTs : T → List PyData → S → Option S
    | .anil, [], s => some s
    | .acons a r, x :: xs, s => (asgT a x s).bind fun s => asgTs r xs s
    | _, _, _ => none
termination_by structural t => t
def R.ofS (o : Option S) : R Unit :=
  match o with
  | some s => .ok () s
  | none => .stuck
@[simp] theorem R.ofS_some (s : S) : R.ofS (some s) = .ok () s := rfl
@[simp] theorem R.ofS_none : R.ofS none = .stuck := rfl

def setAll : List Nat → List PyData → S → Option S
  | [], [], s => some s
  | i :: is, x :: xs, s => setAll is xs (s.set i x)
  | _, _, _ => none

mutual
def ev : T → S → R U
  | .var i, s => s.get i
  | .lenS i, s => match s.rho[i]? with
    | some (.val (.scr ns)) => .ok (.d (.int ns.length)) s
    | _ => .stuck
  | .bget i j, s => match s.rho[i]?, s.bag with
    | some (.val .bag), some (x, y) => .ok (.d (.int (if j = 0 then x else y))) s
    | _, _ => .stuck
  | .sat i e, s => match s.rho[i]? with
    | some (.val (.scr ns)) => (ev e s).dat fun y s => match y with
      | .int k => lift ((atI ns k).map .int) s
      | _ => .stuck
    | _ => .stuck
  | .cst d, s => .ok (.d d) s
  | .glob _ d, s => .ok (.d d) s
  | .bin op a b, s => (ev a s).dat fun x s => (ev b s).dat fun y s => lift (binop op x y) s
  | .neg a, s => (ev a s).dat fun x s => match x with
    | .int i => .ok (.d (.int (-i))) s
    | _ => .stuck
  | .cmp op a b, s => (ev a s).dat fun x s => (ev b s).dat fun y s => liftB (cmpop op x y) s
  | .chain o p a b c, s => (ev a s).dat fun x s => (ev b s).dat fun y s => match cmpop o x y with
    | some true => (ev c s).dat fun z s => liftB (cmpop p y z) s
    | some false => .ok (.d (.bool false)) s
    | none => .stuck
  | .isN a, s => (ev a s).dat fun x s => .ok (.d (.bool (isNone x))) s
  | .notN a, s => (ev a s).dat fun x s => .ok (.d (.bool (!isNone x))) s
  | .not a, s => (ev a s).tst fun b s => .ok (.d (.bool (!b))) s
  | .and a b, s => (ev a s).tst fun k s => if k = true then ev b s else .ok (.d (.bool false)) s
  | .or a b, s => (ev a s).tst fun k s => if k = true then .ok (.d (.bool true)) s else ev b s
  | .ite c a b, s => (ev c s).tst fun k s => if k = true then ev a s else ev b s
  | .tup a, s => (evA a s).bind fun us s => match datas us with
    | some xs => if xs.length ≤ big then .ok (.d (.tuple xs)) s else .stuck
    | none => .stuck
  | .lst a, s => (evA a s).bind fun us s => match datas us with
    | some xs => if xs.length ≤ big then .ok (.d (.list xs)) s else .stuck
    | none => .stuck
  | .idx a b, s => (ev a s).dat fun x s => (ev b s).dat fun y s => lift (idxop x y) s
  | .slc a l h, s => (ev a s).dat fun x s => (evO l s).bind fun lo s => (evO h s).bind fun hi s => lift (slcop x lo hi) s
  | .mth f a b, s => (ev a s).dat fun x s => match x with
    | .str x => (ev b s).dat fun y s => lift (mthop f x y) s
    | _ => .stuck
  | .rev a, s => (ev a s).dat fun x s => match x with
    | .list xs => .ok (.d (.list xs.reverse)) s
    | .tuple xs => .ok (.d (.tuple xs.reverse)) s
    | _ => .stuck
  | .dix ks vs e, s => (ev e s).dat fun y s => match y with
    | .str z => lift (dsub ks vs z) s
    | _ => .stuck
  | .lrg a b, s => (ev a s).dat fun x s => (ev b s).dat fun y s => match x, y with
    | .int i, .int j => if (-1000000 ≤ i ∧ i ≤ 1000000) ∧ -1000000 ≤ j ∧ j ≤ 1000000 then .ok (.d (.list (rangeD i (j - i).toNat))) s else .stuck
    | _, _ => .stuck
  | .lr1 a, s => (ev a s).dat fun x s => match x with
    | .int j => if -1000000 ≤ j ∧ j ≤ 1000000 then .ok (.d (.list (rangeD 0 j.toNat))) s else .stuck
    | _ => .stuck
  | .uniq e, s => (ev e s).dat fun x s => lift (uniqop x) s
  | .lenset e, s => (ev e s).dat fun x s => lift (lensop x) s
  | .call _ g a, s => (evA a s).bind fun us s => (g us s.bag).lift s
  | .blt f a, s => (evA a s).bind fun us s => match datas us with
    | some xs => lift (bltop f xs) s
    | none => .stuck
  | .isi f a, s => (ev a s).dat fun x s => liftB (isiD f x) s
  | .inD neg i a, s => (ev a s).dat fun x s => match keyOf x, s.dict i with
    | some k, some kvs => .ok (.d (.bool (xor neg (lookD kvs k).isSome))) s
    | _, _ => .stuck
  | .atD i a, s => match s.dict i with
    | none => .stuck
    | some _ => (ev a s).dat fun x s => match keyOf x, s.dict i with
      | some k, some kvs => match lookD kvs k with
        | some z => .ok (.d z) s
        | none => .stuck
      | _, _ => .stuck
  | .getD i a b, s => match s.dict i with
    | none => .stuck
    | some _ => (ev a s).dat fun x s => (ev b s).dat fun y s => match keyOf x, s.dict i with
      | some k, some kvs => .ok (.d ((lookD kvs k).getD y)) s
      | _, _ => .stuck
  | .inX neg a e, s => (ev a s).dat fun x s => (ev e s).dat fun y s => match keyOf x, undct y with
    | some k, some kvs => .ok (.d (.bool (xor neg (lookD kvs k).isSome))) s
    | _, _ => .stuck
  | .popO i, s => match s.rho[i]? with
    | some (.ow (.l ds)) => match ds.getLast? with
      | some x => .ok (.d x) ⟨s.rho.set i (.ol ds.dropLast), s.bag⟩
      | none => .stuck
    | _ => .stuck
  | .pop0 i, s => match s.rho[i]? with
    | some (.ow (.l (x :: ds))) => .ok (.d x) ⟨s.rho.set i (.ol ds), s.bag⟩
    | _ => .stuck
  | .neO i, s => match s.rho[i]? with
    | some (.ow (.l ds)) => if SeqAt.shaped (.list ds) = true then .ok (.d (.bool (!ds.isEmpty))) s else .stuck
    | _ => .stuck
  | .keysD i, s => match s.dict i with
    | some kvs => if kvs.length ≤ big then .ok (.d (.list (kvs.map fun p => keyD p.1))) s else .stuck
    | none => .stuck
  | .idxOf l a b, s => (ev a s).dat fun x s => match l, x with
    | true, .list xs => (ev b s).dat fun y s => lift (idxofD xs y) s
    | _, _ => .stuck
  | .trg a, s => (ev a s).dat fun x s => match x with
    | .int j => if -1000000 ≤ j ∧ j ≤ 1000000 then .ok (.d (.tuple (rangeD 0 j.toNat))) s else .stuck
    | _ => .stuck
  | .unV i, s => (s.get i).dat fun x s => lift ((unkt x).map .tuple) s
  | .tupK l, s => (evA l s).bind fun us s => match us with
    | [.d (.list xs)] => if (keysOf xs).isNone = true then .ok (.d (ktD xs)) s else .stuck
    | _ => .stuck
  | .idxK i b, s => (s.get i).dat fun x s => match unkt x with
    | some ds => (ev b s).dat fun y s => lift (idxofD ds y) s
    | none => .stuck
  | .comp own g it c e, s => (evI it s).bind fun xs s =>
      match compR (fun x s => (R.ofS (asgT g x ⟨wipeS s.rho own, s.bag⟩)).bind fun _ s => (ev c s).tst fun k s => if k = true then (ev e s).dat fun y s => .ok (some y) s else .ok none s) [] xs s with
      | .ok ys s => .ok (.d (.list ys)) ⟨wipeS s.rho own, s.bag⟩
      | _ => .stuck
  | .yes, s => .ok (.d (.bool true)) s
  | .ext _ f a b l, s => f (fun s => ev a s) (fun s => ev b s) (fun s => evA l s) s
  | .one a, s => ev a s
  | _, _ => .stuck
def evA : T → S → R (List U)
  | .anil, s => .ok [] s
  | .acons a r, s => (ev a s).bind fun u s => (evA r s).bind fun us s => .ok (u :: us) s
  | _, _ => .stuck
def evO : T → S → R (Option Int)
  | .nopart, s => .ok none s
  | .acons a _, s => (ev a s).dat fun x s => match x with
    | .int i => .ok (some i) s
    | _ => .stuck
  | _, _ => .stuck
def evI : T → S → R (List PyData)
  | .itl e, s => (ev e s).dat fun x s => match x with
    | .list xs => .ok xs s
    | _ => .stuck
  | .itt e, s => (ev e s).dat fun x s => match x with
    | .tuple xs => .ok xs s
    | _ => .stuck
  | .itr1 e, s => (ev e s).dat fun x s => match x with
    | .int j => if j ≤ 1000000 ∧ -1000000 ≤ j then .ok (rangeD 0 j.toNat) s else .stuck
    | _ => .stuck
  | .itr2 a b, s => (ev a s).dat fun x s => (ev b s).dat fun y s => match x, y with
    | .int i, .int j => if (-1000000 ≤ i ∧ i ≤ 1000000) ∧ -1000000 ≤ j ∧ j ≤ 1000000 then .ok (rangeD i (j - i).toNat) s else .stuck
    | _, _ => .stuck
  | .itz a b, s => (ev a s).dat fun x s => (ev b s).dat fun y s => match x, y with
    | .list xs, .list ys => .ok (zipD xs ys) s
    | .tuple xs, .tuple ys => .ok (zipD xs ys) s
    | _, _ => .stuck
  | .extI _ _ f a b l, s => f (fun s => ev a s) (fun s => ev b s) (fun s => evA l s) s
  | .itd e, s => (ev e s).dat fun x s => match undct x with
    | some kvs => .ok (kvs.map fun p => keyD p.1) s
    | none => .stuck
  | _, _ => .stuck
end
/-- the bag is let go -/
def noBag : List Slot → List Slot
  | [] => []
  | .val .bag :: r => .un :: noBag r
  | x :: r => x :: noBag r

def ex : T → S → R Out
  | .nil, s => .ok .nx s
  | .bagged i _ g a r, s => (evA a s).bind fun us s => match g us s.bag, s.bag with
    | .ok (.d (.list [.int x, .int y])) none, none => match ex r ⟨(noBag s.rho).set i (.val .bag), some (x, y)⟩ with
      | .ok .nx s => .ok .nx ⟨noBag s.rho, none⟩
      | .ok (.rt (.d u)) s => .ok (.rt (.d u)) ⟨noBag s.rho, none⟩
      | _ => .stuck
    | _, _ => .stuck
  | .seq a b, s => (ex a s).bind fun o s => match o with
    | .nx => ex b s
    | .rt u => .ok (.rt u) s
  | .asg g e, s => (ev e s).dat fun x s => (R.ofS (asgT g x s)).bind fun _ s => .ok .nx s
  | .asgO i e, s => (ev e s).dat fun x s => match x with
    | .list xs => .ok .nx ⟨s.rho.set i (.ol xs), s.bag⟩
    | _ => .stuck
  | .bset i j e, s => (ev e s).dat fun v s => match v, s.rho[i]?, s.bag with
    | .int k, some (.val .bag), some (x, y) => .ok .nx ⟨s.rho, some (if j = 0 then (k, y) else (x, k))⟩
    | _, _, _ => .stuck
  | .par is a, s => (evA a s).bind fun us s => match datas us with
    | some xs => (R.ofS (setAll is xs s)).bind fun _ s => .ok .nx s
    | none => .stuck
  | .parL i j a, s => (ev a s).dat fun x s => .ok .nx ⟨(s.set i x).rho.set j (.ol []), s.bag⟩
  | .parR i j a, s => (ev a s).dat fun x s => .ok .nx (S.set ⟨s.rho.set i (.ol []), s.bag⟩ j x)
  | .parDL i j, s => .ok .nx ⟨(s.rho.set i (.ow (.d []))).set j (.ol []), s.bag⟩
  | .newD i, s => .ok .nx ⟨s.rho.set i (.ow (.d [])), s.bag⟩
  | .putD i a v, s => (ev v s).dat fun y s => match s.odict i with
    | none => .stuck
    | some _ => (ev a s).dat fun x s => match keyOf x, s.odict i with
      | some k, some kvs => if kvs.length < big then .ok .nx ⟨s.rho.set i (.ow (.d (putD kvs k y))), s.bag⟩ else .stuck
      | _, _ => .stuck
  | .putDN i a j v w, s => (ev v s).dat fun y s => (ev w s).dat fun z s => match s.odict i with
    | none => .stuck
    | some _ => (ev a s).dat fun x s => match keyOf x, s.odict i with
      | some k, some kvs => if kvs.length < big then .ok .nx (S.set ⟨s.rho.set i (.ow (.d (putD kvs k y))), s.bag⟩ j z) else .stuck
      | _, _ => .stuck
  | .par3D i j k a b, s => (ev a s).dat fun x s => (ev b s).dat fun y s => .ok .nx ⟨((s.set i x).set j y).rho.set k (.ow (.d [])), s.bag⟩
  | .asg4D i j k l a b c, s => (ev a s).dat fun x s => (ev b s).dat fun y s => (ev c s).dat fun z s => .ok .nx ⟨(((s.set i x).set j y).set k z).rho.set l (.ow (.d [])), s.bag⟩
  | .parD1 i k v j own e, s => (ev k s).dat fun x s => (ev v s).dat fun y s => match keyOf x with
    | some k => (ev e s).dat fun z s => .ok .nx ⟨(s.rho.set i (.ow (.d [(k, y)]))).set j (if own = true then .ol [z] else .val (.d (.list [z]))), s.bag⟩
    | none => .stuck
  | .parDC i j c, s => (ev c s).dat fun x s => match x with
    | .list xs => .ok .nx ⟨(s.rho.set i (.ow (.d []))).set j (.ol xs), s.bag⟩
    | _ => .stuck
  | .app i e, s => match s.rho[i]? with
    | some (.ow (.l _)) => (ev e s).dat fun x s => match s.rho[i]? with
      | some (.ow (.l ds)) => if ds.length < big then .ok .nx ⟨s.rho.set i (.ol (ds ++ [x])), s.bag⟩ else .stuck
      | _ => .stuck
    | _ => .stuck
  | .iff c a b, s => (ev c s).tst fun k s => if k = true then ex a s else ex b s
  | .loop g it b, s => (evI it s).bind fun xs s => forR (fun x s => (R.ofS (asgT g x s)).bind fun _ s => ex b s) xs s
  | .while n c b, s => whileR (fun s => ev c s) (fun s => ex b s) n s
  | .ret e, s => (ev e s).bind fun u s => .ok (.rt u) s
  | .drop e, s => (ev e s).bind fun _ s => .ok .nx s
  | .raise x _, s => raiseR x s
  | .raiseW x a, s => (ev a s).dat fun y s => .exn x (some y) s
  | .tryW x e, s => match ev e s with
    | .ok u s => .ok (.rt u) s
    | .exn c (some y) s => if c = x then .ok (.rt (.d y)) s else .stuck
    | _ => .stuck
  | .exs _ f a l b c, s => f (fun s => ev a s) (fun s => evA l s) (fun s => ex b s) (fun s => ex c s) s
  | .tryR x e r, s => match ev e s with
    | .ok u s => .ok (.rt u) s
    | .exn c none s => if c = x then .ok (.rt (.d (.str r))) s else .stuck
    | _ => .stuck
  | _, _ => .stuck

/-- a def's body as a whole: np parameters, n names -/
def run (t : T) (np n : Nat) : G := fun us b =>
  if us.length = np then
    match ex t ⟨us.map Slot.val ++ List.replicate (n - np) Slot.un, b⟩ with
    | .ok .nx s => .ok (.d .none) s.bag
    | .ok (.rt u) s => .ok u s.bag
    | .exn c p s => .exn c p s.bag
    | .stuck => .stuck
  else .stuck
end RD
set_option Elab.async false
set_option maxRecDepth 100000
/-! RdB: how data stand in the heap; what a reading promises. -/
namespace RD
open PySem L2
def Le (F F' : Hp) : Prop := ∀ a o, F a = some o → F' a = some o
theorem Le.refl (F : Hp) : Le F F := fun _ _ h => h
theorem Le.trans {F G H : Hp} (h : Le F G) (k : Le G H) : Le F H := fun a o e => k a o (h a o e)
theorem Le.upd {F : Hp} {p : Addr} (o : HO) (h : F p = none) : Le F (upd F p o) := fun a u e => by
  rw [upd_ne (ne_of_none e h)]
  exact e

end RD
namespace L2
open PySem RD
theorem SqL.mono {K : PySem.W.Frag} {F F' : Hp} {a : Addr} {xs : List V} (h : Le F F') (q : SqL K F a xs) : SqL K F' a xs := by
  rcases q with (q | ⟨o, q⟩) | q
  · exact .inl (.inl (h _ _ q))
  · exact .inl (.inr ⟨o, h _ _ q⟩)
  · exact .inr q
theorem SqT.mono {K : PySem.W.Frag} {F F' : Hp} {a : Addr} {xs : List V} (h : Le F F') (q : SqT K F a xs) : SqT K F' a xs := by
  rcases q with (q | ⟨o, q⟩) | q
  · exact .inl (.inl (h _ _ q))
  · exact .inl (.inr ⟨o, h _ _ q⟩)
  · exact .inr q
/-- a tuple is tracked, but for the module's own -/
def TrkT (F : Hp) (a : Addr) (xs : List V) (ds : List PyData) : Prop := F a = some (.tup xs) ∨ constB (.tuple ds) = true ∨ (∃ o, F a = some (.frz o (.tup xs))) ∧ keysOf ds = none
theorem TrkT.mono {F F' : Hp} {a : Addr} {xs : List V} {ds : List PyData} (h : Le F F') : TrkT F a xs ds → TrkT F' a xs ds
  | .inl e => .inl (h _ _ e)
  | .inr (.inl e) => .inr (.inl e)
  | .inr (.inr ⟨⟨o, e⟩, n⟩) => .inr (.inr ⟨⟨o, h _ _ e⟩, n⟩)
mutual
/-- v stands for the data d in what is frozen: lists are tracked, tuples may be the module's own; a def of the module; a dict -/
inductive Dn (K : PySem.W.Frag) (F : Hp) : V → PyData → Prop
  | non : Dn K F .non .none
  | bl (b : Bool) : Dn K F (.bl b) (.bool b)
  | int (i : Int) : Dn K F (.int i) (.int i)
  | str (x : Str) : Dn K F (.str x) (.str x)
  | lst {a : Addr} {xs : List V} {ds : List PyData} : F a = some (.lst xs) → DnAll K F xs ds → Dn K F (.ref a) (.list ds)
  | tup {a : Addr} {xs : List V} {ds : List PyData} : SqT K F a xs → TrkT F a xs ds → DnAll K F xs ds → Dn K F (.ref a) (.tuple ds)
  | fn {a : Addr} {x : Str} : PySem.W.nsIn K mainGlobals x = some (some (.ref a)) → Dn K F (.ref a) (fnD x)
  | dct {a : Addr} {od : Obj} {es : List (List Key × V)} {kvs : List (List Key × PyData)} : F a = some (.frz od (.dT es)) → es.map (·.1) = kvs.map (·.1) → DnAll K F (es.map (·.2)) (kvs.map (·.2)) → Dn K F (.ref a) (dctD kvs)
  | exc {a E : Addr} {c : Str} : PySem.W.nsIn K mainGlobals c = some (some (.ref E)) → F a = some (ExO (.ref E) a) → Dn K F (.ref a) (excD c)
  | exw {a E dx : Addr} {c : Str} {v : V} {d : PyData} : PySem.W.nsIn K mainGlobals c = some (some (.ref E)) → F a = some (exo a E (some dx)) → F dx = some (exd dx [(("word" : Str), v)]) → Dn K F v d → Dn K F (.ref a) (exwD c d)
  | ins {a E dx : Addr} {c : Str} {fs : List (Str × V)} {ds : List (Str × PyData)} : PySem.W.nsIn K mainGlobals c = some (some (.ref E)) → F a = some (.ins E dx fs) → fs.map (·.1) = ds.map (·.1) → DnAll K F (fs.map (·.2)) (ds.map (·.2)) → Dn K F (.ref a) (istD c ds)
  | kt {a : Addr} {ob : Obj} {xs : List V} {ds : List PyData} : F a = some (.frz ob (.tup xs)) → ob.dict = none → keysOf ds = none → DnAll K F xs ds → Dn K F (.ref a) (ktD ds)
inductive DnAll (K : PySem.W.Frag) (F : Hp) : List V → List PyData → Prop
  | nil : DnAll K F [] []
  | cons {v : V} {vs : List V} {d : PyData} {ds : List PyData} : Dn K F v d → DnAll K F vs ds → DnAll K F (v :: vs) (d :: ds)
end
mutual
/-- no def, no dict within -/
def ndB : PyData → Bool
  | .list ds => ndsB ds
  | .tuple ds => ndsB ds
  | .dict _ => false
  | .none => true
  | .bool _ => true
  | .int _ => true
  | .str _ => true
def ndsB : List PyData → Bool
  | [] => true
  | d :: ds => ndB d && ndsB ds
end
mutual
theorem nd_lay : ∀ d : PyData, d.canLay0 = true → ndB d = true
  | .none, _ => rfl
  | .bool _, _ => rfl
  | .int _, _ => rfl
  | .str _, _ => rfl
  | .dict _, h => by cases h
  | .list ds, h => nds_lay ds (by simpa [PyData.canLay0] using h)
  | .tuple ds, h => nds_lay ds (by simpa [PyData.canLay0] using h)
theorem nds_lay : ∀ ds : List PyData, PyData.canLayAll0 ds = true → ndsB ds = true
  | [], _ => rfl
  | d :: ds, h => by
    have h2 : (d.canLay0 && PyData.canLayAll0 ds) = true := by simpa [PyData.canLayAll0] using h
    rw [Bool.and_eq_true] at h2
    show (ndB d && ndsB ds) = true
    rw [nd_lay d h2.1, nds_lay ds h2.2]
    rfl
end
mutual
theorem nd_alike : ∀ d : PyData, PySem.W.alike d d = true → ndB d = true
  | .none, _ => rfl
  | .bool _, _ => rfl
  | .int _, _ => rfl
  | .str _, _ => rfl
  | .dict _, h => by simp [PySem.W.alike] at h
  | .list ds, h => nds_alike ds (by simpa [PySem.W.alike] using h)
  | .tuple ds, h => nds_alike ds (by simpa [PySem.W.alike] using h)
theorem nds_alike : ∀ ds : List PyData, PySem.W.alikeAll ds ds = true → ndsB ds = true
  | [], _ => rfl
  | d :: ds, h => by
    have h2 : (PySem.W.alike d d && PySem.W.alikeAll ds ds) = true := by simpa [PySem.W.alikeAll] using h
    rw [Bool.and_eq_true] at h2
    show (ndB d && ndsB ds) = true
    rw [nd_alike d h2.1, nds_alike ds h2.2]
    rfl
end
mutual
theorem Dn.dp {K : PySem.W.Frag} {F : Hp} : ∀ (d : PyData) (v : V), Dn K F v d → ndB d = true → Dp K F v d
  | .none, _, q, _ => by cases q; exact .non
  | .bool b, _, q, _ => by cases q; exact .bl b
  | .int i, _, q, _ => by cases q; exact .int i
  | .str x, _, q, _ => by cases q; exact .str x
  | .list ds, _, q, n => by
    cases q with
    | lst q1 q2 => exact .lst (.of q1) (Dn.dpAll ds _ q2 n)
  | .tuple ds, _, q, n => by
    cases q with
    | tup q1 _ q2 => exact .tup q1 (Dn.dpAll ds _ q2 n)
  | .dict _, _, _, n => by cases n
theorem Dn.dpAll {K : PySem.W.Frag} {F : Hp} : ∀ (ds : List PyData) (vs : List V), DnAll K F vs ds → ndsB ds = true → DpAll K F vs ds
  | [], _, q, _ => by cases q; exact .nil
  | d :: ds, _, q, n => by
    have n : (ndB d && ndsB ds) = true := n
    rw [Bool.and_eq_true] at n
    cases q with
    | cons q1 q2 => exact .cons (Dn.dp d _ q1 n.1) (Dn.dpAll ds _ q2 n.2)
end
mutual
theorem Dn.mono0 {K : PySem.W.Frag} {F F' : Hp} (h : Le F F') : ∀ {v : V} {d : PyData}, Dn K F v d → Dn K F' v d
  | _, _, .non => .non
  | _, _, .bl b => .bl b
  | _, _, .int i => .int i
  | _, _, .str x => .str x
  | _, _, .lst q1 q2 => .lst (h _ _ q1) (DnAll.mono0 h q2)
  | _, _, .tup q1 q0 q2 => .tup (q1.mono h) (q0.mono h) (DnAll.mono0 h q2)
  | _, _, .fn q => .fn q
  | _, _, .dct q1 q0 q2 => .dct (h _ _ q1) q0 (DnAll.mono0 h q2)
  | _, _, .kt q1 q0 qn q2 => .kt (h _ _ q1) q0 qn (DnAll.mono0 h q2)
  | _, _, .exc q0 q1 => .exc q0 (h _ _ q1)
  | _, _, .exw q0 q1 q2 q3 => .exw q0 (h _ _ q1) (h _ _ q2) (Dn.mono0 h q3)
  | _, _, .ins q0 q1 q2 q3 => .ins q0 (h _ _ q1) q2 (DnAll.mono0 h q3)
theorem DnAll.mono0 {K : PySem.W.Frag} {F F' : Hp} (h : Le F F') : ∀ {vs : List V} {ds : List PyData}, DnAll K F vs ds → DnAll K F' vs ds
  | _, _, .nil => .nil
  | _, _, .cons q1 q2 => .cons (Dn.mono0 h q1) (DnAll.mono0 h q2)
end
theorem Dn.mono {K : PySem.W.Frag} {F F' : Hp} (h : Le F F') (d : PyData) (v : V) (q : Dn K F v d) : Dn K F' v d := Dn.mono0 h q
theorem Dn.monoAll {K : PySem.W.Frag} {F F' : Hp} (h : Le F F') (ds : List PyData) (vs : List V) (q : DnAll K F vs ds) : DnAll K F' vs ds := DnAll.mono0 h q
theorem DnAll.length {K : PySem.W.Frag} {F : Hp} : ∀ {vs : List V} {ds : List PyData}, DnAll K F vs ds → vs.length = ds.length
  | _, _, .nil => rfl
  | _, _, .cons _ t => congrArg (· + 1) (DnAll.length t)
theorem DnAll.get {K : PySem.W.Frag} {F : Hp} : ∀ {vs : List V} {ds : List PyData} {i : Nat} {d : PyData}, DnAll K F vs ds → ds[i]? = some d → ∃ v, vs[i]? = some v ∧ Dn K F v d
  | _, _, _, _, .nil, e => by simp at e
  | _, _, 0, _, .cons r _, e => by simp at e; subst e; exact ⟨_, rfl, r⟩
  | _, _, i + 1, _, .cons _ t, e => by
    obtain ⟨v, h1, h2⟩ := DnAll.get (i := i) t (by simpa using e)
    exact ⟨v, by simpa using h1, h2⟩
theorem DnAll.append {K : PySem.W.Frag} {F : Hp} : ∀ {vs ws : List V} {ds es : List PyData}, DnAll K F vs ds → DnAll K F ws es → DnAll K F (vs ++ ws) (ds ++ es)
  | _, _, _, _, .nil, q => q
  | _, _, _, _, .cons r t, q => .cons r (DnAll.append t q)
theorem DnAll.take {K : PySem.W.Frag} {F : Hp} : ∀ {vs : List V} {ds : List PyData} (n : Nat), DnAll K F vs ds → DnAll K F (vs.take n) (ds.take n)
  | _, _, 0, _ => .nil
  | _, _, _ + 1, .nil => .nil
  | _, _, n + 1, .cons r t => .cons r (DnAll.take n t)
theorem DnAll.drop {K : PySem.W.Frag} {F : Hp} : ∀ {vs : List V} {ds : List PyData} (n : Nat), DnAll K F vs ds → DnAll K F (vs.drop n) (ds.drop n)
  | _, _, 0, q => q
  | _, _, _ + 1, .nil => .nil
  | _, _, n + 1, .cons _ t => DnAll.drop n t
theorem DnAll.reverse {K : PySem.W.Frag} {F : Hp} : ∀ {vs : List V} {ds : List PyData}, DnAll K F vs ds → DnAll K F vs.reverse ds.reverse
  | _, _, .nil => .nil
  | _, _, .cons r t => by
    rw [List.reverse_cons, List.reverse_cons]
    exact (DnAll.reverse t).append (.cons r .nil)
theorem DnAll.rep {K : PySem.W.Frag} {F : Hp} {vs : List V} {ds : List PyData} (h : DnAll K F vs ds) : ∀ n : Nat, DnAll K F (List.replicate n vs).flatten (List.replicate n ds).flatten
  | 0 => .nil
  | n + 1 => by
    rw [List.replicate_succ, List.replicate_succ, List.flatten_cons, List.flatten_cons]
    exact h.append (DnAll.rep h n)
theorem DnAll.cut {K : PySem.W.Frag} {F : Hp} {vs : List V} {ds : List PyData} (h : DnAll K F vs ds) (lo hi : Option Int) : DnAll K F (cutV vs lo hi) (cutD ds lo hi) := by
  unfold cutV cutD
  rw [h.length]
  exact (h.drop _).take _

end L2
namespace RD
open PySem L2
/-- the entry of a def: what is frozen there, the heap, the bag's place, whether there is one -/
structure Ct where
  F0 : Hp
  H0 : Hp
  b : Addr
  hb : Bool

def DenU (K : PySem.W.Frag) (b : Addr) (F : Hp) : U → V → Prop
  | .d x, v => Dn K F v x
  | .bag, v => v = .ref b
  | .scr ns, v => ∃ a, v = .ref a ∧ SqL K F a (ns.map V.int)
theorem DenU.mono {K : PySem.W.Frag} {b : Addr} {F F' : Hp} (h : Le F F') : ∀ {u : U} {v : V}, DenU K b F u v → DenU K b F' u v
  | .d _, _, q => Dn.mono h _ _ q
  | .bag, _, q => q
  | .scr _, _, ⟨a, e, q⟩ => ⟨a, e, SqL.mono h q⟩

/-- an own thing stands in the heap so -/
def OwnIs (K : PySem.W.Frag) (F : Hp) : Own → HO → Prop
  | .l ds, u => ∃ vs, u = .lst vs ∧ DnAll K F vs ds
  | .d kvs, u => ∃ es : List (List Key × V), u = .dT es ∧ es.map (·.1) = kvs.map (·.1) ∧ DnAll K F (es.map (·.2)) (kvs.map (·.2))
theorem OwnIs.mono {K : PySem.W.Frag} {F F' : Hp} (h : Le F F') : ∀ {o : Own} {u : HO}, OwnIs K F o u → OwnIs K F' o u
  | .l _, _, ⟨vs, e, q⟩ => ⟨vs, e, DnAll.mono0 h q⟩
  | .d _, _, ⟨es, e, k, q⟩ => ⟨es, e, k, DnAll.mono0 h q⟩
theorem OwnIs.ntup {K : PySem.W.Frag} {F : Hp} : ∀ {o : Own} {u : HO}, OwnIs K F o u → ∀ xs, u ≠ .tup xs
  | .l _, _, ⟨_, e, _⟩, _, z => by rw [e] at z; cases z
  | .d _, _, ⟨_, e, _⟩, _, z => by rw [e] at z; cases z
structure Rel (K : PySem.W.Frag) (C : Ct) (F : Hp) (s : S) (σ : L2.St) (H : Hp) : Prop where
  le : Le F H
  ge : Le C.F0 F
  new : ∀ a o, F a = some o → (∀ xs, o ≠ .tup xs) → C.F0 a = some o ∨ C.H0 a = none
  keep : ∀ a o, C.H0 a = some o → (C.hb = false ∨ a ≠ C.b) → H a = some o
  hbag : s.bag.isSome = C.hb
  bag : ∀ x y, s.bag = some (x, y) → H C.b = some (.lst [.int x, .int y]) ∧ F C.b = none
  len : σ.length = s.rho.length
  val : ∀ (i : Nat) (u : U), s.rho[i]? = some (.val u) → ∃ v, σ[i]? = some (some v) ∧ DenU K C.b F u v
  own : ∀ (i : Nat) (ds : Own), s.rho[i]? = some (.ow ds) → ∃ p vs, σ[i]? = some (some (.ref p)) ∧ H p = some vs ∧ F p = none ∧ C.H0 p = none ∧ (C.hb = false ∨ p ≠ C.b) ∧ OwnIs K F ds vs
  apart : ∀ (i j : Nat) (ds es : Own) (p : Addr), s.rho[i]? = some (.ow ds) → s.rho[j]? = some (.ow es) → σ[i]? = some (some (.ref p)) → σ[j]? = some (some (.ref p)) → i = j

section
variable {K : PySem.W.Frag} {C : Ct} {F : Hp} {s : S} {σ : L2.St} {H : Hp}
theorem Rel.fresh0 (r : Rel K C F s σ H) {p : Addr} (h : H p = none) : C.H0 p = none := by
  cases e : C.H0 p with
  | none => rfl
  | some o =>
    by_cases hp : C.hb = false ∨ p ≠ C.b
    · rw [r.keep p o e hp] at h
      cases h
    · have h1 : C.hb = true := by
        cases q : C.hb with
        | true => rfl
        | false => exact absurd (.inl q) hp
      have h2 : p = C.b := Classical.not_not.mp fun q => hp (.inr q)
      have h3 := r.hbag
      rw [h1] at h3
      cases q : s.bag with
      | none => rw [q] at h3; cases h3
      | some xy =>
        obtain ⟨x, y⟩ := xy
        have := (r.bag x y q).1
        rw [← h2, h] at this
        cases this
theorem Rel.freeF (r : Rel K C F s σ H) {p : Addr} (h : H p = none) : F p = none := by
  cases e : F p with
  | none => rfl
  | some o => rw [r.le p o e] at h; cases h
theorem Rel.bne (r : Rel K C F s σ H) {p : Addr} (h : H p = none) : C.hb = false ∨ p ≠ C.b := by
  cases q : C.hb with
  | false => exact .inl rfl
  | true =>
    refine .inr fun e => ?_
    have h3 := r.hbag
    rw [q] at h3
    cases q2 : s.bag with
    | none => rw [q2] at h3; cases h3
    | some xy =>
      obtain ⟨x, y⟩ := xy
      have := (r.bag x y q2).1
      rw [← e, h] at this
      cases this
/-- a new object, not frozen -/
theorem Rel.lay (r : Rel K C F s σ H) {p : Addr} (o : HO) (h : H p = none) : Rel K C F s σ (upd H p o) where
  le := r.le.trans (Le.upd o h)
  ge := r.ge
  new := r.new
  keep := fun a u e n => Le.upd o h a u (r.keep a u e n)
  hbag := r.hbag
  bag := fun x y e => ⟨Le.upd o h _ _ (r.bag x y e).1, (r.bag x y e).2⟩
  len := r.len
  val := r.val
  own := fun i ds e => by
    obtain ⟨q, vs, h1, h2, h3⟩ := r.own i ds e
    exact ⟨q, vs, h1, Le.upd o h _ _ h2, h3⟩
  apart := r.apart
/-- an object that is not frozen is from now on -/
theorem Rel.freeze (r : Rel K C F s σ H) {p : Addr} {o : HO} (h : H p = some o) (h0 : C.H0 p = none) (hF : F p = none) (hb : C.hb = false ∨ p ≠ C.b)
    (ho : ∀ (i : Nat) (ds : Own), s.rho[i]? = some (.ow ds) → σ[i]? ≠ some (some (.ref p))) : Rel K C (upd F p o) s σ H where
  le := fun a u e => by
    by_cases hp : a = p
    · subst hp
      rw [upd_same] at e
      cases e
      exact h
    · rw [upd_ne hp] at e
      exact r.le a u e
  ge := r.ge.trans (Le.upd o hF)
  new := fun a u e n => by
    by_cases hp : a = p
    · subst hp
      exact .inr h0
    · rw [upd_ne hp] at e
      exact r.new a u e n
  keep := r.keep
  hbag := r.hbag
  bag := fun x y e => by
    refine ⟨(r.bag x y e).1, ?_⟩
    rw [upd_ne]
    · exact (r.bag x y e).2
    · rcases hb with q | q
      · have := r.hbag
        rw [e, q] at this
        cases this
      · exact fun z => q z.symm
  len := r.len
  val := fun i u e => by
    obtain ⟨v, h1, h2⟩ := r.val i u e
    exact ⟨v, h1, h2.mono (Le.upd o hF)⟩
  own := fun i ds e => by
    obtain ⟨q, vs, h1, h2, h3, h4, h5, h6⟩ := r.own i ds e
    refine ⟨q, vs, h1, h2, ?_, h4, h5, h6.mono (Le.upd o hF)⟩
    rw [upd_ne]
    · exact h3
    · intro z
      subst z
      exact ho i ds e h1
  apart := r.apart
theorem Rel.ownNe (r : Rel K C F s σ H) {p : Addr} (h : H p = none) (i : Nat) (ds : Own) (e : s.rho[i]? = some (.ow ds)) : σ[i]? ≠ some (some (.ref p)) := fun z => by
  obtain ⟨q, vs, h1, h2, _⟩ := r.own i ds e
  rw [z] at h1
  cases h1
  rw [h] at h2
  cases h2
/-- a new object, frozen -/
theorem Rel.alloc (r : Rel K C F s σ H) {p : Addr} (o : HO) (h : H p = none) : Rel K C (upd F p o) s σ (upd H p o) :=
  (r.lay o h).freeze upd_same (r.fresh0 h) (r.freeF h) (r.bne h) (r.ownNe h)
/-- a tuple that stands in the heap is tracked from now on -/
theorem Rel.absorb (r : Rel K C F s σ H) {p : Addr} {xs : List V} (h : H p = some (.tup xs)) : ∃ F', Le F F' ∧ Rel K C F' s σ H ∧ F' p = some (.tup xs) := by
  cases hF : F p with
  | some o =>
    have := r.le p o hF
    rw [h] at this
    cases this
    exact ⟨F, Le.refl F, r, hF⟩
  | none =>
    refine ⟨upd F p (.tup xs), Le.upd _ hF, ⟨fun a u e => ?_, r.ge.trans (Le.upd _ hF), fun a u e n => ?_, r.keep, r.hbag, fun x y e => ?_, r.len, fun i u e => ?_, fun i ds e => ?_, r.apart⟩, upd_same⟩
    · by_cases hp : a = p
      · subst hp
        rw [upd_same] at e
        cases e
        exact h
      · rw [upd_ne hp] at e
        exact r.le a u e
    · by_cases hp : a = p
      · subst hp
        rw [upd_same] at e
        cases e
        exact absurd rfl (n xs)
      · rw [upd_ne hp] at e
        exact r.new a u e n
    · refine ⟨(r.bag x y e).1, ?_⟩
      rw [upd_ne]
      · exact (r.bag x y e).2
      · intro z
        have := (r.bag x y e).1
        rw [z, h] at this
        cases this
    · obtain ⟨v, h1, h2⟩ := r.val i u e
      exact ⟨v, h1, h2.mono (Le.upd _ hF)⟩
    · obtain ⟨q, vs, h1, h2, h3, h4, h5, h6⟩ := r.own i ds e
      refine ⟨q, vs, h1, h2, ?_, h4, h5, h6.mono (Le.upd _ hF)⟩
      rw [upd_ne]
      · exact h3
      · intro z
        subst z
        rw [h] at h2
        cases h2
        exact OwnIs.ntup h6 xs rfl
/-- a slot is set -/
theorem Rel.setU (r : Rel K C F s σ H) (i : Nat) {u : U} {v : V} (d : DenU K C.b F u v) : Rel K C F ⟨s.rho.set i (.val u), s.bag⟩ (σ.set i (some v)) H where
  le := r.le
  ge := r.ge
  new := r.new
  keep := r.keep
  hbag := r.hbag
  bag := r.bag
  len := by simpa using r.len
  val := fun j w e => by
    by_cases h : i = j
    · subst h
      have hi : i < s.rho.length := by
        have := (List.getElem?_eq_some_iff.mp e).1
        simpa using this
      have e' : (s.rho.set i (Slot.val u))[i]? = some (.val w) := e
      rw [List.getElem?_set_self hi] at e'
      cases e'
      exact ⟨v, List.getElem?_set_self (by rw [r.len]; exact hi), d⟩
    · have e' : (s.rho.set i (Slot.val u))[j]? = some (.val w) := e
      rw [List.getElem?_set_ne h] at e'
      obtain ⟨v', h1, h2⟩ := r.val j w e'
      exact ⟨v', by rw [List.getElem?_set_ne h]; exact h1, h2⟩
  own := fun j ds e => by
    by_cases h : i = j
    · subst h
      have hi : i < s.rho.length := by
        have := (List.getElem?_eq_some_iff.mp e).1
        simpa using this
      have e' : (s.rho.set i (Slot.val u))[i]? = some (.ow ds) := e
      rw [List.getElem?_set_self hi] at e'
      cases e'
    · have e' : (s.rho.set i (Slot.val u))[j]? = some (.ow ds) := e
      rw [List.getElem?_set_ne h] at e'
      obtain ⟨q, vs, h1, h2⟩ := r.own j ds e'
      exact ⟨q, vs, by rw [List.getElem?_set_ne h]; exact h1, h2⟩
  apart := fun j k ds es p e1 e2 q1 q2 => by
    have ne : ∀ {j : Nat} {ds : Own}, (s.rho.set i (Slot.val u))[j]? = some (.ow ds) → i ≠ j := fun {j ds} e h => by
      subst h
      have hi : i < s.rho.length := by
        have := (List.getElem?_eq_some_iff.mp e).1
        simpa using this
      rw [List.getElem?_set_self hi] at e
      cases e
    have n1 := ne e1
    have n2 := ne e2
    have e1' : (s.rho.set i (Slot.val u))[j]? = some (.ow ds) := e1
    have e2' : (s.rho.set i (Slot.val u))[k]? = some (.ow es) := e2
    rw [List.getElem?_set_ne n1] at e1' q1
    rw [List.getElem?_set_ne n2] at e2' q2
    exact r.apart j k ds es p e1' e2' q1 q2
theorem Rel.setD (r : Rel K C F s σ H) (i : Nat) {x : PyData} {v : V} (d : Dn K F v x) : Rel K C F (s.set i x) (σ.set i (some v)) H := r.setU i (u := .d x) d
/-- a slot holds a new list of its own -/
theorem Rel.setO (r : Rel K C F s σ H) (i : Nat) {p : Addr} {vs : HO} {ds : Own} (h : H p = some vs) (hF : F p = none) (h0 : C.H0 p = none) (hb : C.hb = false ∨ p ≠ C.b) (hd : OwnIs K F ds vs)
    (ho : ∀ (j : Nat) (es : Own), i ≠ j → s.rho[j]? = some (.ow es) → σ[j]? ≠ some (some (.ref p))) : Rel K C F ⟨s.rho.set i (.ow ds), s.bag⟩ (σ.set i (some (.ref p))) H where
  le := r.le
  ge := r.ge
  new := r.new
  keep := r.keep
  hbag := r.hbag
  bag := r.bag
  len := by simpa using r.len
  val := fun j w e => by
    by_cases h : i = j
    · subst h
      have hi : i < s.rho.length := by
        have := (List.getElem?_eq_some_iff.mp e).1
        simpa using this
      have e' : (s.rho.set i (Slot.ow ds))[i]? = some (.val w) := e
      rw [List.getElem?_set_self hi] at e'
      cases e'
    · have e' : (s.rho.set i (Slot.ow ds))[j]? = some (.val w) := e
      rw [List.getElem?_set_ne h] at e'
      obtain ⟨v', h1, h2⟩ := r.val j w e'
      exact ⟨v', by rw [List.getElem?_set_ne h]; exact h1, h2⟩
  own := fun j es e => by
    by_cases hj : i = j
    · subst hj
      have hi : i < s.rho.length := by
        have := (List.getElem?_eq_some_iff.mp e).1
        simpa using this
      have e' : (s.rho.set i (Slot.ow ds))[i]? = some (.ow es) := e
      rw [List.getElem?_set_self hi] at e'
      cases e'
      exact ⟨p, vs, List.getElem?_set_self (by rw [r.len]; exact hi), h, hF, h0, hb, hd⟩
    · have e' : (s.rho.set i (Slot.ow ds))[j]? = some (.ow es) := e
      rw [List.getElem?_set_ne hj] at e'
      obtain ⟨q, vs, h1, h2⟩ := r.own j es e'
      exact ⟨q, vs, by rw [List.getElem?_set_ne hj]; exact h1, h2⟩
  apart := fun j k es fs q e1 e2 q1 q2 => by
    have e1' : (s.rho.set i (Slot.ow ds))[j]? = some (.ow es) := e1
    have e2' : (s.rho.set i (Slot.ow ds))[k]? = some (.ow fs) := e2
    have old : ∀ {j : Nat} {es : Own}, i ≠ j → (s.rho.set i (Slot.ow ds))[j]? = some (.ow es) → s.rho[j]? = some (.ow es) := fun n e => by
      rw [List.getElem?_set_ne n] at e
      exact e
    have at_i : ∀ {q : Addr}, i < σ.length → (σ.set i (some (V.ref p)))[i]? = some (some (.ref q)) → q = p := fun hi e => by
      rw [List.getElem?_set_self hi] at e
      cases e
      rfl
    have lt : ∀ {j : Nat} {q : Addr}, (σ.set i (some (V.ref p)))[j]? = some (some (.ref q)) → j < σ.length := fun e => by
      have := (List.getElem?_eq_some_iff.mp e).1
      simpa using this
    by_cases hj : i = j
    · by_cases hk : i = k
      · exact hj.symm.trans hk
      · subst hj
        have z := at_i (lt q1) q1
        rw [List.getElem?_set_ne hk] at q2
        rw [z] at q2
        exact absurd q2 (ho k fs hk (old hk e2'))
    · by_cases hk : i = k
      · subst hk
        have z := at_i (lt q2) q2
        rw [List.getElem?_set_ne hj] at q1
        rw [z] at q1
        exact absurd q1 (ho j es hj (old hj e1'))
      · rw [List.getElem?_set_ne hj] at q1
        rw [List.getElem?_set_ne hk] at q2
        exact r.apart j k es fs q (old hj e1') (old hk e2') q1 q2
end
/-- how an exception lies -/
def ErrIs (K : PySem.W.Frag) (mg : Str → Option Value) (F H : Hp) (c : Str) (p : Option PyData) (cls : Value) (d : Option Addr) : Prop :=
  ∃ E, mg c = some (.ref E) ∧ cls = .ref E ∧ match p with
    | none => d = none
    | some x => ∃ dd v, d = some dd ∧ H dd = some (.xd [(("word" : Str), v)]) ∧ Dn K F v x

def Post {α : Type} (K : PySem.W.Frag) (mg : Str → Option Value) (W : WX) (C : Ct) (F : Hp) (σ : L2.St) (m : R α) (Q : α → Hp → S → Hp → Prop) : Prop :=
  match m with
  | .ok a s => ∀ F' H', Le F F' → Rel K C F' s σ H' → Q a F' s H'
  | .exn c p s => ∀ F' H' cls d, Le F F' → Rel K C F' s σ H' → ErrIs K mg F' H' c p cls d → W cls d σ H'
  | .stuck => False
section
variable {K : PySem.W.Frag} {mg : Str → Option Value} {W : WX} {C : Ct} {F F' : Hp} {σ : L2.St} {α β : Type}
theorem Post.up {m : R α} {Q : α → Hp → S → Hp → Prop} (h : Post K mg W C F σ m Q) (le : Le F F') : Post K mg W C F' σ m Q := by
  cases m with
  | ok a s => exact fun G H l r => h G H (le.trans l) r
  | exn c p s => exact fun G H cls d l r e => h G H cls d (le.trans l) r e
  | stuck => exact h
theorem Post.imp {m : R α} {Q Q' : α → Hp → S → Hp → Prop} (h : Post K mg W C F σ m Q) (k : ∀ a F' s H', Le F F' → Rel K C F' s σ H' → Q a F' s H' → Q' a F' s H') : Post K mg W C F σ m Q' := by
  cases m with
  | ok a s => exact fun G H l r => k a G s H l r (h G H l r)
  | exn c p s => exact h
  | stuck => exact h
theorem Post.bind {m : R α} {k : α → S → R β} {Q : β → Hp → S → Hp → Prop} (h : Post K mg W C F σ (m.bind k) Q) : Post K mg W C F σ m fun a F' s _ => Post K mg W C F' σ (k a s) Q := by
  cases m with
  | ok a s => exact fun G H l _ => Post.up h l
  | exn c p s => exact h
  | stuck => exact h
theorem Post.dat {m : R U} {k : PyData → S → R β} {Q : β → Hp → S → Hp → Prop} (h : Post K mg W C F σ (m.dat k) Q) : Post K mg W C F σ m fun u F' s _ => ∃ x, u = .d x ∧ Post K mg W C F' σ (k x s) Q := by
  refine (Post.bind h).imp fun u F' s H' _ _ q => ?_
  cases u with
  | d x => exact ⟨x, rfl, q⟩
  | bag => exact q.elim
  | scr ns => exact q.elim
theorem Post.tst {m : R U} {k : Bool → S → R β} {Q : β → Hp → S → Hp → Prop} (h : Post K mg W C F σ (m.tst k) Q) : Post K mg W C F σ m fun u F' s _ => ∃ b, u = .d (.bool b) ∧ Post K mg W C F' σ (k b s) Q := by
  refine (Post.bind h).imp fun u F' s H' _ _ q => ?_
  cases u with
  | d x =>
    cases x with
    | bool b => exact ⟨b, rfl, q⟩
    | _ => exact q.elim
  | bag => exact q.elim
  | scr ns => exact q.elim
theorem Post.here {a : α} {s : S} {H : Hp} {Q : α → Hp → S → Hp → Prop} (h : Post K mg W C F σ (.ok a s) Q) (r : Rel K C F s σ H) : Q a F s H := h F H (Le.refl F) r
end
/-- an expression's reading -/
def tX (K : PySem.W.Frag) (mg : Str → Option Value) (W : WX) (t : T) : TE := fun σ H Q => ∃ C F s, Rel K C F s σ H ∧ Post K mg W C F σ (ev t s) fun u F' _ H' => ∀ v, DenU K C.b F' u v → Q v H'
/-- a list of arguments -/
def tXA (K : PySem.W.Frag) (mg : Str → Option Value) (W : WX) (t : T) : TA := fun σ H Q => ∃ C F s, Rel K C F s σ H ∧ Post K mg W C F σ (evA t s) fun us F' _ H' => ∀ vs, Paired (DenU K C.b F') us vs → Q vs H'
/-- a test -/
def tXT (K : PySem.W.Frag) (mg : Str → Option Value) (W : WX) (t : T) : TT := fun σ H Q => ∃ C F s, Rel K C F s σ H ∧ Post K mg W C F σ ((ev t s).tst .ok) fun b _ _ H' => Q b H'
/-- a part of a slice -/
def tXO (K : PySem.W.Frag) (mg : Str → Option Value) (W : WX) (t : T) : TO := fun σ H Q => ∃ C F s, Rel K C F s σ H ∧ Post K mg W C F σ (evO t s) fun o _ _ H' => Q o H'
/-- what an iterator walks -/
def Walk (K : PySem.W.Frag) (F : Hp) (J : It) (xs : List PyData) : Prop := ∀ i H, Le F H → (∀ d, xs[i]? = some d → J.go i H ∧ ∀ x H', J.yld i H x H' → (H' = H ∧ Dn K F x d) ∨ (∃ p vs ds, H p = none ∧ H' = upd H p (.tup vs) ∧ x = .ref p ∧ d = .tuple ds ∧ DnAll K F vs ds) ∨ ∃ p vs ds, H' = H ∧ H p = some (.tup vs) ∧ x = .ref p ∧ d = .tuple ds ∧ DnAll K F vs ds) ∧
  (xs.length ≤ i → J.stop i H)
def tXI (K : PySem.W.Frag) (mg : Str → Option Value) (W : WX) (t : T) : TI := fun σ H R => ∃ C F s, Rel K C F s σ H ∧ Post K mg W C F σ (evI t s) fun xs F' _ H' => ∀ J, Walk K F' J xs → R J H'
/-- the slots of a target -/
def slotsT : T → List Nat
  | .tname i => [i]
  | .ttup a => slotsT a
  | .acons a r => slotsT a ++ slotsT r
  | _ => []
def tXG (K : PySem.W.Frag) (t : T) : TG := fun v σ H Q => ∃ C F s x, Rel K C F s σ H ∧ Dn K F v x ∧ ∃ s', asgT t x s = some s' ∧ ∀ σ' : L2.St, (∀ i, i ∉ slotsT t → σ'[i]? = σ[i]?) → σ'.length = σ.length → Rel K C F s' σ' H → Q σ' H
def tXGs (K : PySem.W.Frag) (t : T) : TGs := fun vs σ H Q => ∃ C F s xs, Rel K C F s σ H ∧ DnAll K F vs xs ∧ ∃ s', asgT.asgTs t xs s = some s' ∧ ∀ σ' : L2.St, (∀ i, i ∉ slotsT t → σ'[i]? = σ[i]?) → σ'.length = σ.length → Rel K C F s' σ' H → Q σ' H
/-- how a block's end meets what is wanted -/
def PostS (K : PySem.W.Frag) (mg : Str → Option Value) (W : WX) (C : Ct) (F : Hp) (m : R Out) (D : Ends) : Prop :=
  match m with
  | .ok .nx s => ∀ F' σ H, Le F F' → Rel K C F' s σ H → D.nx σ H
  | .ok (.rt u) s => ∀ F' σ H v, Le F F' → Rel K C F' s σ H → DenU K C.b F' u v → D.rt v H
  | .exn c p s => ∀ F' σ H cls d, Le F F' → Rel K C F' s σ H → ErrIs K mg F' H c p cls d → W cls d σ H
  | .stuck => False
def tS (K : PySem.W.Frag) (mg : Str → Option Value) (W : WX) (t : T) : TS := fun D σ H => ∃ C F s, Rel K C F s σ H ∧ PostS K mg W C F (ex t s) D
end RD
namespace L2
open PySem RD
theorem PE.weak {X : Cx} {e : Expr} {t t' : TE} (h : PE X e t) (k : ∀ σ H Q, t' σ H Q → t σ H Q) : PE X e t' := ⟨fun pins s σ H Q I q => h.run pins s σ H Q I (k σ H Q q)⟩
theorem PT.weak {X : Cx} {e : Expr} {t t' : TT} (h : PT X e t) (k : ∀ σ H Q, t' σ H Q → t σ H Q) : PT X e t' := ⟨fun pins s σ H Q I q => h.run pins s σ H Q I (k σ H Q q)⟩
theorem PW.weak {X : Cx} {e : Expr} {t t' : TT} (h : PW X e t) (k : ∀ σ H Q, t' σ H Q → t σ H Q) : PW X e t' := ⟨fun wh pins s σ H Q I q => h.run wh pins s σ H Q I (k σ H Q q)⟩
theorem PA.weak {X : Cx} {e : List Expr} {t t' : TA} (h : PA X e t) (k : ∀ σ H Q, t' σ H Q → t σ H Q) : PA X e t' := ⟨fun pos pins s σ H Q I q => h.run pos pins s σ H Q I (k σ H Q q)⟩
theorem PS.weak {X : Cx} {e : Stmt} {t t' : TS} (h : PS X e t) (k : ∀ D σ H, t' D σ H → t D σ H) : PS X e t' := ⟨fun pins s σ H D I q => h.run pins s σ H D I (k D σ H q)⟩
theorem PSs.weak {X : Cx} {e : List Stmt} {t t' : TS} (h : PSs X e t) (k : ∀ D σ H, t' D σ H → t D σ H) : PSs X e t' := ⟨fun pins s σ H D I q => h.run pins s σ H D I (k D σ H q)⟩
end L2
namespace L2
open PySem RD
theorem PO.weak {X : Cx} {e : Option Expr} {t t' : TO} (h : PO X e t) (k : ∀ σ H Q, t' σ H Q → t σ H Q) : PO X e t' := ⟨fun pins s σ H Q I q => h.run pins s σ H Q I (k σ H Q q)⟩
theorem PG.weak {X : Cx} {e : Expr} {t t' : TG} (h : PG X e t) (k : ∀ v σ H Q, t' v σ H Q → t v σ H Q) : PG X e t' := ⟨fun pins s σ H v u Q I r q => h.run pins s σ H v u Q I r (k v σ H Q q)⟩
theorem PGs.weak {X : Cx} {e : List Expr} {t t' : TGs} (h : PGs X e t) (k : ∀ v σ H Q, t' v σ H Q → t v σ H Q) : PGs X e t' := ⟨fun pins s σ H v u Q I r q => h.run pins s σ H v u Q I r (k v σ H Q q)⟩
theorem PI.weak {X : Cx} {tg e : Expr} {t t' : L2.TI} (h : PI X tg e t) (k : ∀ σ H Q, t' σ H Q → t σ H Q) : PI X tg e t' := ⟨fun pins s σ H Q I q => h.run pins s σ H Q I (k σ H Q q)⟩
theorem PTs.weak {X : Cx} {e : List Expr} {t t' : TT} (h : PTs X e t) (k : ∀ σ H Q, t' σ H Q → t σ H Q) : PTs X e t' := ⟨fun pins s σ H Q I q => h.run pins s σ H Q I (k σ H Q q)⟩
end L2
set_option Elab.async false
set_option maxRecDepth 100000
/-! RdC: the operators' rules over data. -/
namespace RD
open PySem L2
section
variable {X : Cx}
/-- l + b, two lists that stand in H -/
theorem op_inT (hu : X.A.units + 65 < cLine) (neg : Bool) : OpR X (compareOp (if neg then .NotIn else .In)) (fun x y H Q => ∃ d ds, Dp X.K H x d ∧ Dp X.K H y (.tuple ds) ∧ SeqAt.shaped d = true ∧ SeqAt.shaped (.tuple ds) = true ∧ Q (.bl (xor neg (ds.any fun z => PyData.eqv z d))) H) := by
  intro pins s σ H x y v u Q I rx ry h
  obtain ⟨d, ds, hd, he, sd, se, q⟩ := h
  obtain ⟨as, r1⟩ := Dp.reads I d x v hd rx
  obtain ⟨bs, r2⟩ := Dp.reads I (.tuple ds) y u he ry
  have room : X.A.units + 1 + min (PyData.depthAll ds) d.depth < cLine := by
    have h1 := SeqAt.depth_of_shaped sd
    have h2 : min (PyData.depthAll ds) d.depth ≤ d.depth := Nat.min_le_right _ _
    omega
  have c1 := SeqAt.canLay_of_shaped se
  have c2 := SeqAt.canLay_of_shaped sd
  cases neg with
  | false => exact SeqAt.in_tuple_reads r2 r1 c1 c2 room ⟨.bl _, H, I, rfl, by simpa using q⟩
  | true => exact SeqAt.notIn_tuple_reads r2 r1 c1 c2 room ⟨.bl _, H, I, rfl, by simpa using q⟩

/-- nothing, said again -/
theorem tuple_mul0 (l : Addr) (n : Nat) (dd : Option Addr) (sl : Array (Option Value)) (x : Int) (u : Tok) (c0 : (decide (x < -(2 ^ 63)) || decide (x ≥ 2 ^ 63)) = false) :
    Meets (Builtin.«tuple.__mul__» ⟨[.ref l, .int x u], []⟩) (fun _ R s => s.heap.get? l = some { cls := .type "tuple", dict := dd, data := .seq #[] n, slots := sl } ∧ R (.ok (.ret (.ref l))) s) :=
  .of_wp fun prog w A R s h => by
    obtain ⟨hp, g, d, tk, os⟩ := s
    obtain ⟨hl, h⟩ := h
    have f1 := AutoSeq1.idx_int
    wp_walk using wpAny_loadPart' hl
    refine wpAny_ite_false (decide_eq_false (fun z => Bool.false_ne_true (c0.symm.trans z))) ?_
    wp_walk using wpAny_loadPart' hl
    exact ⟨_, rfl, h⟩
/-- () * k -/
def rRep0 (K : PySem.W.Frag) : R2 := fun x y H Q => ∃ l k, x = .ref l ∧ y = .int k ∧ SqT K H l [] ∧ 2 ≤ k ∧ k ≤ 1000 ∧ Q (.ref l) H
theorem op_rep0 : OpR X (binaryOp .Mult) (rRep0 X.K) := by
  intro pins s σ H x y v u Q I rx ry h
  obtain ⟨l, k, ex, ey, hT, k1, k2, q⟩ := h
  subst ex ey
  cases rx
  obtain ⟨t, et⟩ := ry
  subst et
  obtain ⟨its, r, ⟨⟨cls, dd, data, sl⟩, ho, hc, n, hd⟩, _⟩ := I.tuple hT
  cases (show cls = .type "tuple" from hc)
  cases (show data = .seq its.toArray n from hd)
  cases r
  have c0 : (decide (k < -(2 ^ 63)) || decide (k ≥ 2 ^ 63)) = false := by
    have z1 : decide (k < -(2 ^ 63)) = false := decide_eq_false (by omega)
    have z2 : decide (k ≥ 2 ^ 63) = false := decide_eq_false (by omega)
    rw [z1, z2]
    rfl
  have c1 := call_meets (prog := X.prog) (w := X.w) (A := X.A) (E := X.xe) PySem.F.slot_tuple_mul (s := s) (show s.TypeIs (.ref l) "tuple" from ⟨_, ho, rfl⟩) PySem.F.entry_tuple_mul (PySem.F.args_tuple_mul_2 _ _) (tuple_mul0 l n dd sl k t c0) (Q := EP X pins σ Q) ⟨ho, ⟨.ref l, H, I, rfl, q⟩⟩
  exact wpAny_binaryOp_repeat_ref (T := "tuple") (U := "int") (by decide) ⟨_, ho, rfl⟩ (fun z => typeIs_int z k t) noFill_tuple_mul PySem.F.fills_int_mul PySem.F.slot_int_rmul repeat_tuple PySem.F.slot_int_index.lookup
    (call_meets PySem.F.slot_int_rmul (typeIs_int s k t) PySem.F.entry_int_rmul (PySem.F.args_int_rmul_2 _ _) (int_rmul_tuple k t l #[] n dd sl) ⟨ho, rfl, ⟨_, ho, rfl⟩, c1⟩)
/-- a tuple, said once -/
theorem tuple_mul1 (l : Addr) (items : Array Value) (n : Nat) (dd : Option Addr) (sl : Array (Option Value)) (u : Tok) :
    Meets (Builtin.«tuple.__mul__» ⟨[.ref l, .int 1 u], []⟩) (fun _ R s => s.heap.get? l = some { cls := .type "tuple", dict := dd, data := .seq items n, slots := sl } ∧ R (.ok (.ret (.ref l))) s) :=
  .of_wp fun prog w A R s h => by
    obtain ⟨hp, g, d, tk, os⟩ := s
    obtain ⟨hl, h⟩ := h
    have f1 := AutoSeq1.idx_int
    wp_walk using wpAny_loadPart' hl
    exact ⟨_, rfl, h⟩
def rRep1 (K : PySem.W.Frag) : R2 := fun x y H Q => ∃ l xs, x = .ref l ∧ y = .int 1 ∧ SqT K H l xs ∧ Q (.ref l) H
theorem op_rep1 : OpR X (binaryOp .Mult) (rRep1 X.K) := by
  intro pins s σ H x y v u Q I rx ry h
  obtain ⟨l, xs, ex, ey, hT, q⟩ := h
  subst ex ey
  cases rx
  obtain ⟨t, et⟩ := ry
  subst et
  obtain ⟨its, r, ⟨⟨cls, dd, data, sl⟩, ho, hc, n, hd⟩, _⟩ := I.tuple hT
  cases (show cls = .type "tuple" from hc)
  cases (show data = .seq its.toArray n from hd)
  have c1 := call_meets (prog := X.prog) (w := X.w) (A := X.A) (E := X.xe) PySem.F.slot_tuple_mul (s := s) (show s.TypeIs (.ref l) "tuple" from ⟨_, ho, rfl⟩) PySem.F.entry_tuple_mul (PySem.F.args_tuple_mul_2 _ _) (tuple_mul1 l its.toArray n dd sl t) (Q := EP X pins σ Q) ⟨ho, ⟨.ref l, H, I, rfl, q⟩⟩
  exact wpAny_binaryOp_repeat_ref (T := "tuple") (U := "int") (by decide) ⟨_, ho, rfl⟩ (fun z => typeIs_int z 1 t) noFill_tuple_mul PySem.F.fills_int_mul PySem.F.slot_int_rmul repeat_tuple PySem.F.slot_int_index.lookup
    (call_meets PySem.F.slot_int_rmul (typeIs_int s 1 t) PySem.F.entry_int_rmul (PySem.F.args_int_rmul_2 _ _) (int_rmul_tuple 1 t l its.toArray n dd sl) ⟨ho, rfl, ⟨_, ho, rfl⟩, c1⟩)
def rbin (K : PySem.W.Frag) : BOp → R2
  | .add => fun x y H Q => rI0 (fun i j => .int (i + j)) x y H Q ∨ (∃ i j, x = .str i ∧ y = .str j ∧ i.length + j.length ≤ sizeLine ∧ Q (.str (i ++ j)) H) ∨ rCatA K x y H Q ∨ rCat x y H Q
  | .sub => rI0 fun i j => .int (i - j)
  | .mul => fun x y H Q => rI CMul (fun i j => .int (i * j)) x y H Q ∨ rRepT K x y H Q ∨ rRep0 K x y H Q ∨ rRep1 K x y H Q ∨ rRep x y H Q
  | .fdiv => rI CDivN fun i j => .int (i.fdiv j)
  | .mod => rI (fun _ j => j ≠ 0) fun i j => .int (i.fmod j)
  | .pow => rI CPow fun i j => .int (i ^ j.toNat)
theorem op_bin (op : BOp) : OpR X (binaryOp op.op) (rbin X.K op) := by
  cases op with
  | add => exact op_add.or (op_add_str.or (op_catA.or op_cat))
  | sub => exact op_sub
  | mul => exact op_mul.or (op_repT.or (op_rep0.or (op_rep1.or op_rep)))
  | fdiv => exact op_fdivN
  | mod => exact op_modN
  | pow => exact op_pow

/-- a < b of data that are alike -/
def rLtA (K : PySem.W.Frag) : R2 := fun x y H Q => ∃ d e, Dp K H x d ∧ Dp K H y e ∧ PySem.W.alike d e = true ∧ d.depth ≤ 40 ∧ d ≠ .none ∧ Q (.bl (PySem.W.dataLt d e)) H
theorem op_ltA (hu : X.A.units + 45 < cLine) : OpR X (compareOp .Lt) (rLtA X.K) := by
  intro pins s σ H x y v u Q I rx ry h
  obtain ⟨d, e, hx, hy, al, dp, nn, q⟩ := h
  obtain ⟨as, r1⟩ := Dp.reads I d x v hx rx
  obtain ⟨bs, r2⟩ := Dp.reads I e y u hy ry
  exact (PySem.W.rcLt_alike d e X.A s v u as bs r1 r2 al nn (by omega)) _ _ _ _ ⟨.bl (PySem.W.dataLt d e), H, I, rfl, q⟩
def rcmp (K : PySem.W.Frag) : COp → R2
  | .eq => rEqD K
  | .ne => rNeD K
  | .lt => fun x y H Q => rI0 (fun i j => .bl (decide (i < j))) x y H Q ∨ (∃ i j, x = .str i ∧ y = .str j ∧ Q (.bl (decide (i.cps.toList < j.cps.toList))) H) ∨ rLtA K x y H Q
  | .le => rI0 fun i j => .bl (decide (i ≤ j))
  | .gt => rI0 fun i j => .bl (decide (j < i))
  | .ge => rI0 fun i j => .bl (decide (j ≤ i))
  | .isin => fun x y H Q => rInD K x y H Q ∨ ∃ d ds, Dp K H x d ∧ Dp K H y (.tuple ds) ∧ SeqAt.shaped d = true ∧ SeqAt.shaped (.tuple ds) = true ∧ Q (.bl (xor false (ds.any fun z => PyData.eqv z d))) H
  | .notin => fun x y H Q => rNotInD K x y H Q ∨ ∃ d ds, Dp K H x d ∧ Dp K H y (.tuple ds) ∧ SeqAt.shaped d = true ∧ SeqAt.shaped (.tuple ds) = true ∧ Q (.bl (xor true (ds.any fun z => PyData.eqv z d))) H
theorem op_cmp (hu : X.A.units + 65 < cLine) (op : COp) : OpR X (compareOp op.op) (rcmp X.K op) := by
  cases op with
  | eq => exact op_eqD (by omega)
  | ne => exact op_neD (by omega)
  | lt => exact op_lt.or (op_lt_str.or (op_ltA (by omega)))
  | le => exact op_le
  | gt => exact op_gt
  | ge => exact op_ge
  | isin => exact (op_inD hu).or (op_inT hu false)
  | notin => exact (op_notInD hu).or (op_inT hu true)
end
section
variable {K : PySem.W.Frag} {C : Ct} {F : Hp} {s : S} {σ : L2.St} {H : Hp} {v w : V} {x y z : PyData} {Q : VK}
theorem big_line : big ≤ sizeLine := by rw [sizeLine_eq]; decide
/-- a new tuple of data -/
theorem Rel.tup (r : Rel K C F s σ H) {p : Addr} (h : H p = none) {vs : List V} {ds : List PyData} (d : DnAll K F vs ds) : ∃ F', Le F F' ∧ Rel K C F' s σ (upd H p (.tup vs)) ∧ Dn K F' (.ref p) (.tuple ds) := by
  have hF := r.freeF h
  exact ⟨_, Le.upd _ hF, r.alloc _ h, .tup (.of upd_same) (.inl upd_same) (Dn.monoAll (Le.upd _ hF) _ _ d)⟩
theorem Rel.lst (r : Rel K C F s σ H) {p : Addr} (h : H p = none) {vs : List V} {ds : List PyData} (d : DnAll K F vs ds) : ∃ F', Le F F' ∧ Rel K C F' s σ (upd H p (.lst vs)) ∧ Dn K F' (.ref p) (.list ds) := by
  have hF := r.freeF h
  exact ⟨_, Le.upd _ hF, r.alloc _ h, .lst upd_same (Dn.monoAll (Le.upd _ hF) _ _ d)⟩
theorem leaf_add (e : binop .add x y = some z) (r : Rel K C F s σ H) (dx : Dn K F v x) (dy : Dn K F w y) (q : ∀ F' H', Le F F' → Rel K C F' s σ H' → ∀ u, Dn K F' u z → Q u H') : rbin K .add v w H Q := by
  cases x with
  | int i =>
    cases y with
    | int j =>
      cases dx; cases dy; cases e
      exact .inl ⟨i, j, rfl, rfl, q F H (Le.refl _) r _ (.int _)⟩
    | _ => cases e
  | str i =>
    cases y with
    | str j =>
      cases dx; cases dy
      simp only [binop] at e
      split at e
      · rename_i hl
        cases e
        exact .inr (.inl ⟨i, j, rfl, rfl, Nat.le_trans hl big_line, q F H (Le.refl _) r _ (.str _)⟩)
      · cases e
    | _ => cases e
  | tuple xs =>
    cases y with
    | tuple ys =>
      cases dx with
      | tup h1 k1 d1 =>
        cases dy with
        | tup h2 k2 d2 =>
          rename_i a vs b ws
          simp only [binop] at e
          split at e
          · rename_i hl
            cases e
            refine .inr (.inr (.inl ⟨a, b, vs, ws, rfl, rfl, h1.mono r.le, h2.mono r.le, ?_, fun hx => ?_, fun hx hy => ?_, fun hx hy p hp => ?_⟩))
            · rw [d1.length, d2.length]
              exact Nat.le_trans hl big_line
            · subst hx
              cases d1
              exact q F H (Le.refl _) r _ (.tup h2 k2 d2)
            · subst hy
              cases d2
              rw [List.append_nil] at q
              exact q F H (Le.refl _) r _ (.tup h1 k1 d1)
            · obtain ⟨F', l, r', d⟩ := r.tup hp (d1.append d2)
              exact q F' _ l r' _ d
          · cases e
    | _ => cases e
  | list xs =>
    cases y with
    | list ys =>
      cases dx with
      | lst h1 d1 =>
        cases dy with
        | lst h2 d2 =>
          rename_i a vs b ws
          simp only [binop] at e
          split at e
          · rename_i hl
            cases e
            refine .inr (.inr (.inr ⟨a, b, vs, ws, rfl, rfl, r.le _ _ h1, r.le _ _ h2, ?_, fun p hp => ?_⟩))
            · rw [d1.length, d2.length]
              exact Nat.le_trans hl big_line
            · obtain ⟨F', l, r', d⟩ := r.lst hp (d1.append d2)
              exact q F' _ l r' _ d
          · cases e
    | _ => cases e
  | _ => cases e
theorem leaf_mul (e : binop .mul x y = some z) (r : Rel K C F s σ H) (dx : Dn K F v x) (dy : Dn K F w y) (q : ∀ F' H', Le F F' → Rel K C F' s σ H' → ∀ u, Dn K F' u z → Q u H') : rbin K .mul v w H Q := by
  cases x with
  | int i =>
    cases y with
    | int j =>
      cases dx; cases dy
      simp only [binop] at e
      split at e
      · rename_i hl
        cases e
        exact .inl ⟨i, j, rfl, rfl, hl, q F H (Le.refl _) r _ (.int _)⟩
      · cases e
    | _ => cases e
  | tuple xs =>
    cases y with
    | int k =>
      cases dx with
      | tup h1 k1 d1 =>
        cases dy
        rename_i a vs
        simp only [binop] at e
        split at e
        · rename_i hl
          cases e
          obtain ⟨n2, n3, n4⟩ := hl
          by_cases hx : vs = []
          · subst hx
            cases d1
            refine .inr (.inr (.inl ⟨a, k, rfl, rfl, h1.mono r.le, n2, n3, q F H (Le.refl _) r _ ?_⟩))
            have e0 : ∀ m : Nat, (List.replicate m ([] : List PyData)).flatten = [] := fun m => by
              induction m with
              | zero => rfl
              | succ m ih => rw [List.replicate_succ, List.flatten_cons, ih]; rfl
            rw [e0]
            exact .tup h1 k1 .nil
          · refine .inr (.inl ⟨a, k, vs, rfl, rfl, h1.mono r.le, hx, n2, n3, by rw [d1.length]; exact n4, fun p hp => ?_⟩)
            obtain ⟨F', l, r', d⟩ := r.tup hp (d1.rep k.toNat)
            exact q F' _ l r' _ d
        · split at e
          · rename_i h1'
            subst h1'
            cases e
            exact .inr (.inr (.inr (.inl ⟨a, vs, rfl, rfl, h1.mono r.le, q F H (Le.refl _) r _ (.tup h1 k1 d1)⟩)))
          · cases e
    | _ => cases e
  | list xs =>
    cases y with
    | int k =>
      cases dx with
      | lst h1 d1 =>
        cases dy
        rename_i a vs
        simp only [binop] at e
        split at e
        · rename_i hl
          cases e
          obtain ⟨n2, n3, n4⟩ := hl
          refine .inr (.inr (.inr (.inr ⟨a, k, vs, rfl, rfl, r.le _ _ h1, by omega, by omega, ?_, fun p hp => ?_⟩)))
          · rw [d1.length, sizeLine_eq]
            have : k.toNat ≤ 1000 := by omega
            exact Nat.le_trans (Nat.mul_le_mul n4 this) (by decide)
          · obtain ⟨F', l, r', d⟩ := r.lst hp (d1.rep k.toNat)
            exact q F' _ l r' _ d
        · cases e
    | _ => cases e
  | _ => cases e
theorem leaf_bin (op : BOp) (e : binop op x y = some z) (r : Rel K C F s σ H) (dx : Dn K F v x) (dy : Dn K F w y) (q : ∀ F' H', Le F F' → Rel K C F' s σ H' → ∀ u, Dn K F' u z → Q u H') : rbin K op v w H Q := by
  cases op with
  | add => exact leaf_add e r dx dy q
  | mul => exact leaf_mul e r dx dy q
  | sub =>
    cases x with
    | int i =>
      cases y with
      | int j =>
        cases dx; cases dy; cases e
        exact ⟨i, j, rfl, rfl, q F H (Le.refl _) r _ (.int _)⟩
      | _ => cases e
    | _ => cases e
  | fdiv =>
    cases x with
    | int i =>
      cases y with
      | int j =>
        cases dx; cases dy
        simp only [binop] at e
        split at e
        · rename_i hl
          cases e
          exact ⟨i, j, rfl, rfl, hl, q F H (Le.refl _) r _ (.int _)⟩
        · cases e
      | _ => cases e
    | _ => cases e
  | mod =>
    cases x with
    | int i =>
      cases y with
      | int j =>
        cases dx; cases dy
        simp only [binop] at e
        split at e
        · cases e
        · rename_i hl
          cases e
          exact ⟨i, j, rfl, rfl, hl, q F H (Le.refl _) r _ (.int _)⟩
      | _ => cases e
    | _ => cases e
  | pow =>
    cases x with
    | int i =>
      cases y with
      | int j =>
        cases dx; cases dy
        simp only [binop] at e
        split at e
        · rename_i hl
          cases e
          exact ⟨i, j, rfl, rfl, hl, q F H (Le.refl _) r _ (.int _)⟩
        · cases e
      | _ => cases e
    | _ => cases e
theorem leaf_cmp (op : COp) {b : Bool} (e : cmpop op x y = some b) (le : Le F H) (dx : Dn K F v x) (dy : Dn K F w y) (q : Q (.bl b) H) : rcmp K op v w H Q := by
  have px0 : ndB x = true → Dp K H v x := fun n => Dn.dp _ _ (Dn.mono0 le dx) n
  have py0 : ndB y = true → Dp K H w y := fun n => Dn.dp _ _ (Dn.mono0 le dy) n
  have sh : ∀ {d : PyData}, SeqAt.shaped d = true → ndB d = true := fun {d} h => nd_lay d (SeqAt.canLay_of_shaped h)
  cases op with
  | eq =>
    simp only [cmpop] at e
    split at e
    · rename_i hl
      cases e
      rw [Bool.and_eq_true] at hl
      exact ⟨x, y, px0 (sh hl.1), py0 (sh hl.2), hl.1, hl.2, q⟩
    · cases e
  | ne =>
    simp only [cmpop] at e
    split at e
    · rename_i hl
      cases e
      rw [Bool.and_eq_true] at hl
      exact ⟨x, y, px0 (sh hl.1), py0 (sh hl.2), hl.1, hl.2, q⟩
    · cases e
  | lt =>
    cases x with
    | int i =>
      cases y with
      | int j => cases dx; cases dy; cases e; exact .inl ⟨i, j, rfl, rfl, q⟩
      | _ => cases e
    | str i =>
      cases y with
      | str j => cases dx; cases dy; cases e; exact .inr (.inl ⟨i, j, rfl, rfl, q⟩)
      | _ => cases e
    | tuple xs =>
      cases y with
      | tuple ys =>
        have e' : (if (PySem.W.alike (.tuple xs) (.tuple ys) && decide ((PyData.tuple xs).depth ≤ 40) && ((PyData.tuple xs).canLay0 && (PyData.tuple ys).canLay0)) = true then some (PySem.W.dataLt (.tuple xs) (.tuple ys)) else none) = some b := e
        split at e'
        · rename_i hl
          cases e'
          rw [Bool.and_eq_true, Bool.and_eq_true, Bool.and_eq_true] at hl
          exact .inr (.inr ⟨_, _, px0 (nd_lay _ hl.2.1), py0 (nd_lay _ hl.2.2), hl.1.1, of_decide_eq_true hl.1.2, (by intro z; cases z), q⟩)
        · cases e'
      | _ => cases e
    | _ => cases e
  | le =>
    cases x with
    | int i =>
      cases y with
      | int j => cases dx; cases dy; cases e; exact ⟨i, j, rfl, rfl, q⟩
      | _ => cases e
    | _ => cases e
  | gt =>
    cases x with
    | int i =>
      cases y with
      | int j => cases dx; cases dy; cases e; exact ⟨i, j, rfl, rfl, q⟩
      | _ => cases e
    | _ => cases e
  | ge =>
    cases x with
    | int i =>
      cases y with
      | int j => cases dx; cases dy; cases e; exact ⟨i, j, rfl, rfl, q⟩
      | _ => cases e
    | _ => cases e
  | isin =>
    cases y with
    | tuple ys =>
      have e' : (if SeqAt.shaped x && SeqAt.shaped (.tuple ys) then some (ys.any fun z => PyData.eqv z x) else none) = some b := e
      split at e'
      · rename_i hl
        cases e'
        rw [Bool.and_eq_true] at hl
        exact .inr ⟨x, ys, px0 (sh hl.1), py0 (sh hl.2), hl.1, hl.2, by simpa using q⟩
      · cases e'
    | list ys =>
      have e' : (if SeqAt.shaped x && SeqAt.shaped (.list ys) then some (ys.any fun z => PyData.eqv z x) else none) = some b := e
      split at e'
      · rename_i hl
        cases e'
        rw [Bool.and_eq_true] at hl
        exact .inl ⟨x, ys, px0 (sh hl.1), py0 (sh hl.2), hl.1, hl.2, q⟩
      · cases e'
    | _ => cases e
  | notin =>
    cases y with
    | tuple ys =>
      have e' : (if SeqAt.shaped x && SeqAt.shaped (.tuple ys) then some (!ys.any fun z => PyData.eqv z x) else none) = some b := e
      split at e'
      · rename_i hl
        cases e'
        rw [Bool.and_eq_true] at hl
        exact .inr ⟨x, ys, px0 (sh hl.1), py0 (sh hl.2), hl.1, hl.2, by simpa using q⟩
      · cases e'
    | list ys =>
      have e' : (if SeqAt.shaped x && SeqAt.shaped (.list ys) then some (!ys.any fun z => PyData.eqv z x) else none) = some b := e
      split at e'
      · rename_i hl
        cases e'
        rw [Bool.and_eq_true] at hl
        exact .inl ⟨x, ys, px0 (sh hl.1), py0 (sh hl.2), hl.1, hl.2, q⟩
      · cases e'
    | _ => cases e
end
end RD
set_option Elab.async false
set_option linter.all false
set_option maxRecDepth 100000
/-! RdCc: t[::-1] of a tuple. -/
namespace RD
open PySem L2 PySem.Spec PyProof.Rows HT
section
variable {prog : Program} {w : World} {A : Around} {E : Value → Shared → Prop} {s : Shared}
theorem slice_back {sl : Addr} {vl vu vs : Value} {n : Nat} {Q : Int × Int × Nat → Shared → Prop} (hs : s.heap.IsSliceOf sl vl vu vs) (pl : IsPart vl none) (pu : IsPart vu none) (ps : IsPart vs (some (-1)))
    (h : Q ((n : Int) - 1, -1, n) s) : wpAny (model prog w) A (Builtin.Slice.sliceApplied (.ref sl) (pure (n : Int))) Q E s := by
  obtain ⟨os, o1, o2, o3⟩ := id hs
  unfold Builtin.Slice.sliceApplied Builtin.Slice.sliceFields
  refine wpAny_bind (wpAny_bind (wpAny_field o1 o3 (x := vl) rfl (wpAny_bind (wpAny_field o1 o3 (x := vu) rfl (wpAny_bind (wpAny_field o1 o3 (x := vs) rfl (wpAny_pure ?_)))))))
  refine wpAny_bind (slicePart_ ps ?_)
  show wpAny _ _ (if ((-1 : Int) == 0) = true then _ else _) _ _ s
  rw [if_neg (by decide)]
  refine wpAny_bind (slicePart_ pl (wpAny_bind (slicePart_ pu (wpAny_bind (wpAny_pure ?_)))))
  show wpAny _ _ (pure ((n : Int) - 1, (-1 : Int), Builtin.Slice.slicePlaces ((n : Int) - 1) (-1) (-1))) _ _ s
  have e : Builtin.Slice.slicePlaces ((n : Int) - 1) (-1) (-1) = n := by
    unfold Builtin.Slice.slicePlaces
    rw [if_neg (by decide)]
    by_cases h0 : (n : Int) - 1 > -1
    · rw [if_pos h0]
      simp
    · rw [if_neg h0]
      omega
  rw [e]
  exact wpAny_pure h
theorem fm_congr {α β : Type} {f g : α → Option β} : ∀ (l : List α), (∀ m ∈ l, f m = g m) → l.filterMap f = l.filterMap g
  | [], _ => rfl
  | a :: l, h => by
    rw [List.filterMap_cons, List.filterMap_cons, h a (List.mem_cons_self ..), fm_congr l fun m hm => h m (List.mem_cons_of_mem _ hm)]
theorem pick_back (xs : Array Value) : ((List.range xs.size).filterMap fun (m : Nat) => xs[((xs.size : Int) - 1 + (m : Int) * (-1)).toNat]?).toArray = xs.toList.reverse.toArray := by
  congr 1
  have e : ∀ m ∈ List.range xs.size, xs[((xs.size : Int) - 1 + (m : Int) * (-1)).toNat]? = xs.toList.reverse[m]? := by
    intro m hm
    have h1 := List.mem_range.mp hm
    have h2 : ((xs.size : Int) - 1 + (m : Int) * (-1)).toNat = xs.size - 1 - m := by omega
    rw [h2, List.getElem?_reverse (by simpa using h1)]
    simp
  rw [fm_congr _ e]
  have h3 : xs.size = xs.toList.reverse.length := by simp
  rw [h3]
  generalize xs.toList.reverse = l
  clear e h3
  induction l with
  | nil => rfl
  | cons a l ih =>
    rw [List.length_cons, List.range_succ_eq_map, List.filterMap_cons]
    simp only [List.getElem?_cons_zero, List.filterMap_map]
    congr 1
theorem getItem_back {t sl : Addr} {items : Array Value} {vl vu vs : Value} {Q : Value → Shared → Prop} (ht : IsTup s.heap t items) (hs : s.heap.IsSliceOf sl vl vu vs) (pl : IsPart vl none) (pu : IsPart vu none) (ps : IsPart vs (some (-1)))
    (h : Q (.ref s.heap.objs.size) { s with heap := s.heap.push { cls := .type "tuple", data := .seq items.toList.reverse.toArray } })
    (hsz : items.size ≤ sizeLine) : wpAny (model prog w) A (getItem (.ref t) (.ref sl)) Q E s := by
  have htake : sizeOk (.seq items.toList.reverse.toArray) := by
    show items.toList.reverse.toArray.size ≤ sizeLine
    simpa using hsz
  obtain ⟨os, o1, o2, o3⟩ := id hs
  have hTs : s.TypeIs (.ref sl) "slice" := ⟨os, o1, o2⟩
  unfold getItem
  try with_reducible refine wpAny_holding ?_
  first | refine wpAny_bind (wpAny_pure ?_) | skip
  refine wpAny_bind (wpAny_sequenceKey ht.typeIs (by decide) ?_)
  refine wpAny_bind (wpAny_callSpecial?_slot (name := Str.ofString "__getitem__") ht.typeIs PyProof.Rows.slot_tuple_getitem ?_)
  refine wpAny_call_entry PyProof.Rows.slot_tuple_getitem ht.typeIs entry_tuple_getitem ?_ (args_tuple_getitem _ _)
  show wpAny _ _ (Builtin.Tuple.tupleItemsOf (.ref t) >>= _) _ _ s
  refine wpAny_bind (tupleItemsOf_ ht (wpAny_bind (wpAny_typeOf hTs ?_)))
  rw [if_pos (by decide)]
  refine wpAny_bind (slice_back hs pl pu ps ?_)
  have hno : ¬ ((((items.size : Int) - 1) == 0 && (-1 : Int) == 1 && items.size == items.size) = true) := by simp
  show wpAny _ _ (if (((items.size : Int) - 1) == 0 && (-1 : Int) == 1 && items.size == items.size) = true then _ else _) _ _ s
  rw [if_neg hno, pick_back]
  first
    | exact wpAny_bind (m := Builtin.Tuple.tupleExact _) (wpAny_newObj_type (wpAny_pure ⟨_, rfl, wpAny_pure h⟩) htake) | exact wpAny_bind (wpAny_bind (m := Builtin.Tuple.tupleExact _) (wpAny_newObj_type (wpAny_pure ⟨_, rfl, wpAny_pure h⟩) htake)) | exact wpAny_bind (wpAny_bind (m := Builtin.Tuple.tupleExact _) (wpAny_newObj_type (wpAny_pure (wpAny_pure ⟨_, rfl, wpAny_pure h⟩)) htake)) | exact wpAny_bind (m := Builtin.Tuple.tupleExact _) (wpAny_newObj_type (wpAny_bind (wpAny_pure (wpAny_pure ⟨_, rfl, wpAny_pure h⟩))) htake)
end
section
variable {X : Cx}
def tRevT (K : PySem.W.Frag) (te : TE) : TE := fun σ H Q => te σ H fun x H1 => (∃ a xs, x = .ref a ∧ SqL K H1 a xs ∧ ∀ p, H1 p = none → Q (.ref p) (upd H1 p (.lst xs.reverse))) ∨ ∃ a xs, x = .ref a ∧ SqT K H1 a xs ∧ ∀ p, H1 p = none → Q (.ref p) (upd H1 p (.tup xs.reverse))
/-- xs[::-1] of a list, of a tuple -/
theorem pe_revA {e : Expr} {te : TE} {k : Nat} {p1 p2 p3 pos : Pos} (he : PE X e te) : PE X (.Subscript e (.Slice none none (some (.UnaryOp .USub (.Constant (.int 1) k p1) p2)) p3) pos) (tRevT X.K te) := by
  refine ⟨fun pins s σ H Q I h => Subscript_ (thn (he.run pins s σ H _ I h) fun v s1 ⟨x, H1, I1, r1, q1⟩ => ?_)⟩
  have hst : PO X (some (.UnaryOp .USub (.Constant (.int 1) k p1) p2)) (tPart (tUn (rU fun i => .int (-i)) (tC (.int 1)))) := po_some (pe_un un_neg pe_int)
  obtain ⟨a, rfl, q9⟩ : ∃ a, x = V.ref a ∧ ((∃ xs, SqL X.K H1 a xs ∧ ∀ p, H1 p = none → Q (.ref p) (upd H1 p (.lst xs.reverse))) ∨ ∃ xs, SqT X.K H1 a xs ∧ ∀ p, H1 p = none → Q (.ref p) (upd H1 p (.tup xs.reverse))) := by
    rcases q1 with ⟨a, xs, e1, q⟩ | ⟨a, xs, e1, q⟩
    · exact ⟨a, e1, .inl ⟨xs, q⟩⟩
    · exact ⟨a, e1, .inr ⟨xs, q⟩⟩
  cases r1
  refine wpAny_Slice (thn (po_none.run pins s1 σ H1 (fun o H2 => o = none ∧ H2 = H1) I1 ⟨rfl, rfl⟩) fun vl s2 ⟨l, H2, I2, pl, el, e2⟩ => ?_)
  cases el
  cases e2
  refine thn (po_none.run pins s2 σ H1 (fun o H3 => o = none ∧ H3 = H1) I2 ⟨rfl, rfl⟩) fun vu s3 ⟨u, H3, I3, pu, eu, e3⟩ => ?_
  cases eu
  cases e3
  refine thn (hst.run pins s3 σ H1 (fun o H4 => o = some (-1) ∧ H4 = H1) I3 ⟨1, rfl, -1, rfl, rfl, rfl⟩) fun vs s4 ⟨o, H4, I4, ps, eo, e4⟩ => ?_
  cases eo
  cases e4
  have I5 : Inv X pins σ H1 { s4 with heap := s4.heap.push { cls := .type "slice", data := .fields #[vl, vu, vs] } } := I4.kept (t' := s4.toks) fun b ob q => Heap.get?_push_of_some _ q
  show wpAny (model X.prog X.w) X.A (subscriptTail e (.Slice none none (some (.UnaryOp .USub (.Constant (.int 1) k p1) p2)) p3) (.ref a) (.ref s4.heap.objs.size)) (EP X pins σ Q) X.xe _
  rcases q9 with ⟨xs, hx, q⟩ | ⟨xs, hx, q⟩
  · obtain ⟨its, r, ht, hz⟩ := I5.list hx
    have hlen := r.length
    refine tail_any (ops := [.ref a, .ref s4.heap.objs.size]) ht.isList.typeIs (PySem.slot_list_getitem.lookup) (wpAny_getItem_list_slice ht.isList (Heap.IsSliceOf.new _ vl vu vs) pl pu ps (by decide) ?_ (by rw [List.size_toArray]; omega)) (by with_unfolding_all rfl)
    rw [PySem.W.krv_pick]
    exact ⟨.ref _, _, I5.laid (t' := s4.toks) (o := .lst xs.reverse) (fun b ob q => Heap.get?_push_of_some _ q) (Nat.le_refl _) ⟨by rw [List.length_reverse]; exact hz, _, 0, r.reverse, Heap.get?_push_size _ rfl⟩, rfl, q _ (I5.hok.fresh (Nat.le_refl _))⟩
  · obtain ⟨its, r, ht, hz⟩ := I5.tuple hx
    have hlen := r.length
    refine tail_any (ops := [.ref a, .ref s4.heap.objs.size]) ht.typeIs (PyProof.Rows.slot_tuple_getitem.lookup) (getItem_back ht (Heap.IsSliceOf.new _ vl vu vs) pl pu ps ?_ (by rw [List.size_toArray]; omega)) (by with_unfolding_all rfl)
    exact ⟨.ref _, _, I5.laid (t' := s4.toks) (o := .tup xs.reverse) (fun b ob q => Heap.get?_push_of_some _ q) (Nat.le_refl _) ⟨by rw [List.length_reverse]; exact hz, _, r.reverse, IsTup.new _ _⟩, rfl, q _ (I5.hok.fresh (Nat.le_refl _))⟩
end
end RD
set_option Elab.async false
set_option linter.all false
set_option maxRecDepth 100000
/-! RdD: expressions do what ev says, node by node. -/
namespace RD
open PySem L2
section
variable {K : PySem.W.Frag} {mg : Str → Option Value} {W : WX} {C : Ct} {F : Hp} {s : S} {σ : L2.St} {H : Hp}
theorem set_same {α : Type} : ∀ {l : List α} {i : Nat} {a : α}, l[i]? = some a → l.set i a = l
  | [], _, _, h => by simp at h
  | x :: l, 0, a, h => by simp at h; subst h; rfl
  | x :: l, i + 1, a, h => by
    rw [List.set_cons_succ, set_same (l := l) (i := i) (a := a) (by simpa using h)]
/-- a slot is forgotten -/
theorem Rel.unset (r : Rel K C F s σ H) (i : Nat) : Rel K C F ⟨s.rho.set i .un, s.bag⟩ σ H := by
  have old : ∀ {j : Nat} {w : Slot}, w ≠ .un → (s.rho.set i Slot.un)[j]? = some w → s.rho[j]? = some w := fun {j w} n e => by
    by_cases h : i = j
    · subst h
      have hi : i < s.rho.length := by
        have := (List.getElem?_eq_some_iff.mp e).1
        simpa using this
      rw [List.getElem?_set_self hi] at e
      cases e
      exact absurd rfl n
    · rw [List.getElem?_set_ne h] at e
      exact e
  exact ⟨r.le, r.ge, r.new, r.keep, r.hbag, r.bag, by simpa using r.len, fun j u e => r.val j u (old (by intro z; cases z) e), fun j ds e => r.own j ds (old (by intro z; cases z) e),
    fun j k ds es p e1 e2 => r.apart j k ds es p (old (by intro z; cases z) e1) (old (by intro z; cases z) e2)⟩
/-- a slot's own list is frozen -/
theorem Rel.frz (r : Rel K C F s σ H) {i : Nat} {ds : List PyData} (e : s.rho[i]? = some (.ol ds)) : ∃ p vs, σ[i]? = some (some (.ref p)) ∧ Le F (upd F p (.lst vs)) ∧ Rel K C (upd F p (.lst vs)) ⟨s.rho.set i (.val (.d (.list ds))), s.bag⟩ σ H ∧ Dn K (upd F p (.lst vs)) (.ref p) (.list ds) := by
  obtain ⟨p, _, h1, h2, h3, h4, h5, vs, rfl, h6⟩ := r.own i (.l ds) e
  have hi : i < s.rho.length := (List.getElem?_eq_some_iff.mp e).1
  have r1 := r.unset i
  have r2 := r1.freeze h2 h4 h3 h5 fun j es e' z => by
    have e'' : (s.rho.set i Slot.un)[j]? = some (.ow es) := e'
    have hij : i ≠ j := by
      intro h
      subst h
      rw [List.getElem?_set_self hi] at e''
      cases e''
    rw [List.getElem?_set_ne hij] at e''
    exact hij (r.apart i j (.l ds) es p e e'' h1 z)
  have d : Dn K (upd F p (.lst vs)) (.ref p) (.list ds) := .lst upd_same (Dn.monoAll (Le.upd _ h3) _ _ h6)
  have r3 := r2.setU i (u := .d (.list ds)) (v := .ref p) d
  have e1 : (s.rho.set i Slot.un).set i (.val (.d (.list ds))) = s.rho.set i (.val (.d (.list ds))) := by rw [List.set_set]
  have r3' : Rel K C (upd F p (.lst vs)) ⟨(s.rho.set i Slot.un).set i (.val (.d (.list ds))), s.bag⟩ (σ.set i (some (.ref p))) H := r3
  rw [e1, set_same h1] at r3'
  exact ⟨p, vs, h1, Le.upd _ h3, r3', d⟩
/-- a thing that is not tracked is written -/
theorem Rel.poke (r : Rel K C F s σ H) {p : Addr} (o : HO) (hF : F p = none) (h0 : C.H0 p = none) (hb : C.hb = false ∨ p ≠ C.b)
    (ho : ∀ (i : Nat) (ds : Own), s.rho[i]? = some (.ow ds) → σ[i]? ≠ some (some (.ref p))) : Rel K C F s σ (upd H p o) := by
  refine ⟨fun a z h => ?_, r.ge, r.new, fun a z h n => ?_, r.hbag, fun x y h => ?_, r.len, r.val, fun j es h => ?_, r.apart⟩
  · rw [upd_ne]
    · exact r.le a z h
    · intro w
      subst w
      rw [hF] at h
      cases h
  · rw [upd_ne]
    · exact r.keep a z h n
    · intro w
      subst w
      rw [h0] at h
      cases h
  · obtain ⟨b1, b2⟩ := r.bag x y h
    have : C.b ≠ p := fun z => by
      rcases hb with w | w
      · have h7 := r.hbag
        rw [h, w] at h7
        cases h7
      · exact w z.symm
    exact ⟨by rw [upd_ne this]; exact b1, b2⟩
  · obtain ⟨q, ws, g1, g2, g3⟩ := r.own j es h
    have : q ≠ p := fun z => by
      subst z
      exact ho j es h g1
    exact ⟨q, ws, g1, by rw [upd_ne this]; exact g2, g3⟩
/-- a slot's own dict is frozen -/
theorem Rel.frzD (r : Rel K C F s σ H) {i : Nat} {ds : List (List Key × PyData)} (e : s.rho[i]? = some (.ow (.d ds))) : ∃ p vs, σ[i]? = some (some (.ref p)) ∧ H p = some (.dT vs) ∧ ∀ od, ∃ F', Le F F' ∧
    Rel K C F' ⟨s.rho.set i (.val (.d (dctD ds))), s.bag⟩ σ (upd H p (.frz od (.dT vs))) ∧ Dn K F' (.ref p) (dctD ds) := by
  obtain ⟨p, _, h1, h2, h3, h4, h5, vs, rfl, h7, h6⟩ := r.own i (.d ds) e
  refine ⟨p, vs, h1, h2, fun od => ?_⟩
  have hi : i < s.rho.length := (List.getElem?_eq_some_iff.mp e).1
  have ho : ∀ (j : Nat) (es : Own), (s.rho.set i Slot.un)[j]? = some (.ow es) → σ[j]? ≠ some (some (.ref p)) := fun j es e'' z => by
    have hij : i ≠ j := by
      intro h
      subst h
      rw [List.getElem?_set_self hi] at e''
      cases e''
    rw [List.getElem?_set_ne hij] at e''
    exact hij (r.apart i j (.d ds) es p e e'' h1 z)
  have r1 := (r.unset i).poke (.frz od (.dT vs)) h3 h4 h5 ho
  have r2 := r1.freeze upd_same h4 h3 h5 ho
  have d : Dn K (upd F p (.frz od (.dT vs))) (.ref p) (dctD ds) := .dct upd_same h7 (Dn.monoAll (Le.upd _ h3) _ _ h6)
  have r3 := r2.setU i (u := .d (dctD ds)) (v := .ref p) d
  have e1 : (s.rho.set i Slot.un).set i (.val (.d (dctD ds))) = s.rho.set i (.val (.d (dctD ds))) := by rw [List.set_set]
  have r3' : Rel K C (upd F p (.frz od (.dT vs))) ⟨(s.rho.set i Slot.un).set i (.val (.d (dctD ds))), s.bag⟩ (σ.set i (some (.ref p))) (upd H p (.frz od (.dT vs))) := r3
  rw [e1, set_same h1] at r3'
  exact ⟨_, Le.upd _ h3, r3', d⟩
/-- what comes may be locked -/
theorem pe_lockV {X : Cx} {e : Expr} {t : TE} (h : PE X e t) : PE X e (fun σ H Q => t σ H fun v H' => Q v H' ∨ ∃ d u, v = .ref d ∧ H' d = some u ∧ Mut (some u) ∧ ∀ od, Q v (upd H' d (.frz od u))) := by
  refine ⟨fun pins s σ H Q I hw => ?_⟩
  refine thn (h.run pins s σ H _ I hw) fun u s1 ⟨x, H1, I1, rx, q⟩ => ?_
  rcases q with q | ⟨d, w, ex, hd, mu, q⟩
  · exact ⟨x, H1, I1, rx, q⟩
  · obtain ⟨od, I2⟩ := I1.lock hd mu
    exact ⟨x, _, I2, rx, q od⟩
theorem Post.lift {z : Option PyData} {Q : U → Hp → S → Hp → Prop} (h : Post K mg W C F σ (lift z s) Q) : ∃ x, z = some x ∧ Post K mg W C F σ (.ok (.d x) s) Q := by
  cases z with
  | some x => exact ⟨x, rfl, h⟩
  | none => exact h.elim
theorem Post.liftB {z : Option Bool} {Q : U → Hp → S → Hp → Prop} (h : Post K mg W C F σ (liftB z s) Q) : ∃ x, z = some x ∧ Post K mg W C F σ (.ok (.d (.bool x)) s) Q := by
  cases z with
  | some x => exact ⟨x, rfl, h⟩
  | none => exact h.elim
/-- the value's own end -/
theorem Post.fin {u : U} {v : V} {Q : VK} (h : Post K mg W C F σ (.ok u s) fun u F' _ H' => ∀ v, DenU K C.b F' u v → Q v H') (r : Rel K C F s σ H) (d : DenU K C.b F u v) : Q v H := h F H (Le.refl F) r v d
end
section
variable {X : Cx} {W : WX}
theorem sx_var {i : Nat} {x : Str} {pos : Pos} (hN : X.N[i]? = some x) (hv : Vis X.env.scope x) (hd : (x == ("__debug__" : Str)) = false) (hcd : (x == ("__classdict__" : Str)) = false) : PE X (.Name x pos) (tX X.K X.mg W (.var i)) := by
  refine (pe_lockV (pe_var hN hv hd hcd)).weak fun σ H Q ⟨C, F, s, r, h⟩ => ?_
  have h' : Post X.K X.mg W C F σ (s.get i) _ := h
  unfold S.get at h'
  cases e : s.rho[i]? with
  | none => rw [e] at h'; exact h'.elim
  | some w =>
    rw [e] at h'
    cases w with
    | un => exact h'.elim
    | val u =>
      obtain ⟨v, h1, h2⟩ := r.val i u e
      exact ⟨v, h1, .inl (h'.fin r h2)⟩
    | ow o =>
      cases o with
      | l ds =>
        obtain ⟨p, vs, h1, l, r', d⟩ := r.frz e
        exact ⟨.ref p, h1, .inl (h' _ _ l r' _ d)⟩
      | d kvs =>
        obtain ⟨p, es, h1, h2, hf⟩ := r.frzD e
        refine ⟨.ref p, h1, .inr ⟨p, _, rfl, h2, trivial, fun od => ?_⟩⟩
        obtain ⟨F', l, r', d⟩ := hf od
        exact h' _ _ l r' _ d
theorem sx_int {i : Int} {j pos} : PE X (.Constant (.int i) j pos) (tX X.K X.mg W (.cst (.int i))) := pe_int.weak fun σ H Q ⟨C, F, s, r, h⟩ => h.fin r (.int i)
theorem sx_bl {b : Bool} {j pos} : PE X (.Constant (.bool b) j pos) (tX X.K X.mg W (.cst (.bool b))) := pe_bl.weak fun σ H Q ⟨C, F, s, r, h⟩ => h.fin r (.bl b)
theorem sx_non {j pos} : PE X (.Constant .none j pos) (tX X.K X.mg W (.cst .none)) := pe_non.weak fun σ H Q ⟨C, F, s, r, h⟩ => h.fin r .non
theorem sx_str {x : Str} {j pos} : PE X (.Constant (.str x) j pos) (tX X.K X.mg W (.cst (.str x))) := pe_str.weak fun σ H Q ⟨C, F, s, r, h⟩ => h.fin r (.str x)
/-- a module's constant -/
def GlobOk (K : PySem.W.Frag) (mg : Str → Option Value) (x : Str) (d : PyData) : Prop := ∃ u v, mg x = some u ∧ RelV v u ∧ ∀ F, Dn K F v d
theorem sx_glob {x : Str} {d : PyData} {pos : Pos} (hg : Gl X x) (h : GlobOk X.K X.mg x d) (hd : (x == ("__debug__" : Str)) = false) : PE X (.Name x pos) (tX X.K X.mg W (.glob x d)) := by
  obtain ⟨u, v, hm, hr, hD⟩ := h
  exact (pe_glob hg hm hr hd).weak fun σ H Q ⟨C, F, s, r, h⟩ => h.fin r (hD F)
variable {ea eb ec : Expr} {a b c : T} {pos : Pos}
theorem sx_bin (op : BOp) (ha : PE X ea (tX X.K X.mg W a)) (hb : PE X eb (tX X.K X.mg W b)) : PE X (.BinOp ea op.op eb pos) (tX X.K X.mg W (.bin op a b)) := by
  refine (pe_op (op_bin op) ha hb).weak fun σ H Q ⟨C, F, s, r, h⟩ => ⟨C, F, s, r, ?_⟩
  refine (Post.dat h).imp fun u F1 s1 H1 l1 r1 ⟨x, e, h1⟩ v d1 => ⟨C, F1, s1, r1, ?_⟩
  subst e
  refine (Post.dat h1).imp fun u F2 s2 H2 l2 r2 ⟨y, e, h2⟩ w d2 => ?_
  subst e
  obtain ⟨z, ez, h3⟩ := h2.lift
  exact leaf_bin op ez r2 (Dn.mono l2 _ _ d1) d2 fun F' H' l r u d => h3 F' H' l r u d
theorem sx_neg (ha : PE X ea (tX X.K X.mg W a)) : PE X (.UnaryOp .USub ea pos) (tX X.K X.mg W (.neg a)) := by
  refine (pe_un un_neg ha).weak fun σ H Q ⟨C, F, s, r, h⟩ => ⟨C, F, s, r, ?_⟩
  refine (Post.dat h).imp fun u F1 s1 H1 l1 r1 ⟨x, e, h1⟩ v d1 => ?_
  subst e
  cases x with
  | int i =>
    cases d1
    exact ⟨i, rfl, h1.fin r1 (.int _)⟩
  | _ => exact h1.elim
theorem sx_cmp (hu : X.A.units + 65 < cLine) (op : COp) (ha : PE X ea (tX X.K X.mg W a)) (hb : PE X eb (tX X.K X.mg W b)) (hm : behindInMarks op.op eb = false) : PE X (.Compare ea [op.op] [eb] pos) (tX X.K X.mg W (.cmp op a b)) := by
  refine (pe_cmpR (op_cmp hu op) ha hb hm).weak fun σ H Q ⟨C, F, s, r, h⟩ => ⟨C, F, s, r, ?_⟩
  refine (Post.dat h).imp fun u F1 s1 H1 l1 r1 ⟨x, e, h1⟩ v d1 => ⟨C, F1, s1, r1, ?_⟩
  subst e
  refine (Post.dat h1).imp fun u F2 s2 H2 l2 r2 ⟨y, e, h2⟩ w d2 => ?_
  subst e
  obtain ⟨z, ez, h3⟩ := h2.liftB
  exact leaf_cmp op ez r2.le (Dn.mono l2 _ _ d1) d2 (h3.fin r2 (.bl _))
theorem st_cmp (hu : X.A.units + 65 < cLine) (op : COp) (ha : PE X ea (tX X.K X.mg W a)) (hb : PE X eb (tX X.K X.mg W b)) (hm : behindInMarks op.op eb = false) : PT X (.Compare ea [op.op] [eb] pos) (tXT X.K X.mg W (.cmp op a b)) := by
  refine (pt_cmpR (op_cmp hu op) ha hb hm).weak fun σ H Q ⟨C, F, s, r, h⟩ => ⟨C, F, s, r, ?_⟩
  refine (Post.dat (Post.tst h)).imp fun u F1 s1 H1 l1 r1 ⟨x, e, h1⟩ v d1 => ⟨C, F1, s1, r1, ?_⟩
  subst e
  refine (Post.dat h1).imp fun u F2 s2 H2 l2 r2 ⟨y, e, h2⟩ w d2 => ?_
  subst e
  obtain ⟨z, ez, h3⟩ := h2.liftB
  obtain ⟨z', ez', h4⟩ := h3.here r2
  cases ez'
  exact leaf_cmp op ez r2.le (Dn.mono l2 _ _ d1) d2 ⟨_, rfl, h4.here r2⟩
end
end RD
set_option Elab.async false
set_option linter.all false
set_option maxRecDepth 100000
/-! RdE: expressions do what ev says, node by node, further. -/
namespace RD
open PySem L2
section
variable {X : Cx} {W : WX} {ea eb ec : Expr} {a b c : T} {pos : Pos}
theorem eqNone {K : PySem.W.Frag} {F : Hp} {v : V} {x : PyData} (d : Dn K F v x) : decide (v = .non) = isNone x := by
  cases d <;> rfl
theorem sx_isN {j p2} (ha : PE X ea (tX X.K X.mg W a)) : PE X (.Compare ea [.Is] [.Constant .none j p2] pos) (tX X.K X.mg W (.isN a)) := by
  refine (pe_cmpR op_isN ha pe_non (nomark _)).weak fun σ H Q ⟨C, F, s, r, h⟩ => ⟨C, F, s, r, ?_⟩
  refine (Post.dat h).imp fun u F1 s1 H1 l1 r1 ⟨x, e, h1⟩ v d1 => ?_
  subst e
  refine ⟨rfl, ?_⟩
  rw [eqNone d1]
  exact h1.fin r1 (.bl _)
theorem sx_notN {j p2} (ha : PE X ea (tX X.K X.mg W a)) : PE X (.Compare ea [.IsNot] [.Constant .none j p2] pos) (tX X.K X.mg W (.notN a)) := by
  refine (pe_cmpR op_notN ha pe_non (nomark _)).weak fun σ H Q ⟨C, F, s, r, h⟩ => ⟨C, F, s, r, ?_⟩
  refine (Post.dat h).imp fun u F1 s1 H1 l1 r1 ⟨x, e, h1⟩ v d1 => ?_
  subst e
  refine ⟨rfl, ?_⟩
  rw [eqNone d1]
  exact h1.fin r1 (.bl _)
theorem st_isN {j p2} (ha : PE X ea (tX X.K X.mg W a)) : PT X (.Compare ea [.Is] [.Constant .none j p2] pos) (tXT X.K X.mg W (.isN a)) := by
  refine (pt_cmpR op_isN ha pe_non (nomark _)).weak fun σ H Q ⟨C, F, s, r, h⟩ => ⟨C, F, s, r, ?_⟩
  refine (Post.dat (Post.tst h)).imp fun u F1 s1 H1 l1 r1 ⟨x, e, h1⟩ v d1 => ?_
  subst e
  refine ⟨rfl, _, rfl, ?_⟩
  obtain ⟨z', ez', h4⟩ := h1.here r1
  cases ez'
  rw [eqNone d1]
  exact h4.here r1
theorem st_notN {j p2} (ha : PE X ea (tX X.K X.mg W a)) : PT X (.Compare ea [.IsNot] [.Constant .none j p2] pos) (tXT X.K X.mg W (.notN a)) := by
  refine (pt_cmpR op_notN ha pe_non (nomark _)).weak fun σ H Q ⟨C, F, s, r, h⟩ => ⟨C, F, s, r, ?_⟩
  refine (Post.dat (Post.tst h)).imp fun u F1 s1 H1 l1 r1 ⟨x, e, h1⟩ v d1 => ?_
  subst e
  refine ⟨rfl, _, rfl, ?_⟩
  obtain ⟨z', ez', h4⟩ := h1.here r1
  cases ez'
  rw [eqNone d1]
  exact h4.here r1
theorem sx_chain (hu : X.A.units + 65 < cLine) (o p : COp) (ha : PE X ea (tX X.K X.mg W a)) (hb : PE X eb (tX X.K X.mg W b)) (hc : PE X ec (tX X.K X.mg W c)) (hm : lastMarks [o.op, p.op] [eb, ec] = false) :
    PE X (.Compare ea [o.op, p.op] [eb, ec] pos) (tX X.K X.mg W (.chain o p a b c)) := by
  refine (pe_chain (op_cmp hu o) (op_cmp hu p) ha hb hc hm).weak fun σ H Q ⟨C, F, s, r, h⟩ => ⟨C, F, s, r, ?_⟩
  refine (Post.dat h).imp fun u F1 s1 H1 l1 r1 ⟨x, e, h1⟩ v d1 => ⟨C, F1, s1, r1, ?_⟩
  subst e
  refine (Post.dat h1).imp fun u F2 s2 H2 l2 r2 ⟨y, e, h2⟩ w d2 => ?_
  subst e
  cases ez : cmpop o x y with
  | none => rw [ez] at h2; exact h2.elim
  | some k =>
    rw [ez] at h2
    refine leaf_cmp o ez r2.le (Dn.mono l2 _ _ d1) d2 ⟨k, rfl, ?_⟩
    cases k with
    | false => exact h2.fin r2 (.bl _)
    | true =>
      refine ⟨C, F2, s2, r2, ?_⟩
      refine (Post.dat h2).imp fun u F3 s3 H3 l3 r3 ⟨z, e, h3⟩ t d3 => ?_
      subst e
      obtain ⟨z', ez', h4⟩ := h3.liftB
      exact leaf_cmp p ez' r3.le (Dn.mono l3 _ _ d2) d3 (h4.fin r3 (.bl _))
theorem st_chain (hu : X.A.units + 65 < cLine) (o p : COp) (ha : PE X ea (tX X.K X.mg W a)) (hb : PE X eb (tX X.K X.mg W b)) (hc : PE X ec (tX X.K X.mg W c)) (hm : lastMarks [o.op, p.op] [eb, ec] = false) :
    PT X (.Compare ea [o.op, p.op] [eb, ec] pos) (tXT X.K X.mg W (.chain o p a b c)) := by
  refine (pt_chain (op_cmp hu o) (op_cmp hu p) ha hb hc hm).weak fun σ H Q ⟨C, F, s, r, h⟩ => ⟨C, F, s, r, ?_⟩
  refine (Post.dat (Post.tst h)).imp fun u F1 s1 H1 l1 r1 ⟨x, e, h1⟩ v d1 => ⟨C, F1, s1, r1, ?_⟩
  subst e
  refine (Post.dat h1).imp fun u F2 s2 H2 l2 r2 ⟨y, e, h2⟩ w d2 => ?_
  subst e
  cases ez : cmpop o x y with
  | none => rw [ez] at h2; exact h2.elim
  | some k =>
    rw [ez] at h2
    refine leaf_cmp o ez r2.le (Dn.mono l2 _ _ d1) d2 ⟨k, rfl, ?_⟩
    cases k with
    | false =>
      obtain ⟨z', ez', h4⟩ := h2.here r2
      cases ez'
      exact ⟨_, rfl, h4.here r2⟩
    | true =>
      refine ⟨C, F2, s2, r2, ?_⟩
      refine (Post.dat h2).imp fun u F3 s3 H3 l3 r3 ⟨z, e, h3⟩ t d3 => ?_
      subst e
      obtain ⟨z', ez', h4⟩ := h3.liftB
      obtain ⟨z2, ez2, h5⟩ := h4.here r3
      cases ez2
      exact leaf_cmp p ez' r3.le (Dn.mono l3 _ _ d2) d3 ⟨_, rfl, h5.here r3⟩
/-! and, or, not, if else -/
theorem sx_not (ha : PE X ea (tX X.K X.mg W a)) : PE X (.UnaryOp .Not ea pos) (tX X.K X.mg W (.not a)) := by
  refine (pe_not ha).weak fun σ H Q ⟨C, F, s, r, h⟩ => ⟨C, F, s, r, ?_⟩
  refine (Post.tst h).imp fun u F1 s1 H1 l1 r1 ⟨k, e, h1⟩ v d1 => ?_
  subst e
  cases d1
  exact ⟨k, rfl, h1.fin r1 (.bl _)⟩
theorem st_not (ha : PT X ea (tXT X.K X.mg W a)) : PT X (.UnaryOp .Not ea pos) (tXT X.K X.mg W (.not a)) := by
  refine (pt_not ha).weak fun σ H Q ⟨C, F, s, r, h⟩ => ⟨C, F, s, r, ?_⟩
  have h' : Post X.K X.mg W C F σ (((ev a s).tst fun b s => .ok (.d (.bool (!b))) s).tst .ok) (fun b _ _ H' => Q b H') := h
  have e : (((ev a s).tst fun b s => R.ok (.d (.bool (!b))) s).tst R.ok) = (ev a s).tst fun b s => R.ok (!b) s := by
    cases ev a s with
    | ok u s =>
      cases u with
      | d x => cases x <;> rfl
      | _ => rfl
    | _ => rfl
  rw [e] at h'
  have e2 : ((ev a s).tst fun b s => R.ok (!b) s) = ((ev a s).tst R.ok).bind fun b s => R.ok (!b) s := by
    cases ev a s with
    | ok u s =>
      cases u with
      | d x => cases x <;> rfl
      | _ => rfl
    | _ => rfl
  rw [e2] at h'
  exact (Post.bind h').imp fun k F1 s1 H1 l1 r1 q => q.here r1
variable {rest : List Expr}
theorem sx_one {op} (ha : PE X ea (tX X.K X.mg W a)) : PE X (.BoolOp op [ea] pos) (tX X.K X.mg W (.one a)) := pe_one ha
theorem sx_and (ha : PE X ea (tX X.K X.mg W a)) (hb : PE X (.BoolOp .And (eb :: rest) pos) (tX X.K X.mg W b)) : PE X (.BoolOp .And (ea :: eb :: rest) pos) (tX X.K X.mg W (.and a b)) := by
  refine (pe_and ha hb).weak fun σ H Q ⟨C, F, s, r, h⟩ => ⟨C, F, s, r, ?_⟩
  refine (Post.tst h).imp fun u F1 s1 H1 l1 r1 ⟨k, e, h1⟩ v d1 => ?_
  subst e
  cases d1
  refine ⟨k, rfl, ?_⟩
  cases k with
  | true => exact ⟨C, F1, s1, r1, h1⟩
  | false => exact h1.fin r1 (.bl _)
theorem sx_or (ha : PE X ea (tX X.K X.mg W a)) (hb : PE X (.BoolOp .Or (eb :: rest) pos) (tX X.K X.mg W b)) : PE X (.BoolOp .Or (ea :: eb :: rest) pos) (tX X.K X.mg W (.or a b)) := by
  refine (pe_or ha hb).weak fun σ H Q ⟨C, F, s, r, h⟩ => ⟨C, F, s, r, ?_⟩
  refine (Post.tst h).imp fun u F1 s1 H1 l1 r1 ⟨k, e, h1⟩ v d1 => ?_
  subst e
  cases d1
  refine ⟨k, rfl, ?_⟩
  cases k with
  | true => exact h1.fin r1 (.bl _)
  | false => exact ⟨C, F1, s1, r1, h1⟩
theorem sw_and1 (ha : PT X ea (tXT X.K X.mg W a)) : PW X (.BoolOp .And [ea] pos) (tXT X.K X.mg W (.one a)) := pw_and1 ha
theorem sw_or1 (ha : PT X ea (tXT X.K X.mg W a)) : PW X (.BoolOp .Or [ea] pos) (tXT X.K X.mg W (.one a)) := pw_or1 ha
theorem tst_tst (m : R U) (f : Bool → S → R U) : (m.tst f).tst R.ok = (m.tst R.ok).bind fun b s => (f b s).tst R.ok := by
  cases m with
  | ok u s =>
    cases u with
    | d x => cases x <;> rfl
    | _ => rfl
  | _ => rfl
theorem sw_and (ha : PT X ea (tXT X.K X.mg W a)) (hb : PW X (.BoolOp .And (eb :: rest) pos) (tXT X.K X.mg W b)) : PW X (.BoolOp .And (ea :: eb :: rest) pos) (tXT X.K X.mg W (.and a b)) := by
  refine (pw_and ha hb).weak fun σ H Q ⟨C, F, s, r, h⟩ => ⟨C, F, s, r, ?_⟩
  have h' : Post X.K X.mg W C F σ (((ev a s).tst fun k s => if k = true then ev b s else .ok (.d (.bool false)) s).tst .ok) (fun b _ _ H' => Q b H') := h
  rw [tst_tst] at h'
  refine (Post.bind h').imp fun k F1 s1 H1 l1 r1 q => ?_
  cases k with
  | true => exact ⟨C, F1, s1, r1, q⟩
  | false => exact q.here r1
theorem sw_or (ha : PT X ea (tXT X.K X.mg W a)) (hb : PW X (.BoolOp .Or (eb :: rest) pos) (tXT X.K X.mg W b)) : PW X (.BoolOp .Or (ea :: eb :: rest) pos) (tXT X.K X.mg W (.or a b)) := by
  refine (pw_or ha hb).weak fun σ H Q ⟨C, F, s, r, h⟩ => ⟨C, F, s, r, ?_⟩
  have h' : Post X.K X.mg W C F σ (((ev a s).tst fun k s => if k = true then .ok (.d (.bool true)) s else ev b s).tst .ok) (fun b _ _ H' => Q b H') := h
  rw [tst_tst] at h'
  refine (Post.bind h').imp fun k F1 s1 H1 l1 r1 q => ?_
  cases k with
  | true => exact q.here r1
  | false => exact ⟨C, F1, s1, r1, q⟩
theorem sx_ite (hc : PT X ec (tXT X.K X.mg W c)) (ha : PE X ea (tX X.K X.mg W a)) (hb : PE X eb (tX X.K X.mg W b)) : PE X (.IfExp ec ea eb pos) (tX X.K X.mg W (.ite c a b)) := by
  refine (pe_ifExp hc ha hb).weak fun σ H Q ⟨C, F, s, r, h⟩ => ⟨C, F, s, r, ?_⟩
  have h' : Post X.K X.mg W C F σ ((ev c s).tst fun k s => if k = true then ev a s else ev b s) (fun u F' _ H' => ∀ v, DenU X.K C.b F' u v → Q v H') := h
  have e : ((ev c s).tst fun k s => if k = true then ev a s else ev b s) = ((ev c s).tst R.ok).bind fun k s => if k = true then ev a s else ev b s := by
    cases ev c s with
    | ok u s =>
      cases u with
      | d x => cases x <;> rfl
      | _ => rfl
    | _ => rfl
  rw [e] at h'
  refine (Post.bind h').imp fun k F1 s1 H1 l1 r1 q => ?_
  cases k with
  | true => exact ⟨C, F1, s1, r1, q⟩
  | false => exact ⟨C, F1, s1, r1, q⟩
/-- a value that is a bool, as a test -/
theorem st_val (ha : PE X ea (tX X.K X.mg W a)) (he : ∀ whole, isTrue ea X.env whole = (do let v ← whole; standAt ea.pos; holding [v] (truthy v))) : PT X ea (tXT X.K X.mg W a) := by
  refine (pt_val ha he).weak fun σ H Q ⟨C, F, s, r, h⟩ => ⟨C, F, s, r, ?_⟩
  refine (Post.tst h).imp fun u F1 s1 H1 l1 r1 ⟨k, e, h1⟩ v d1 => ?_
  subst e
  cases d1
  exact ⟨k, rfl, h1.here r1⟩
/-! lists of arguments, displays -/
variable {es : List Expr} {l : T}
theorem sa_nil : PA X [] (tXA X.K X.mg W .anil) := pa_nil.weak fun σ H Q ⟨C, F, s, r, h⟩ => h F H (Le.refl F) r [] .nil
theorem sa_cons (ha : PE X ea (tX X.K X.mg W a)) (hl : PA X es (tXA X.K X.mg W l)) (hs : starEach (ea :: es) X.env = (false, eval ea X.env) :: starEach es X.env) : PA X (ea :: es) (tXA X.K X.mg W (.acons a l)) := by
  refine (pa_cons ha hl hs).weak fun σ H Q ⟨C, F, s, r, h⟩ => ⟨C, F, s, r, ?_⟩
  refine (Post.bind h).imp fun u F1 s1 H1 l1 r1 h1 v d1 => ⟨C, F1, s1, r1, ?_⟩
  refine (Post.bind h1).imp fun us F2 s2 H2 l2 r2 h2 vs d2 => ?_
  exact h2.here r2 _ (.cons (d1.mono l2) d2)
theorem datas_dn {K : PySem.W.Frag} {b : Addr} {F : Hp} : ∀ {us : List U} {vs : List V} {xs : List PyData}, Paired (DenU K b F) us vs → datas us = some xs → DnAll K F vs xs
  | _, _, _, .nil, e => by cases e; exact .nil
  | u :: us, _, _, .cons h t, e => by
    cases u with
    | d x =>
      rw [datas_cons] at e
      cases q : datas us with
      | none => rw [q] at e; cases e
      | some ys =>
        rw [q] at e
        cases e
        exact .cons h (datas_dn t q)
    | _ => cases e
theorem sx_tup {k : Nat} (hl : PA X es (tXA X.K X.mg W l)) : PE X (.Tuple es k pos) (tX X.K X.mg W (.tup l)) := by
  refine (pe_tup hl).weak fun σ H Q ⟨C, F, s, r, h⟩ => ⟨C, F, s, r, ?_⟩
  refine (Post.bind h).imp fun us F1 s1 H1 l1 r1 h1 vs d1 => ?_
  cases e : datas us with
  | none => rw [e] at h1; exact h1.elim
  | some xs =>
    rw [e] at h1
    have dn := datas_dn d1 e
    dsimp only at h1
    split at h1
    · rename_i hb
      refine ⟨by rw [dn.length]; exact Nat.le_trans hb big_line, fun p hp => ?_⟩
      obtain ⟨F', lF, r', d⟩ := r1.tup hp dn
      exact h1 F' _ lF r' _ d
    · exact h1.elim
theorem sx_lst (hl : PA X es (tXA X.K X.mg W l)) : PE X (.List es pos) (tX X.K X.mg W (.lst l)) := by
  refine (pe_lst hl).weak fun σ H Q ⟨C, F, s, r, h⟩ => ⟨C, F, s, r, ?_⟩
  refine (Post.bind h).imp fun us F1 s1 H1 l1 r1 h1 vs d1 => ?_
  cases e : datas us with
  | none => rw [e] at h1; exact h1.elim
  | some xs =>
    rw [e] at h1
    have dn := datas_dn d1 e
    dsimp only at h1
    split at h1
    · rename_i hb
      refine ⟨by rw [dn.length]; exact Nat.le_trans hb big_line, fun p hp => ?_⟩
      obtain ⟨F', lF, r', d⟩ := r1.lst hp dn
      exact h1 F' _ lF r' _ d
    · exact h1.elim
/-! items and slices -/
theorem atI_dn {K : PySem.W.Frag} {F : Hp} {vs : List V} {xs : List PyData} {i : Int} {z : PyData} (d : DnAll K F vs xs) (e : atI xs i = some z) : ∃ v, atI vs i = some v ∧ Dn K F v z := by
  unfold atI at e ⊢
  rw [d.length]
  cases q : ixN xs.length i with
  | none => rw [q] at e; cases e
  | some j =>
    rw [q] at e
    exact d.get e
theorem sx_bget {i j : Nat} {x : Str} {p : Pos} {n} {p2 : Pos} (hj : j ≤ 1) (hN : X.N[i]? = some x) (hv : Vis X.env.scope x) (hd : (x == ("__debug__" : Str)) = false) (hcd : (x == ("__classdict__" : Str)) = false) : PE X (.Subscript (.Name x p) (.Constant (.int (j : Int)) n p2) pos) (tX X.K X.mg W (.bget i j)) := by
  refine (pe_ix ix_list (pe_var hN hv hd hcd) pe_int (fun _ _ => rfl)).weak fun σ H Q ⟨C, F, s, r, h⟩ => ?_
  have h0 : Post X.K X.mg W C F σ (match s.rho[i]?, s.bag with
    | some (.val .bag), some (x, y) => .ok (.d (.int (if j = 0 then x else y))) s
    | _, _ => .stuck) fun u F' _ H' => ∀ v, DenU X.K C.b F' u v → Q v H' := h
  split at h0
  · rename_i x y e1 e2
    obtain ⟨v, h1, h2⟩ := r.val i _ e1
    cases h2
    obtain ⟨h3, _⟩ := r.bag x y e2
    refine ⟨_, h1, C.b, _, (j : Int), .int (if j = 0 then x else y), rfl, rfl, .of h3, ?_, h0.fin r (.int _)⟩
    match j, hj with
    | 0, _ => rfl
    | 1, _ => rfl
  · exact h0.elim
theorem sx_sat {i : Nat} {x : Str} {p : Pos} (hN : X.N[i]? = some x) (hv : Vis X.env.scope x) (hd : (x == ("__debug__" : Str)) = false) (hcd : (x == ("__classdict__" : Str)) = false) (ha : PE X ea (tX X.K X.mg W a)) (hp : PlainIx ea) : PE X (.Subscript (.Name x p) ea pos) (tX X.K X.mg W (.sat i a)) := by
  refine (pe_ix ix_list (pe_var hN hv hd hcd) ha hp).weak fun σ H Q ⟨C, F, s, r, h⟩ => ?_
  have h0 : Post X.K X.mg W C F σ (match s.rho[i]? with
    | some (.val (.scr ns)) => (ev a s).dat fun y s => match y with
      | .int k => lift ((atI ns k).map .int) s
      | _ => .stuck
    | _ => .stuck) fun u F' _ H' => ∀ v, DenU X.K C.b F' u v → Q v H' := h
  split at h0
  · rename_i ns e1
    obtain ⟨v, h1, b, h2, h3⟩ := r.val i _ e1
    subst h2
    refine ⟨_, h1, C, F, s, r, ?_⟩
    refine (Post.dat h0).imp fun u F1 s1 H1 l1 r1 ⟨y, e, q⟩ w d1 => ?_
    subst e
    cases y with
    | int k =>
      cases d1
      obtain ⟨z, ez, q2⟩ := q.lift
      cases ek : atI ns k with
      | none => rw [ek] at ez; cases ez
      | some m =>
        rw [ek] at ez
        cases ez
        refine ⟨b, _, k, .int m, rfl, rfl, h3.mono (l1.trans r1.le), ?_, q2.fin r1 (.int _)⟩
        unfold atI at ek ⊢
        rw [List.length_map]
        cases ei : ixN ns.length k with
        | none => rw [ei] at ek; cases ek
        | some n =>
          rw [ei] at ek
          have ek' : ns[n]? = some m := ek
          show (ns.map V.int)[n]? = _
          rw [List.getElem?_map, ek']
          rfl
    | _ => exact q.elim
  · exact h0.elim
theorem txts_dn {K : PySem.W.Frag} {F : Hp} : ∀ {ds : List PyData} {vs : List V} {ys : List Str}, DnAll K F vs ds → txts ds = some ys → vs = ys.map V.str
  | _, _, _, .nil, e => by cases e; rfl
  | d :: ds, _, _, .cons h t, e => by
    cases d with
    | str x =>
      cases h
      have e' : (txts ds).map (x :: ·) = some _ := e
      cases q : txts ds with
      | none => rw [q] at e'; cases e'
      | some ys =>
        rw [q] at e'
        cases e'
        rw [txts_dn t q]
        rfl
    | _ => cases e
theorem dn_txts {K : PySem.W.Frag} {F : Hp} : ∀ (ys : List Str), DnAll K F (ys.map V.str) (ys.map PyData.str)
  | [] => .nil
  | y :: ys => .cons (.str y) (dn_txts ys)
theorem sx_join {apos : Pos} (ha : PE X ea (tX X.K X.mg W a)) (hb : PE X eb (tX X.K X.mg W b)) (hs : starEach [eb] X.env = [(false, eval eb X.env)]) (hbase : attributeBase ea "join" X.env (eval ea X.env) = eval ea X.env) (hline : (apos.endLine == pos.line) = true) :
    PE X (.Call (.Attribute ea "join" apos) [eb] [] pos) (tX X.K X.mg W (.mth .join a b)) := by
  refine (pe_join ha hb hs hbase hline).weak fun σ H Q ⟨C, F, s, r, h⟩ => ⟨C, F, s, r, ?_⟩
  refine (Post.dat h).imp fun u F1 s1 H1 l1 r1 ⟨x, e, h1⟩ v d1 => ?_
  subst e
  cases x with
  | str y =>
    cases d1
    refine ⟨⟨_, rfl⟩, C, F1, s1, r1, ?_⟩
    refine (Post.dat h1).imp fun u F2 s2 H2 l2 r2 ⟨z, e, h3⟩ w d2 => ?_
    subst e
    obtain ⟨t, et, h4⟩ := h3.lift
    cases z with
    | list ds =>
      have et' : (match txts ds with
        | some ys => if (ys.map (·.length)).sum + ys.length * y.length ≤ big then some (PyData.str (Txt.join y ys)) else none
        | none => none) = some t := et
      cases q : txts ds with
      | none => rw [q] at et'; cases et'
      | some ys =>
        rw [q] at et'
        by_cases hc : (ys.map (·.length)).sum + ys.length * y.length ≤ big
        · have et2 : (if (ys.map (·.length)).sum + ys.length * y.length ≤ big then some (PyData.str (Txt.join y ys)) else none) = some t := et'
          rw [if_pos hc] at et2
          cases et2
          cases d2 with
          | lst q1 q2 =>
            have := txts_dn q2 q
            subst this
            exact ⟨y, _, ys, rfl, rfl, .inl (.of (r2.le _ _ q1)), hc, h4.fin r2 (.str _)⟩
        · have et2 : (if (ys.map (·.length)).sum + ys.length * y.length ≤ big then some (PyData.str (Txt.join y ys)) else none) = some t := et'
          rw [if_neg hc] at et2
          cases et2
    | _ => cases et
  | _ => exact h1.elim
theorem sx_split {apos : Pos} (ha : PE X ea (tX X.K X.mg W a)) (hb : PE X eb (tX X.K X.mg W b)) (hs : starEach [eb] X.env = [(false, eval eb X.env)]) (hbase : attributeBase ea "split" X.env (eval ea X.env) = eval ea X.env) (hline : (apos.endLine == pos.line) = true) :
    PE X (.Call (.Attribute ea "split" apos) [eb] [] pos) (tX X.K X.mg W (.mth .split a b)) := by
  refine (pe_split ha hb hs hbase hline).weak fun σ H Q ⟨C, F, s, r, h⟩ => ⟨C, F, s, r, ?_⟩
  refine (Post.dat h).imp fun u F1 s1 H1 l1 r1 ⟨x, e, h1⟩ v d1 => ?_
  subst e
  cases x with
  | str y =>
    cases d1
    refine ⟨⟨_, rfl⟩, C, F1, s1, r1, ?_⟩
    refine (Post.dat h1).imp fun u F2 s2 H2 l2 r2 ⟨z, e, h3⟩ w d2 => ?_
    subst e
    obtain ⟨t, et, h4⟩ := h3.lift
    cases z with
    | str z =>
      cases d2
      have et' : (if (z.length == 0) = false ∧ y.length + 2 ≤ big then some (PyData.list ((Txt.split y z).map .str)) else none) = some t := et
      by_cases hc : (z.length == 0) = false ∧ y.length + 2 ≤ big
      · rw [if_pos hc] at et'
        cases et'
        refine ⟨y, z, rfl, rfl, hc.1, hc.2, fun p hp => ?_⟩
        have l := Le.upd (F := F2) (.lst ((Txt.split y z).map V.str)) (r2.freeF hp)
        exact h4 _ _ l (r2.alloc _ hp) _ (.lst upd_same (dn_txts _))
      · rw [if_neg hc] at et'
        cases et'
    | _ => cases et
  | _ => exact h1.elim
theorem sx_idx (ha : PE X ea (tX X.K X.mg W a)) (hb : PE X eb (tX X.K X.mg W b)) (hp : PlainIx eb) : PE X (.Subscript ea eb pos) (tX X.K X.mg W (.idx a b)) := by
  refine (pe_ix (ix_list.or ix_tup) ha hb hp).weak fun σ H Q ⟨C, F, s, r, h⟩ => ⟨C, F, s, r, ?_⟩
  refine (Post.dat h).imp fun u F1 s1 H1 l1 r1 ⟨x, e, h1⟩ v d1 => ⟨C, F1, s1, r1, ?_⟩
  subst e
  refine (Post.dat h1).imp fun u F2 s2 H2 l2 r2 ⟨y, e, h2⟩ w d2 => ?_
  subst e
  obtain ⟨z, ez, h3⟩ := h2.lift
  have d1' := Dn.mono l2 _ _ d1
  cases x with
  | tuple xs =>
    cases y with
    | int i =>
      cases d2
      cases d1' with
      | tup q1 q0 q2 =>
        obtain ⟨v', e1, e2⟩ := atI_dn q2 ez
        exact .inr ⟨_, _, i, v', rfl, rfl, q1.mono r2.le, e1, h3.fin r2 e2⟩
    | _ => cases ez
  | list xs =>
    cases y with
    | int i =>
      cases d2
      cases d1' with
      | lst q1 q2 =>
        obtain ⟨v', e1, e2⟩ := atI_dn q2 ez
        exact .inl ⟨_, _, i, v', rfl, rfl, .of (r2.le _ _ q1), e1, h3.fin r2 e2⟩
    | _ => cases ez
  | _ => cases ez
theorem so_none : PO X none (tXO X.K X.mg W .nopart) := po_none.weak fun σ H Q ⟨C, F, s, r, h⟩ => h.here r
theorem so_some (ha : PE X ea (tX X.K X.mg W a)) : PO X (some ea) (tXO X.K X.mg W (.acons a .anil)) := by
  refine (po_some ha).weak fun σ H Q ⟨C, F, s, r, h⟩ => ⟨C, F, s, r, ?_⟩
  refine (Post.dat h).imp fun u F1 s1 H1 l1 r1 ⟨x, e, h1⟩ v d1 => ?_
  subst e
  cases x with
  | int i =>
    cases d1
    exact ⟨i, rfl, h1.here r1⟩
  | _ => exact h1.elim
variable {lo hi : Option Expr} {tl th : T} {p2 : Pos}
theorem cut_whole {vs : List V} {xs : List PyData} {lo hi : Option Int} {K : PySem.W.Frag} {F : Hp} (d : DnAll K F vs xs) (h : HT.sIx vs.length 0 lo = 0 ∧ HT.sIx vs.length vs.length hi = vs.length) : cutD xs lo hi = xs := by
  unfold cutD
  rw [d.length] at h
  rw [h.1, h.2]
  simp
theorem sx_slc (ha : PE X ea (tX X.K X.mg W a)) (hl : PO X lo (tXO X.K X.mg W tl)) (hh : PO X hi (tXO X.K X.mg W th)) : PE X (.Subscript ea (.Slice lo hi none p2) pos) (tX X.K X.mg W (.slc a tl th)) := by
  refine (pe_slice (sl_tupA.or (sl_list.or sl_str)) ha hl hh).weak fun σ H Q ⟨C, F, s, r, h⟩ => ⟨C, F, s, r, ?_⟩
  refine (Post.dat h).imp fun u F1 s1 H1 l1 r1 ⟨x, e, h1⟩ v d1 => ⟨C, F1, s1, r1, ?_⟩
  subst e
  refine (Post.bind h1).imp fun o F2 s2 H2 l2 r2 h2 => ⟨C, F2, s2, r2, ?_⟩
  refine (Post.bind h2).imp fun o' F3 s3 H3 l3 r3 h3 => ?_
  obtain ⟨z, ez, h4⟩ := h3.lift
  have d3 := Dn.mono (l2.trans l3) _ _ d1
  cases x with
  | tuple xs =>
    cases ez
    cases d3 with
    | tup q1 q0 q2 =>
      refine .inl ⟨_, _, rfl, q1.mono r3.le, fun hw => ?_, fun hw p hp => ?_⟩
      · rw [cut_whole q2 hw] at h4
        exact h4.fin r3 (.tup q1 q0 q2)
      · obtain ⟨F', lF, r', d⟩ := r3.tup hp (q2.cut o o')
        exact h4 F' _ lF r' _ d
  | list xs =>
    cases ez
    cases d3 with
    | lst q1 q2 =>
      refine .inr (.inl ⟨_, _, rfl, .of (r3.le _ _ q1), fun p hp => ?_⟩)
      obtain ⟨F', lF, r', d⟩ := r3.lst hp (q2.cut o o')
      exact h4 F' _ lF r' _ d
  | str x =>
    cases d3
    have ez' : (if x.length ≤ big then some (PyData.str (cutS x o o')) else none) = some z := ez
    split at ez'
    · rename_i hl
      cases ez'
      exact .inr (.inr ⟨x, rfl, Nat.le_trans hl big_line, h4.fin r3 (.str _)⟩)
    · cases ez'
  | _ => cases ez
theorem sx_rev {k : Nat} {p1 p3 p4 : Pos} (ha : PE X ea (tX X.K X.mg W a)) : PE X (.Subscript ea (.Slice none none (some (.UnaryOp .USub (.Constant (.int 1) k p1) p3)) p4) pos) (tX X.K X.mg W (.rev a)) := by
  refine (pe_revA ha).weak fun σ H Q ⟨C, F, s, r, h⟩ => ⟨C, F, s, r, ?_⟩
  refine (Post.dat h).imp fun u F1 s1 H1 l1 r1 ⟨x, e, h1⟩ v d1 => ?_
  subst e
  cases x with
  | list xs =>
    cases d1 with
    | lst q1 q2 =>
      refine .inl ⟨_, _, rfl, .of (r1.le _ _ q1), fun p hp => ?_⟩
      obtain ⟨F', lF, r', d⟩ := r1.lst hp q2.reverse
      exact h1 F' _ lF r' _ d
  | tuple xs =>
    cases d1 with
    | tup q1 q0 q2 =>
      refine .inr ⟨_, _, rfl, q1.mono r1.le, fun p hp => ?_⟩
      obtain ⟨F', lF, r', d⟩ := r1.tup hp q2.reverse
      exact h1 F' _ lF r' _ d
  | _ => exact h1.elim
/-! a dict's display, asked -/
def dkeys : List Str → List Int → List (Key × V)
  | k :: ks, v :: vs => (Sum.inr k, V.int v) :: dkeys ks vs
  | _, _ => []
def dtrs : List Str → List Int → List (TE × TE)
  | k :: ks, v :: vs => (tC (.str k), tC (.int v)) :: dtrs ks vs
  | _, _ => []
theorem dtrs_pairs : ∀ (ks : List Str) (vs : List Int) (σ : L2.St) (H : Hp) (Q : List (V × V) → Hp → Prop), Q ((dkeys ks vs).map fun kv => (kV kv.1, kv.2)) H → tPairs (dtrs ks vs) σ H Q
  | [], _, _, _, _, h => h
  | _ :: _, [], _, _, _, h => h
  | k :: ks, v :: vs, σ, H, Q, h => dtrs_pairs ks vs σ H _ h
theorem dkeys_val : ∀ (ks : List Str) (vs : List Int) (z : Str) (y : PyData), dsub ks vs z = some y → ∃ n, y = .int n ∧ valV (dkeys ks vs) (Sum.inr z : Key) = some (.int n)
  | [], _, _, _, h => by cases h
  | _ :: _, [], _, _, h => by cases h
  | k :: ks, v :: vs, z, y, h => by
    have h' : (if k = z then some (PyData.int v) else dsub ks vs z) = some y := h
    by_cases c : k = z
    · rw [if_pos c] at h'
      cases h'
      exact ⟨v, rfl, valV_pos (congrArg Sum.inr c)⟩
    · rw [if_neg c] at h'
      obtain ⟨n, e1, e2⟩ := dkeys_val ks vs z y h'
      refine ⟨n, e1, ?_⟩
      show (((Sum.inr k, V.int v) :: dkeys ks vs).find? fun kv => decide (kv.1 = (Sum.inr z : Key))).map (·.2) = _
      rw [List.find?_cons_of_neg]
      · exact e2
      · intro q
        have q1 : (Sum.inr k : Key) = Sum.inr z := of_decide_eq_true q
        cases q1
        exact c rfl
theorem dkeys_len : ∀ (ks : List Str) (vs : List Int), (dkeys ks vs).length ≤ ks.length
  | [], _ => Nat.le_refl _
  | _ :: _, [] => Nat.zero_le _
  | _ :: ks, _ :: vs => Nat.succ_le_succ (dkeys_len ks vs)
theorem dkeys_merge : ∀ (ks : List Str) (vs : List Int) (acc : List (Key × V)), ks.Nodup → (∀ p ∈ acc, ∀ k ∈ ks, p.1 ≠ Sum.inr k) → mergeK acc (dkeys ks vs) = acc ++ dkeys ks vs
  | [], _, acc, _, _ => (List.append_nil acc).symm
  | _ :: _, [], acc, _, _ => (List.append_nil acc).symm
  | k :: ks, v :: vs, acc, hn, ha => by
    have hn' := List.nodup_cons.mp hn
    have e1 : putK acc (Sum.inr k : Key) (V.int v) = acc ++ [(Sum.inr k, V.int v)] := by
      unfold putK
      rw [if_neg]
      intro q
      obtain ⟨p, hp, hq⟩ := List.any_eq_true.mp q
      exact ha p hp k (List.mem_cons_self ..) (of_decide_eq_true hq)
    show mergeK (putK acc (Sum.inr k : Key) (V.int v)) (dkeys ks vs) = _
    rw [e1, dkeys_merge ks vs _ hn'.2]
    · rw [List.append_assoc]
      rfl
    · intro p hp k' hk'
      rcases List.mem_append.mp hp with h | h
      · exact ha p h k' (List.mem_cons_of_mem _ hk')
      · cases List.mem_singleton.mp h
        intro z
        cases z
        exact hn'.1 hk'
def keysOk : List Str → List (Option Expr) → Bool
  | [], [] => true
  | k :: ks, some (.Constant (.str z) _ _) :: r => decide (k = z) && keysOk ks r
  | _, _ => false
def valOk : Int → Expr → Bool
  | v, .Constant (.int j) _ _ => decide (v = j)
  | v, .UnaryOp .USub (.Constant (.int j) _ _) _ => decide (v = -j)
  | _, _ => false
def valsOk : List Int → List Expr → Bool
  | [], [] => true
  | v :: vs, e :: es => valOk v e && valsOk vs es
  | _, _ => false
theorem pe_valOk {v : Int} {e : Expr} (h : valOk v e = true) : PE X e (tC (.int v)) := by
  cases e with
  | Constant c k p =>
    cases c with
    | int j =>
      have : v = j := of_decide_eq_true h
      subst this
      exact pe_int
    | _ => cases h
  | UnaryOp op e p =>
    cases op with
    | USub =>
      cases e with
      | Constant c k p =>
        cases c with
        | int j =>
          have : v = -j := of_decide_eq_true h
          subst this
          exact (pe_un un_neg pe_int).weak fun σ H Q q => ⟨j, rfl, q⟩
        | _ => cases h
      | _ => cases h
    | _ => cases h
  | _ => cases h
theorem pps_of : ∀ {ks : List Str} {vs : List Int} {keys : List (Option Expr)} {es : List Expr}, keysOk ks keys = true → valsOk vs es = true → ks.length = vs.length → PPs X pos keys es (dtrs ks vs) ∧ keys.all (·.isSome) = true ∧ keys.length = ks.length ∧ es.length = vs.length
  | [], [], [], [], _, _, _ => ⟨pps_nil, rfl, rfl, rfl⟩
  | k :: ks, v :: vs, some (.Constant (.str z) _ _) :: keys, e :: es, h1, h2, hl => by
    have h1' : (decide (k = z) && keysOk ks keys) = true := h1
    have h2' : (valOk v e && valsOk vs es) = true := h2
    rw [Bool.and_eq_true] at h1' h2'
    have e1 : k = z := of_decide_eq_true h1'.1
    subst e1
    obtain ⟨q1, q2, q3, q4⟩ := pps_of h1'.2 h2'.2 (Nat.succ.inj hl)
    exact ⟨pps_cons pe_str (pe_valOk h2'.1) q1, by rw [List.all_cons, q2]; rfl, congrArg Nat.succ q3, congrArg Nat.succ q4⟩
theorem sx_dix {ks : List Str} {vs : List Int} {keys : List (Option Expr)} {es : List Expr} {dp : Pos} (hu : X.A.units + 1 < cLine) (h1 : keysOk ks keys = true) (h2 : valsOk vs es = true) (hl : ks.length = vs.length) (hn : ks.Nodup) (h0 : ks ≠ []) (h15 : ks.length ≤ 15)
    (ha : PE X ea (tX X.K X.mg W a)) (hs : NoSl ea) : PE X (.Subscript (.Dict keys es dp) ea pos) (tX X.K X.mg W (.dix ks vs a)) := by
  obtain ⟨q1, q2, q3, q4⟩ := pps_of (X := X) (pos := dp) h1 h2 hl
  refine (pe_dget hu (pe_disp q1 q2 (by rw [q3, q4, hl]) (by
    intro z
    rw [z] at q3
    exact h0 (List.eq_nil_of_length_eq_zero q3.symm)) (by rw [q3]; exact h15)) ha hs).weak fun σ H Q ⟨C, F, s, r, h⟩ => ?_
  intro p hp
  refine dtrs_pairs ks vs σ _ _ ⟨upd_same, dkeys ks vs, rfl, Nat.le_trans (dkeys_len ks vs) h15, ?_⟩
  have em : mergeK [] (dkeys ks vs) = dkeys ks vs := by
    rw [dkeys_merge ks vs [] hn (fun p hp => by cases hp)]
    rfl
  have eu : upd (upd H p (.dK [])) p (.dK (mergeK [] (dkeys ks vs))) = upd H p (.dK (dkeys ks vs)) := by
    rw [em]
    funext b
    by_cases c : b = p
    · subst c
      rw [upd_same, upd_same]
    · rw [upd_ne c, upd_ne c, upd_ne c]
  rw [eu]
  have lF := Le.upd (F := F) (.dK (dkeys ks vs)) (r.freeF hp)
  refine ⟨C, _, s, r.alloc (.dK (dkeys ks vs)) hp, ?_⟩
  refine (Post.dat (Post.up h lF)).imp fun u F1 s1 H1 l1 r1 ⟨x, e, g⟩ v d1 => ?_
  subst e
  cases x with
  | str z =>
    cases d1
    obtain ⟨y, ey, g2⟩ := g.lift
    obtain ⟨n, e1, e2⟩ := dkeys_val ks vs z y ey
    subst e1
    refine ⟨p, .int n, rfl, ?_, g2.fin r1 (.int n)⟩
    have hd : H1 p = some (.dK (dkeys ks vs)) := r1.le _ _ (l1 _ _ upd_same)
    rw [← e2]
    exact DGet.k (k := Sum.inr z) hd
  | _ => exact g.elim
/-! list(range(a, b)) -/
theorem rg_dn {K : PySem.W.Frag} {F : Hp} (i j : Int) : DnAll K F (rgV i j) (rangeD i (j - i).toNat) := by
  unfold rgV rangeD
  generalize List.range (j - i).toNat = l
  induction l with
  | nil => exact .nil
  | cons a l ih => exact .cons (.int _) ih
theorem sx_lrg {p p2 pos2 : Pos} (hc : X.calm = true) (hg : Gl X "list") (hm : X.mg "list" = none) (hg2 : Gl X "range") (hm2 : X.mg "range" = none) (ha : PE X ea (tX X.K X.mg W a)) (hb : PE X eb (tX X.K X.mg W b)) (na : ∀ es, starEach (ea :: es) X.env = (false, eval ea X.env) :: starEach es X.env) (nb : ∀ es, starEach (eb :: es) X.env = (false, eval eb X.env) :: starEach es X.env) :
    PE X (.Call (.Name "list" p) [.Call (.Name "range" p2) [ea, eb] [] pos2] [] pos) (tX X.K X.mg W (.lrg a b)) := by
  refine (pe_listRg hc hg hm (prg_2 hg2 hm2 ha hb (na _) (nb _) (by rw [nb]; rfl))).weak fun σ H Q ⟨C, F, s, r, h⟩ => ⟨C, F, s, r, ?_⟩
  refine (Post.dat h).imp fun u F1 s1 H1 l1 r1 ⟨x, e, h1⟩ v d1 => ⟨C, F1, s1, r1, ?_⟩
  subst e
  refine (Post.dat h1).imp fun u F2 s2 H2 l2 r2 ⟨y, e, h2⟩ w d2 => ?_
  subst e
  cases x with
  | int i =>
    cases y with
    | int j =>
      cases d1
      cases d2
      have h3 : Post X.K X.mg W C F2 σ (if (-1000000 ≤ i ∧ i ≤ 1000000) ∧ -1000000 ≤ j ∧ j ≤ 1000000 then .ok (.d (.list (rangeD i (j - i).toNat))) s2 else .stuck) (fun u F' _ H' => ∀ v, DenU X.K C.b F' u v → Q v H') := h2
      split at h3
      · rename_i hh
        refine ⟨i, j, rfl, rfl, ⟨by omega, by omega, by omega, by omega, by omega⟩, fun q hq => ?_⟩
        obtain ⟨F', lF, r', d⟩ := r2.lst hq (rg_dn i j)
        exact h3 F' _ lF r' _ d
      · exact h3.elim
    | _ => exact h2.elim
  | _ => exact h2.elim
theorem sx_lr1 {p p2 pos2 : Pos} (hc : X.calm = true) (hg : Gl X "list") (hm : X.mg "list" = none) (hg2 : Gl X "range") (hm2 : X.mg "range" = none) (ha : PE X ea (tX X.K X.mg W a)) (na : ∀ es, starEach (ea :: es) X.env = (false, eval ea X.env) :: starEach es X.env) :
    PE X (.Call (.Name "list" p) [.Call (.Name "range" p2) [ea] [] pos2] [] pos) (tX X.K X.mg W (.lr1 a)) := by
  refine (pe_listRg hc hg hm (prg_1 hg2 hm2 ha (na _))).weak fun σ H Q ⟨C, F, s, r, h⟩ => ⟨C, F, s, r, ?_⟩
  refine (Post.dat h).imp fun u F1 s1 H1 l1 r1 ⟨x, e, h1⟩ v d1 => ?_
  subst e
  cases x with
  | int j =>
    cases d1
    have h3 : Post X.K X.mg W C F1 σ (if -1000000 ≤ j ∧ j ≤ 1000000 then .ok (.d (.list (rangeD 0 j.toNat))) s1 else .stuck) (fun u F' _ H' => ∀ v, DenU X.K C.b F' u v → Q v H') := h1
    split at h3
    · rename_i hh
      refine ⟨j, rfl, ⟨by omega, by omega, by omega, by omega, by omega⟩, fun q hq => ?_⟩
      have d0 := rg_dn (K := X.K) (F := F1) 0 j
      rw [show (j - 0).toNat = j.toNat by omega] at d0
      obtain ⟨F', lF, r', d⟩ := r1.lst hq d0
      exact h3 F' _ lF r' _ d
    · exact h3.elim
  | _ => exact h1.elim
end
end RD
set_option Elab.async false
set_option linter.all false
set_option maxRecDepth 100000
/-! RdSa: sets of nested tuples, over the heap: what a search and an adding do. -/
namespace SN
open PySem PySem.Spec PyProof.Rows L2
/-- where a key stands, and the key -/
abbrev Row := Addr × NestedKey
/-- the tuple that stands there is this key -/
def At (h : Heap) (k : NestedKey) (b : Addr) : Prop := NestedIs h k (.ref b) ∧ k.depth ≤ 8
theorem At.keep {h h' : Heap} {k : NestedKey} {b : Addr} (x : At h k b) (m : ∀ c o, h.get? c = some o → h'.get? c = some o) : At h' k b := ⟨NestedIs.at (fun c o _ _ e _ => m c o e) _ _ x.1, x.2⟩
theorem At.one {h : Heap} {k j : NestedKey} {b : Addr} (x : At h k b) (y : At h j b) : k = j := NestedIs.inj _ _ _ x.1 y.1
theorem At.but {h h' : Heap} {k : NestedKey} {a b : Addr} {ob : Obj} {es : Array (Int × Value)} {ep : Nat} {t : SetTable} (x : At h k b) (e : h.get? a = some ob) (d : ob.data = .set es ep t) (m : Heap.SameBut a h h') : At h' k b :=
  ⟨NestedIs.at (fun c o vs n e1 e2 => (m.2 c fun z => by rw [z, e] at e1; cases e1; rw [d] at e2; cases e2).trans e1) _ _ x.1, x.2⟩

section
variable {P : Program} {w : World} {s : Shared}
/-- no class statement's object -/
def NoOwn (P : Program) (w : World) (n : Nat) (s : Shared) (v : Value) : Prop := ∀ (A : Around) (E : Value → Shared → Prop) (Q : Bool → Shared → Prop), Q false s → wpAny (model P w) A (ofAClassStatement n v) Q E s
/-- the hash is asked, whatever it says -/
def ByV (P : Program) (w : World) (n : Nat) (s : Shared) (v : Value) : Prop := ∀ (A : Around) (E : Value → Shared → Prop) (Q : Bool → Shared → Prop), (∀ b, Q b s) → wpAny (model P w) A (hashByValue n v) Q E s
mutual
theorem no_own : ∀ (k : NestedKey) (v : Value) (n : Nat), NestedIs s.heap k v → k.depth ≤ n → NoOwn P w n s v
  | .none, _, n, x, _ => by cases x; intro A E Q q; cases n <;> exact wpAny_pure q
  | .num i, _, n, x, _ => by cases x <;> (intro A E Q q; cases n <;> exact wpAny_pure q)
  | .text y, _, n, x, _ => by cases x; intro A E Q q; cases n <;> exact wpAny_pure q
  | .tup ks, _, n, x, hn => by
    cases x with
    | @tup b ob vs m _ g1 g2 g3 g4 =>
      simp only [NestedKey.depth] at hn
      cases n with
      | zero => omega
      | succ n =>
        intro A E Q q
        have all := no_owns ks vs.toList n g4 (by omega)
        unfold ofAClassStatement
        refine wpAny_bind (wpAny_typeOf ⟨ob, g1, g2⟩ ?_)
        dsimp only
        rw [show (("tuple" : String) == "tuple") = true by decide]
        simp only [if_true, Bool.not_true, Bool.false_eq_true, if_false]
        try refine wpAny_bind (wpAny_pure ?_)
        try simp only [Bool.not_true, Bool.false_eq_true, if_false]
        refine wpAny_bind (wpAny_seqItems g1 g3 ?_)
        dsimp only
        refine wpAny_bind ?_
        show wpAny _ _ (forIn vs _ _) _ _ s
        rw [← Array.forIn_toList]
        refine wpAny_forIn_list _ (fun left r s1 => r.1 = none ∧ s1 = s ∧ ∀ v ∈ left, NoOwn P w n s v) _ (fun v left r s1 z => ?_) (fun r s1 z => ?_) _ _ ⟨rfl, rfl, all⟩
        · obtain ⟨z1, rfl, z3⟩ := z
          refine wpAny_bind (z3 v List.mem_cons_self _ _ _ ?_)
          simp only [Bool.false_eq_true, if_false]
          exact wpAny_pure ⟨rfl, rfl, fun u hu => z3 u (List.mem_cons_of_mem _ hu)⟩
        · obtain ⟨r1, r2⟩ := r
          obtain ⟨z1, rfl, _⟩ := z
          simp only at z1
          subst z1
          exact wpAny_pure q
theorem no_owns : ∀ (ks : List NestedKey) (vs : List Value) (n : Nat), NestedAll s.heap ks vs → NestedKey.depthAll ks ≤ n → ∀ v ∈ vs, NoOwn P w n s v
  | [], _, n, x, _, v, hv => by cases x; cases hv
  | k :: ks, _, n, x, hn, v, hv => by
    cases x with
    | cons x1 x2 =>
      simp only [NestedKey.depthAll] at hn
      rcases List.mem_cons.mp hv with e | hv
      · rw [e]
        exact no_own k _ n x1 (by omega)
      · exact no_owns ks _ n x2 (by omega) v hv
end
mutual
theorem by_v : ∀ (k : NestedKey) (v : Value) (n : Nat), NestedIs s.heap k v → k.depth ≤ n → ByV P w n s v
  | .none, _, n, x, _ => by cases x; intro A E Q q; cases n <;> exact wpAny_pure (q _)
  | .num i, _, n, x, _ => by cases x <;> (intro A E Q q; cases n <;> exact wpAny_pure (q _))
  | .text y, _, n, x, _ => by cases x; intro A E Q q; cases n <;> exact wpAny_pure (q _)
  | .tup ks, _, n, x, hn => by
    cases x with
    | @tup b ob vs m _ g1 g2 g3 g4 =>
      simp only [NestedKey.depth] at hn
      cases n with
      | zero => omega
      | succ n =>
        intro A E Q q
        have all := by_vs ks vs.toList n g4 (by omega)
        unfold hashByValue
        refine wpAny_bind (wpAny_specialOf ⟨ob, g1, g2⟩ F.slot_tuple_hash.lookup ?_)
        dsimp only
        refine wpAny_bind (wpAny_seqItems g1 g3 ?_)
        refine wpAny_bind ?_
        show wpAny _ _ (forIn vs _ _) _ _ s
        rw [← Array.forIn_toList]
        refine wpAny_forIn_list _ (fun left r s1 => r.1 = none ∧ s1 = s ∧ ∀ v ∈ left, ByV P w n s v) _ (fun v left r s1 z => ?_) (fun r s1 z => ?_) _ _ ⟨rfl, rfl, all⟩
        · obtain ⟨z1, rfl, z3⟩ := z
          refine wpAny_bind (z3 v List.mem_cons_self _ _ _ fun b => ?_)
          cases b
          · simp only [Bool.not_false, if_true]
            exact wpAny_pure (wpAny_pure (q _))
          · simp only [Bool.not_true, Bool.false_eq_true, if_false]
            exact wpAny_pure ⟨rfl, rfl, fun u hu => z3 u (List.mem_cons_of_mem _ hu)⟩
        · obtain ⟨r1, r2⟩ := r
          obtain ⟨z1, rfl, _⟩ := z
          simp only at z1
          subst z1
          exact wpAny_pure (q _)
theorem by_vs : ∀ (ks : List NestedKey) (vs : List Value) (n : Nat), NestedAll s.heap ks vs → NestedKey.depthAll ks ≤ n → ∀ v ∈ vs, ByV P w n s v
  | [], _, n, x, _, v, hv => by cases x; cases hv
  | k :: ks, _, n, x, hn, v, hv => by
    cases x with
    | cons x1 x2 =>
      simp only [NestedKey.depthAll] at hn
      rcases List.mem_cons.mp hv with e | hv
      · rw [e]
        exact by_v k _ n x1 (by omega)
      · exact by_vs ks _ n x2 (by omega) v hv
end
end
end SN
set_option Elab.async false
set_option linter.all false
set_option maxRecDepth 100000
/-! RdSb: the search in a set of nested tuples; adding one. -/
namespace SN
open PySem PySem.Spec PyProof.Rows L2
/-- the entries of such rows -/
def rows (w : World) (L : List Row) : List (Int × Value) := L.map fun r => (r.2.hash w, Value.ref r.1)
theorem rows_len (w : World) (L : List Row) : (rows w L).length = L.length := List.length_map ..
theorem rows_at {w : World} {L : List Row} {es : Array (Int × Value)} (e : es.toList = rows w L) {i : Nat} {r : Row} (h : L[i]? = some r) : es[i]? = some (r.2.hash w, Value.ref r.1) := by
  rw [← Array.getElem?_toList, e, rows, List.getElem?_map, h]
  rfl
theorem size_of {w : World} {L : List Row} {es : Array (Int × Value)} (e : es.toList = rows w L) : es.size = L.length := by
  rw [← Array.length_toList, e, rows_len]
/-- the set's object at a holds these rows -/
structure Is (w : World) (h : Heap) (a : Addr) (L : List Row) (es : Array (Int × Value)) (ep : Nat) (t : SetTable) : Prop where
  obj : ∃ o, h.get? a = some o ∧ o.ExactSet ∧ o.data = .set es ep t
  ent : es.toList = rows w L
  tab : TabOk t (L.map fun r => r.2.hash w)
  dif : (L.map (·.2)).Nodup
  key : ∀ r ∈ L, At h r.2 r.1
  led : w.params.followText "set-order" = true ∨ t.led = true
  gap : 5 * L.length < 3 * t.mask
  few : L.length < 64
theorem fits_of {w : World} {L : List Row} {es : Array (Int × Value)} {t : SetTable} (e : es.toList = rows w L) (T : TabOk t (L.map fun r => r.2.hash w)) (g : L.length ≤ t.mask) : t.fits es.size = true := by
  have n1 := T.sz
  rw [List.length_map] at n1
  have n2 := size_of e
  simp only [SetTable.fits, SetTable.fill, T.dm, Bool.and_eq_true, beq_iff_eq, decide_eq_true_eq]
  refine ⟨by omega, ?_⟩
  show t.place.size + 0 ≤ t.mask
  omega
/-- the steps of a search -/
def pr (m : Nat) (H : Int) (c : Nat) : SetTable.Probe := nth m (runAt m (SetTable.bits H % (m + 1)) (SetTable.bits H)) c
theorem pr_on (m : Nat) (H : Int) (c q : Nat) : nth m (pr m H c) q = pr m H (c + q) := (nth_add m c _ q).symm
theorem pr_j (m : Nat) (H : Int) (c q : Nat) : (nth m (pr m H c) q).j = way m H (c + q) := congrArg SetTable.Probe.j (pr_on m H c q)
theorem pr_dummy (m : Nat) (H : Int) (c : Nat) : (pr m H c).dummy = none := by
  have go : ∀ (c : Nat) (p : SetTable.Probe), p.dummy = none → (nth m p c).dummy = none := by
    intro c
    induction c with
    | zero => exact fun p e => e
    | succ c ih =>
      intro p e
      refine ih (adv m p) ?_
      unfold adv
      split <;> exact e
  exact go c _ rfl
section
variable {P : Program} {w : World} {A : Around} {E : Value → Shared → Prop} {s : Shared} {a : Addr} {L : List Row} {es : Array (Int × Value)} {ep : Nat} {t : SetTable}
theorem Is.fits (R : Is w s.heap a L es ep t) : t.fits es.size = true := fits_of R.ent R.tab (by have := R.gap; omega)
theorem Is.off (R : Is w s.heap a L es ep t) : ¬ t.gaveWay = true := by
  unfold SetTable.gaveWay
  rw [mask_odd R.tab.mok]
  decide
/-- looking among such tuples shows nothing -/
theorem hidden {k : NestedKey} {b : Addr} {Q : Bool → Shared → Prop} (x : At s.heap k b) {ys : List Value} (hy : ∀ y ∈ ys, ∃ j c, y = Value.ref c ∧ At s.heap j c) (q : Q false s) : wpAny (model P w) A (searchCouldBeSeen (.ref b) ys) Q E s := by
  unfold searchCouldBeSeen
  refine wpAny_bind (wpAny_forIn_list _ (fun left r s1 => r.1 = none ∧ s1 = s ∧ ∀ y ∈ left, ∃ j c, y = Value.ref c ∧ At s.heap j c) _ (fun v left r s1 z => ?_) (fun r s1 z => ?_) _ _ ⟨rfl, rfl, hy⟩)
  · obtain ⟨z1, rfl, z3⟩ := z
    obtain ⟨j, c, rfl, y⟩ := z3 v List.mem_cons_self
    have more : ∀ y ∈ left, ∃ j c, y = Value.ref c ∧ At s1.heap j c := fun u hu => z3 u (List.mem_cons_of_mem _ hu)
    dsimp only
    by_cases c0 : (b == c || (carriedByValue (.ref b) && carriedByValue (.ref c))) = true
    · exact wp_if_pos c0 (wpAny_pure ⟨rfl, rfl, more⟩)
    · refine wp_if_neg c0 (wpAny_bind (quiet_key _ _ 8 _ x.1 x.2 _ _ _ ?_))
      simp only [Bool.not_true, Bool.false_eq_true, if_false]
      refine wpAny_bind (quiet_key _ _ 8 _ y.1 y.2 _ _ _ ?_)
      simp only [Bool.not_true, Bool.false_eq_true, if_false]
      refine wpAny_bind (no_own _ _ 8 x.1 x.2 _ _ _ ?_)
      simp only [Bool.false_eq_true, if_false]
      refine wpAny_bind (no_own _ _ 8 y.1 y.2 _ _ _ ?_)
      simp only [Bool.false_eq_true, if_false]
      exact wpAny_pure ⟨rfl, rfl, more⟩
  · obtain ⟨r1, r2⟩ := r
    obtain ⟨z1, rfl, _⟩ := z
    simp only at z1
    subst z1
    exact wpAny_pure q

/-- from the c-th step on -/
theorem seek (R : Is w s.heap a L es ep t) {x : Addr} {k : NestedKey} (hx : At s.heap k x) (hu : A.units + 8 < cLine) {N : Nat} (n1 : N < 10 * SetTable.turns t.mask)
    (n2 : way t.mask (k.hash w) N ∉ t.place.toList) (n3 : ∀ c, c < N → way t.mask (k.hash w) c ∈ t.place.toList) {Q : SetFound → Shared → Prop}
    (yes : k ∈ L.map (·.2) → Q (.there none) s) (no : k ∉ L.map (·.2) → Q (.free (way t.mask (k.hash w) N) false) s) :
    ∀ (f c : Nat) (from_ : Option SetTable.Probe), from_.getD (t.probeStart (k.hash w)) = pr t.mask (k.hash w) c → c ≤ N → N < c + f →
      (∀ (i : Nat) r, L[i]? = some r → r.2 = k → ∃ d, c ≤ d ∧ d < N ∧ t.place.toList[i]? = some (way t.mask (k.hash w) d)) →
      wpAny (model P w) A (setSearchFrom a (.ref x) (k.hash w) true f from_) Q E s
  | 0, c, from_, _, c1, c2, _ => absurd c2 (by omega)
  | f + 1, c, from_, e0, c1, c2, ahead => by
    obtain ⟨o, o1, o2, o3⟩ := R.obj
    rw [setSearchFrom_succ]
    refine wpAny_bind (wpAny_setState_of o1 o3 R.fits ?_)
    dsimp only
    refine wp_if_neg R.off ?_
    try refine wpAny_bind (wpAny_pure ?_)
    have says := go_spec t R.tab.ris R.tab.dm (fun i => (es[i]?.map (·.1)).getD 0) (k.hash w) (10 * SetTable.turns t.mask) (N - c) (pr t.mask (k.hash w) c) (pr_dummy ..) (by omega)
      (fun q hq => by rw [pr_j]; exact n3 _ (by omega)) (by rw [pr_j, Nat.add_sub_cancel' c1]; exact n2)
    have hs : ∀ (i : Nat) r, L[i]? = some r → (es[i]?.map (·.1)).getD 0 = r.2.hash w := fun i r hr => by rw [rows_at R.ent hr]; rfl
    rcases says with ⟨q, i, q1, q2, q3, q4, q5⟩ | ⟨q4, q5⟩
    · have met : t.probe (fun i => (es[i]?.map (·.1)).getD 0) (k.hash w) (from_.getD (t.probeStart (k.hash w))) = some (.candidate (way t.mask (k.hash w) (c + q)) i (pr t.mask (k.hash w) (c + (q + 1)))) := by
        rw [e0, ← pr_j, ← pr_on]
        exact q5
      rw [met]
      dsimp only
      rw [pr_j] at q2
      have il : i < L.length := by
        have z1 := (List.getElem?_eq_some_iff.mp q2).1
        have z2 := R.tab.sz
        rw [List.length_map] at z2
        rw [Array.length_toList] at z1
        omega
      obtain ⟨r, hr⟩ : ∃ r, L[i]? = some r := ⟨_, List.getElem?_eq_getElem il⟩
      have hr' := List.mem_of_getElem? hr
      have live := slot_live R.tab.ris q2
      have go : wpAny (model P w) A (searchRest a (.ref x) (k.hash w) true f es t (way t.mask (k.hash w) (c + q)) i (pr t.mask (k.hash w) (c + (q + 1)))) Q E s := by
        unfold searchRest
        rw [rows_at R.ent hr]
        dsimp only
        refine wpAny_bind (wpAny_holding ((nestedKind P w).eqBool (x := r.2) (y := k) hu (R.key r hr') hx ?_))
        refine wpAny_bind (wpAny_setState_of o1 o3 R.fits ?_)
        dsimp only
        by_cases same : r.2 = k
        · exact wp_if_pos (by simp [same]) (wpAny_pure (yes (List.mem_map.mpr ⟨r, hr', same⟩)))
        · refine wp_if_neg (by simp [same]) ?_
          try refine wpAny_bind (wpAny_pure ?_)
          rw [sameMem]
          dsimp only
          simp only [if_true, live, rows_at R.ent hr]
          refine wpAny_bind (wpAny_isSame_ref_self (wpAny_bind (wpAny_pure ?_)))
          simp only [if_true]
          refine wp_if_neg (by simp [same]) ?_
          refine seek R hx hu n1 n2 n3 yes no f (c + (q + 1)) _ rfl (by omega) (by omega) fun j u h1 h2 => ?_
          obtain ⟨d, d1, d2, d3⟩ := ahead j u h1 h2
          refine ⟨d, ?_, d2, d3⟩
          rcases Nat.lt_trichotomy d (c + q) with z | z | z
          · exact absurd ((hs j u h1).trans (congrArg _ h2)) (q4 (d - c) j (by omega) (by rw [pr_j, Nat.add_sub_cancel' d1]; exact d3))
          · rw [z] at d3
            have l2 := slot_live R.tab.ris d3
            rw [live] at l2
            injection l2 with l2
            rw [← l2, hr] at h1
            cases h1
            exact absurd h2 same
          · omega
      by_cases hl : t.led = true
      · refine wp_if_neg (by simp [hl]) ?_
        try refine wpAny_bind (wpAny_pure ?_)
        exact go
      · refine wp_if_pos (by simp [hl]) (wpAny_bind (hidden hx (fun y hy => ?_) ?_))
        · obtain ⟨e, he, rfl⟩ := List.mem_map.mp hy
          have he2 : e ∈ es.toList := by
            have : e ∈ es ∧ e.1 = k.hash w := by simpa using he
            simpa using this.1
          rw [R.ent] at he2
          obtain ⟨u, hu2, rfl⟩ := List.mem_map.mp he2
          exact ⟨u.2, u.1, rfl, R.key u hu2⟩
        · refine wp_if_neg (by decide) ?_
          try refine wpAny_bind (wpAny_pure ?_)
          exact go
    · have met : t.probe (fun i => (es[i]?.map (·.1)).getD 0) (k.hash w) (from_.getD (t.probeStart (k.hash w))) = some (.empty (way t.mask (k.hash w) N) none) := by
        have e1 : way t.mask (k.hash w) N = (nth t.mask (pr t.mask (k.hash w) c) (N - c)).j := by rw [pr_j, Nat.add_sub_cancel' c1]
        rw [e0, e1]
        exact q5
      rw [met]
      dsimp only
      refine wpAny_pure (no fun z => ?_)
      obtain ⟨u, hu1, hu2⟩ := List.mem_map.mp z
      obtain ⟨j, hj, ej⟩ := List.getElem_of_mem hu1
      have h1 : L[j]? = some u := by rw [List.getElem?_eq_getElem hj, ej]
      obtain ⟨d, d1, d2, d3⟩ := ahead j u h1 hu2
      exact q4 (d - c) j (by omega) (by rw [pr_j, Nat.add_sub_cancel' d1]; exact d3) ((hs j u h1).trans (congrArg _ hu2))
/-- as adding asks -/
theorem seek0 (R : Is w s.heap a L es ep t) {x : Addr} {k : NestedKey} (hx : At s.heap k x) (hu : A.units + 8 < cLine) {Q : SetFound → Shared → Prop} (yes : k ∈ L.map (·.2) → Q (.there none) s)
    (no : ∀ N, k ∉ L.map (·.2) → way t.mask (k.hash w) N ∉ t.place.toList → (∀ c, c < N → way t.mask (k.hash w) c ∈ t.place.toList) → Q (.free (way t.mask (k.hash w) N) false) s) :
    wpAny (model P w) A (setSearch a (.ref x) (k.hash w) true) Q E s := by
  have g := R.gap
  obtain ⟨N, n1, n2, n3⟩ := R.tab.first (by rw [List.length_map]; omega) (k.hash w)
  have small : N < 100000 := by
    have : SetTable.turns t.mask ≤ 142 := by
      unfold SetTable.turns
      rcases R.tab.mok with e | e | e <;> omega
    omega
  unfold setSearch
  refine seek R hx hu n1 n2 n3 yes (fun z => no N z n2 n3) 100000 0 none rfl (Nat.zero_le _) (by omega) fun i r hr hk => ?_
  have hi : (L.map fun r => r.2.hash w)[i]? = some (k.hash w) := by rw [List.getElem?_map, hr, ← hk]; rfl
  have il : i < t.place.toList.length := by
    have z1 := (List.getElem?_eq_some_iff.mp hr).1
    have z2 := R.tab.sz
    rw [List.length_map] at z2
    rw [Array.length_toList]
    omega
  obtain ⟨c, c1, c2⟩ := R.tab.before n2 hi (List.getElem?_eq_getElem il)
  exact ⟨c, Nat.zero_le _, c1, by rw [List.getElem?_eq_getElem il, c2]⟩
end
end SN
set_option Elab.async false
set_option linter.all false
set_option maxRecDepth 100000
/-! RdSc: adding to a set of nested tuples; the table laid anew. -/
namespace SN
open PySem PySem.Spec PyProof.Rows L2
section
variable {P : Program} {w : World} {A : Around} {E : Value → Shared → Prop} {s : Shared} {a : Addr} {L : List Row} {es : Array (Int × Value)} {ep : Nat} {t : SetTable}
/-- entries picked in some order are rows again -/
theorem picked {order : Array Nat} (e : es.toList = rows w L) (p : order.toList.Perm (List.range L.length)) :
    ∃ M, (order.filterMap (es[·]?)).toList = rows w M ∧ M.Perm L ∧ (M.map fun r => r.2.hash w) = order.toList.map fun i => (es.map (·.1)).getD i 0 := by
  have n := size_of e
  have step : ∀ l : List Nat, (∀ i ∈ l, i < L.length) → ∃ M, l.filterMap (fun i => es[i]?) = rows w M ∧ M = l.filterMap (fun i => L[i]?) ∧ (M.map fun r => r.2.hash w) = l.map fun i => (es.map (·.1)).getD i 0 := by
    intro l
    induction l with
    | nil => exact fun _ => ⟨[], rfl, rfl, rfl⟩
    | cons i l ih =>
      intro hl
      have hi := hl i List.mem_cons_self
      have at_i := rows_at e (List.getElem?_eq_getElem hi)
      obtain ⟨M, m1, m2, m3⟩ := ih fun j hj => hl j (List.mem_cons_of_mem _ hj)
      refine ⟨L[i] :: M, ?_, ?_, ?_⟩
      · rw [List.filterMap_cons_some at_i, m1]
        rfl
      · rw [List.filterMap_cons_some (List.getElem?_eq_getElem hi), m2]
      · have : (es.map (·.1))[i]? = some ((L[i]).2.hash w) := by rw [Array.getElem?_map, at_i]; rfl
        rw [List.map_cons, List.map_cons, m3, show (es.map (·.1)).getD i 0 = (L[i]).2.hash w by simp [Array.getD_eq_getD_getElem?, this]]
  obtain ⟨M, m1, m2, m3⟩ := step order.toList fun i hi => List.mem_range.mp (p.mem_iff.mp hi)
  have all : ∀ n, n ≤ L.length → (List.range n).filterMap (fun i => L[i]?) = L.take n := by
    intro n
    induction n with
    | zero => exact fun _ => rfl
    | succ n ih =>
      intro hn
      rw [List.range_succ, List.filterMap_append, ih (Nat.le_of_lt hn), List.take_succ, List.getElem?_eq_getElem hn, List.filterMap_cons_some (List.getElem?_eq_getElem hn)]
      rfl
  refine ⟨M, by first | (rw [Array.toList_filterMap]; exact m1) | simpa using m1, ?_, m3⟩
  have q := p.filterMap fun i => L[i]?
  rw [← m2, all L.length (Nat.le_refl _), List.take_length] at q
  exact q
/-- laid anew -/
theorem anew {o : Obj} (o1 : s.heap.get? a = some o) (o2 : o.ExactSet) (o3 : o.data = .set es ep t) (e : es.toList = rows w L) (T : TabOk t (L.map fun r => r.2.hash w)) (g : L.length ≤ t.mask) (dif : (L.map (·.2)).Nodup) (key : ∀ r ∈ L, At s.heap r.2 r.1)
    (led : w.params.followText "set-order" = true ∨ t.led = true) (few : L.length < 64) {M n : Nat} (z1 : SetTable.sizeAbove n - 1 = M) (z2 : MaskOk M) (z3 : SetTable.sizeAbove n ≤ 128) (z4 : 5 * L.length < 3 * M) {Q : Unit → Shared → Prop}
    (q : ∀ h' L' es' ep' t', Heap.SameBut a s.heap h' → Is w h' a L' es' ep' t' → L'.Perm L → Q () { s with heap := h' }) : wpAny (model P w) A (setRelay a n) Q E s := by
  have sz := size_of e
  obtain ⟨t', order, r1, r2, r3, r4, r5, _, r7⟩ := relaid_ok t (hs := es.map (·.1)) z1 z2 (by rw [Array.size_map, sz]; omega)
  rw [Array.size_map, sz] at r2
  obtain ⟨L', p1, p2, p3⟩ := picked e r2
  rw [← p3] at r3
  have sz' : (order.filterMap (es[·]?)).size = es.size := by rw [size_of p1, p2.length_eq, sz]
  rw [setRelay_eq]
  refine wpAny_bind (wpAny_setState_of o1 o3 (fits_of e T g) ?_)
  dsimp only
  refine wp_if_neg (by rw [sizeLine_eq]; omega) ?_
  try refine wpAny_bind (wpAny_pure ?_)
  rw [r1]
  dsimp only
  refine wpAny_bind (wp_if_neg (by rw [sz']; simp) ?_)
  try refine wpAny_bind (wpAny_pure ?_)
  refine wpAny_pure ?_
  dsimp only
  refine wpAny_storeSet_of o1 o3 ?_ (by rw [sz', sz, sizeLine_eq]; omega)
  have b : Heap.SameBut a s.heap (s.heap.update a (Obj.putSet (order.filterMap (es[·]?)) t')) := Heap.SameBut.update ..
  refine q _ L' (order.filterMap (es[·]?)) (ep + 1) t' b ⟨⟨_, store_at o1 o3, ⟨o2.1, o2.2.1, o2.2.2⟩, rfl⟩, p1, r3, (p2.map (·.2)).nodup_iff.mpr dif, fun r hr => (key r (p2.mem_iff.mp hr)).but o1 o3 b, by rw [r5]; exact led, ?_, by rw [p2.length_eq]; exact few⟩ p2
  rw [p2.length_eq, r4]
  exact z4
/-- one is added -/
theorem add (R : Is w s.heap a L es ep t) {x : Addr} {k : NestedKey} (hx : At s.heap k x) (hu : A.units + 8 < cLine) (few : k ∉ L.map (·.2) → L.length + 1 < 64) {Q : Bool → Shared → Prop}
    (q : ∀ b h' L' es' ep' t', Heap.SameBut a s.heap h' → Is w h' a L' es' ep' t' → (k ∈ L.map (·.2) → L' = L) → (k ∉ L.map (·.2) → L'.Perm ((x, k) :: L)) → Q b { s with heap := h' }) :
    wpAny (model P w) A (setAddHashed a (.ref x) (k.hash w) ) Q E s := by
  obtain ⟨o, o1, o2, o3⟩ := R.obj
  have sz := size_of R.ent
  have g := R.gap
  unfold setAddHashed
  refine wpAny_holding ?_
  rw [show (100000 : Nat) = 99999 + 1 from rfl, setAddHashedIn_succ]
  refine wpAny_bind (wpAny_setState_of o1 o3 R.fits ?_)
  dsimp only
  refine wp_if_neg (by simp [byScan, Value.scannable]) ?_
  try refine wpAny_bind (wpAny_pure ?_)
  refine wpAny_bind (seek0 R hx hu (fun hm => ?_) fun N hm n2 n3 => ?_)
  · dsimp only
    exact wpAny_pure (q false s.heap L es ep t (Heap.SameBut.refl a s.heap) R (fun _ => rfl) fun z => absurd hm z)
  · dsimp only
    have few := few hm
    refine wpAny_bind (wpAny_setState_of o1 o3 R.fits ?_)
    dsimp only
    obtain ⟨p1, p2, p3, p4, p5, p6, p7, p8, p9⟩ := R.tab.put n2 n3
    generalize hpt : t.put (way t.mask (k.hash w) N) = pt at p1 p3 p4 p5 p6 p7 p8 p9 ⊢
    obtain ⟨t1, n⟩ := pt
    dsimp only at p1 p3 p4 p5 p6 p7 p8 p9 ⊢
    subst p1
    generalize hb : SetTable.below t.place (way t.mask (k.hash w) N) = n at p2 p3 ⊢
    have rest : ∀ t2 : SetTable, TabOk t2 ((L.map fun r => r.2.hash w).take n ++ k.hash w :: (L.map fun r => r.2.hash w).drop n) → t2.mask = t.mask → t2.led = t.led → t2.tooFull = t1.tooFull →
        wpAny (model P w) A (do
          storeSet a (SetTable.insertAt es n (k.hash w, .ref x)) t2
          if !false && t2.tooFull then setRelay a (SetTable.grown (es.size + 1))
          return true) Q E s := by
      intro t2 T2 m2 l2 f2
      have ent : (SetTable.insertAt es n (k.hash w, Value.ref x)).toList = rows w (L.take n ++ (x, k) :: L.drop n) := by
        rw [SetTable.toList_insertAt, R.ent, rows, rows, List.map_append, List.map_cons, List.map_take, List.map_drop]
      have pm := put_perm L n (x, k)
      have len : (L.take n ++ (x, k) :: L.drop n).length = L.length + 1 := pm.length_eq
      have hs : (L.take n ++ (x, k) :: L.drop n).map (fun r => r.2.hash w) = (L.map fun r => r.2.hash w).take n ++ k.hash w :: (L.map fun r => r.2.hash w).drop n := by
        rw [List.map_append, List.map_cons, List.map_take, List.map_drop]
      rw [← hs] at T2
      have dif : ((L.take n ++ (x, k) :: L.drop n).map (·.2)).Nodup := (pm.map (·.2)).nodup_iff.mpr (List.nodup_cons.mpr ⟨hm, R.dif⟩)
      generalize SetTable.insertAt es n (k.hash w, Value.ref x) = es1 at ent ⊢
      generalize L.take n ++ (x, k) :: L.drop n = L1 at ent pm len T2 dif
      have sz1 := size_of ent
      refine wpAny_bind (wpAny_storeSet_of o1 o3 ?_ (by rw [sz1, len, sizeLine_eq]; omega))
      have sb : Heap.SameBut a s.heap (s.heap.update a (Obj.putSet es1 t2)) := Heap.SameBut.update ..
      have o1' := store_at (es' := es1) (t' := t2) o1 o3
      generalize s.heap.update a (Obj.putSet es1 t2) = h1 at sb o1' ⊢
      have key : ∀ r ∈ L1, At h1 r.2 r.1 := fun r hr => by
        rcases List.mem_cons.mp (pm.mem_iff.mp hr) with e | hr
        · rw [e]
          exact hx.but o1 o3 sb
        · exact (R.key r hr).but o1 o3 sb
      have led : w.params.followText "set-order" = true ∨ t2.led = true := by rw [l2]; exact R.led
      have full : t2.tooFull = decide (3 * t.mask ≤ 5 * (L.length + 1)) := by
        have z1 : t1.tooFull = t2.tooFull := f2.symm
        have z2 := T2.sz
        rw [List.length_map, len] at z2
        unfold SetTable.tooFull SetTable.fill
        rw [T2.dm, m2]
        show decide ((t2.place.size + 0) * 5 ≥ t.mask * 3) = _
        rw [z2]
        exact decide_eq_decide.mpr (by omega)
      by_cases hf : 3 * t.mask ≤ 5 * (L.length + 1)
      · have hf' : t2.tooFull = true := by rw [full]; exact decide_eq_true hf
        first
          | (refine wpAny_bind ?_; refine wp_if_pos (by simp [hf']) ?_)
          | (refine wp_if_pos (by simp [hf']) ?_; refine wpAny_bind ?_)
        rw [sz]
        have two : (t.mask = 7 ∧ L.length = 4) ∨ (t.mask = 31 ∧ L.length = 18) := by
          rcases R.tab.mok with e | e | e
          · exact .inl ⟨e, by omega⟩
          · exact .inr ⟨e, by omega⟩
          · omega
        have go : ∀ M, SetTable.sizeAbove (SetTable.grown (L.length + 1)) - 1 = M → MaskOk M → SetTable.sizeAbove (SetTable.grown (L.length + 1)) ≤ 128 → 5 * (L.length + 1) < 3 * M →
            wpAny (model P w) A (setRelay a (SetTable.grown (L.length + 1))) (fun _ s' => wpAny (model P w) A (pure true) Q E s') E { s with heap := h1 } := fun M c1 c2 c3 c4 => by
          refine anew (s := { s with heap := h1 }) o1' ⟨o2.1, o2.2.1, o2.2.2⟩ rfl ent T2 (by rw [len, m2]; omega) dif key led (by rw [len]; exact few) c1 c2 c3 (by rw [len]; exact c4) ?_
          intro h2 L2 es2 ep2 t2 sb2 R2 pm2
          exact wpAny_pure (q true h2 L2 es2 ep2 t2 (sb.trans sb2) R2 (fun z => absurd z hm) fun _ => pm2.trans pm)
        rcases two with ⟨_, e2⟩ | ⟨_, e2⟩
        · exact go 31 (by rw [e2, size_20]) (.inr (.inl rfl)) (by rw [e2, size_20]; decide) (by omega)
        · exact go 127 (by rw [e2, size_76]) (.inr (.inr rfl)) (by rw [e2, size_76]; decide) (by omega)
      · have hf' : t2.tooFull = false := by rw [full]; exact decide_eq_false hf
        first
          | refine wp_if_neg (by simp [hf']) ?_
          | (refine wpAny_bind ?_; refine wp_if_neg (by simp [hf']) ?_; refine wpAny_pure ?_)
        exact wpAny_pure (q true h1 L1 es1 (ep + 1) t2 sb ⟨⟨_, o1', ⟨o2.1, o2.2.1, o2.2.2⟩, rfl⟩, ent, T2, dif, key, led, by rw [len, m2]; omega, by rw [len]; exact few⟩ (fun z => absurd z hm) fun _ => pm)
    have ask : ∀ b : Bool, wpAny (model P w) A (do
          storeSet a (SetTable.insertAt es n (k.hash w, .ref x)) (if b = true then t1 else { t1 with plain := false })
          if !false && (if b = true then t1 else { t1 with plain := false } : SetTable).tooFull then setRelay a (SetTable.grown (es.size + 1))
          return true) Q E s := fun b => by
      cases b
      · exact rest { t1 with plain := false } ⟨p3.ris, p3.dm, p3.sz, p3.mok, p3.bd, p3.reach⟩ p4 p5 rfl
      · exact rest t1 p3 p4 p5 rfl
    by_cases hp : t1.plain = true
    · first
        | (refine wpAny_bind ?_; refine wp_if_pos hp ?_; exact by_v _ _ 8 hx.1 hx.2 _ _ _ fun b => ask b)
        | exact wp_if_pos hp (wpAny_bind (by_v _ _ 8 hx.1 hx.2 _ _ _ fun b => ask b))
    · first
        | (refine wpAny_bind ?_; refine wp_if_neg hp ?_; exact wpAny_pure (ask true))
        | exact wp_if_neg hp (wpAny_bind (wpAny_pure (ask true)))
        | exact wp_if_neg hp (ask true)
end
end SN
set_option Elab.async false
set_option linter.all false
set_option maxRecDepth 100000
/-! RdSd: set(xs) of a list or a tuple of nested tuples; sorted(set). -/
namespace SN
open PySem PySem.Spec PyProof.Rows L2
/-- what the first n items have brought -/
structure Got (xs : List Row) (n : Nat) (L : List Row) : Prop where
  old : ∀ r ∈ L, r ∈ xs.take n
  met : ∀ r ∈ xs.take n, r.2 ∈ L.map (·.2)
theorem Got.nil (xs : List Row) : Got xs 0 [] := ⟨fun r h => (by cases h), fun r h => (by simp at h)⟩
theorem Got.again {xs L : List Row} {n : Nat} {r : Row} (g : Got xs n L) (e : xs[n]? = some r) (m : r.2 ∈ L.map (·.2)) : Got xs (n + 1) L := by
  have t := take_next e
  refine ⟨fun u hu => by rw [t]; exact List.mem_append_left _ (g.old u hu), fun u hu => ?_⟩
  rw [t] at hu
  rcases List.mem_append.mp hu with z | z
  · exact g.met u z
  · rwa [List.mem_singleton.mp z]
theorem Got.new {xs L M : List Row} {n : Nat} {r : Row} (g : Got xs n L) (e : xs[n]? = some r) (p : M.Perm (r :: L)) : Got xs (n + 1) M := by
  have t := take_next e
  refine ⟨fun u hu => ?_, fun u hu => ?_⟩
  · rw [t]
    rcases List.mem_cons.mp (p.mem_iff.mp hu) with z | z
    · exact List.mem_append_right _ (List.mem_singleton.mpr z)
    · exact List.mem_append_left _ (g.old u z)
  · rw [(p.map (·.2)).mem_iff]
    rw [t] at hu
    rcases List.mem_append.mp hu with z | z
    · exact List.mem_cons_of_mem _ (g.met u z)
    · rw [List.mem_singleton.mp z]
      exact List.mem_cons_self
/-- distinct members of a list -/
theorem len_sub {α : Type} : ∀ (l D : List α), l.Nodup → (∀ x ∈ l, x ∈ D) → l.length ≤ D.length
  | [], _, _, _ => Nat.zero_le _
  | x :: l, D, n, h => by
    obtain ⟨n1, n2⟩ := List.nodup_cons.mp n
    obtain ⟨p, q, rfl⟩ := List.append_of_mem (h x List.mem_cons_self)
    have := len_sub l (p ++ q) n2 fun y hy => by
      have hne : y ≠ x := fun e => n1 (e ▸ hy)
      have := h y (List.mem_cons_of_mem _ hy)
      simpa [hne] using this
    simp only [List.length_append, List.length_cons] at this ⊢
    omega
/-- an empty set -/
def nu (w : World) : Obj := { cls := .type "set", dict := none, data := .set #[] 0 (.fresh 0 0 (!w.params.followText "set-order")) }
theorem is_nu {w : World} {h : Heap} {a : Addr} (e : h.get? a = some (nu w)) : Is w h a [] #[] 0 (.fresh 0 0 (!w.params.followText "set-order")) where
  obj := ⟨_, e, ⟨rfl, rfl, rfl⟩, rfl⟩
  ent := rfl
  tab := ⟨List.Pairwise.nil, rfl, rfl, .inl rfl, fun x h => (by cases h), fun i h j e => (by simp at e)⟩
  dif := List.nodup_nil
  key := fun r h => by cases h
  led := by
    show _ ∨ (!w.params.followText "set-order") = true
    cases w.params.followText "set-order"
    · exact .inr rfl
    · exact .inl rfl
  gap := by
    show 5 * 0 < 3 * 7
    decide
  few := by
    show 0 < 64
    decide
theorem Is.at {w : World} {h h' : Heap} {a : Addr} {L : List Row} {es : Array (Int × Value)} {ep : Nat} {t : SetTable} (R : Is w h a L es ep t) (e : ∀ o, h.get? a = some o → h'.get? a = some o) (k : ∀ r ∈ L, At h' r.2 r.1) : Is w h' a L es ep t := by
  obtain ⟨o, o1, o2⟩ := R.obj
  exact ⟨⟨o, e o o1, o2⟩, R.ent, R.tab, R.dif, k, R.led, R.gap, R.few⟩
section
variable {P : Program} {w : World} {A : Around} {E : Value → Shared → Prop} {s : Shared}
/-- the items, one by one -/
theorem pour {I : Addr} {fp wr : List Addr} {G : Array GenState → Array GenState → Prop} {n : Nat} {Pv : Nat → Value → Prop} {St : Nat → Shared → Prop} {R : Result → Shared → Prop}
    (W : WalksS P w A.in1 I fp wr G n Pv St) (a : Addr) (out : a ∉ fp) (xs : List Row) (D : List NestedKey) (dl : D.length < 64) (dm : ∀ r ∈ xs, r.2 ∈ D) (val : ∀ i v, Pv i v → ∃ r, xs[i]? = some r ∧ v = .ref r.1)
    (h0 : Heap) (key : ∀ r ∈ xs, At h0 r.2 r.1) (ea : h0.get? a = none) (ew : ∀ b ∈ wr, h0.get? b = none) (hu : A.in1.units + 8 < cLine) :
    ∀ (k i : Nat) (s : Shared), n - i = k → i ≤ n → St i s → (∀ b o, h0.get? b = some o → s.heap.get? b = some o) → (∃ L es ep t, Is w s.heap a L es ep t ∧ Got xs i L) →
      (∀ s' L es ep t, Moved (a :: wr) G s s' → Is w s'.heap a L es ep t → Got xs n L → (∀ b o, h0.get? b = some o → s'.heap.get? b = some o) → R (.ok (.ret .none)) s') →
      codeAny (model P w) A (.builtin "set.update.loop" ⟨[.ref a, .ref I], []⟩) R s := by
  have aw : a ∉ wr := fun z => out (W.sub _ z)
  have sub : ∀ b ∈ wr, b ∈ a :: wr := fun b => List.mem_cons_of_mem _
  have on : ∀ {s s' : Shared}, Moved wr G s s' → (∀ b o, h0.get? b = some o → s.heap.get? b = some o) → ∀ b o, h0.get? b = some o → s'.heap.get? b = some o := fun m k b o e =>
    m.heap b o (fun z => by rw [ew b z] at e; cases e) (k b o e)
  intro k
  induction k with
  | zero =>
    intro i s e1 e2 st kp ⟨L, es, ep, t, S, g⟩ fin
    obtain rfl : i = n := by omega
    refine codeAny_builtin F.entry_set_update_loop ?_
    rw [Around.under_plainId F.plain_set_update_loop _]
    show wpAny _ A.in1 (pyNext (.ref I) >>= _) _ _ s
    refine wpAny_bind (W.done s _ _ st fun s' m => wpAny_pure (fin s' L es ep t (m.mono sub) (S.at (fun o e => m.heap a o aw e) fun r hr => ?_) g (on m kp)))
    exact (key r (List.mem_of_mem_take (g.old r hr))).keep (on m kp)
  | succ k ih =>
    intro i s e1 e2 st kp ⟨L, es, ep, t, S, g⟩ fin
    have lt : i < n := by omega
    refine codeAny_builtin F.entry_set_update_loop ?_
    rw [Around.under_plainId F.plain_set_update_loop _]
    show wpAny _ A.in1 (pyNext (.ref I) >>= _) _ _ s
    refine wpAny_bind (W.item i s _ _ lt st fun v s' hv st' m => ?_)
    obtain ⟨r, hr, rfl⟩ := val i v hv
    have kp' := on m kp
    have old : ∀ u ∈ L, u ∈ xs := fun u hu => List.mem_of_mem_take (g.old u hu)
    have S' : Is w s'.heap a L es ep t := S.at (fun o e => m.heap a o aw e) fun u hu => (key u (old u hu)).keep kp'
    have rx : r ∈ xs := List.mem_of_getElem? hr
    have hx : At s'.heap r.2 r.1 := (key r rx).keep kp'
    show wpAny _ A.in1 (holding [Value.ref r.1] (setAdd a (.ref r.1)) >>= _) _ _ s'
    refine wpAny_bind (wpAny_holding ?_)
    unfold setAdd
    refine wpAny_holding (wpAny_bind ((nestedKind P w).pyHash (k := r.2) hu hx ?_))
    refine add (s := { s' with toks := s'.toks + r.2.draws }) S' hx hu (fun nm => ?_) fun b h' L' es' ep' t' sb S2 c1 c2 => ?_
    · have := len_sub (r.2 :: L.map (·.2)) D (List.nodup_cons.mpr ⟨nm, S.dif⟩) fun z hz => by
        rcases List.mem_cons.mp hz with e | hz
        · rw [e]; exact dm r rx
        · obtain ⟨u, u1, rfl⟩ := List.mem_map.mp hz
          exact dm u (old u u1)
      rw [List.length_cons, List.length_map] at this
      omega
    have g' : Got xs (i + 1) L' := by
      by_cases c : r.2 ∈ L.map (·.2)
      · rw [c1 c]
        exact g.again hr c
      · exact g.new hr (c2 c)
    have kp2 : ∀ b o, h0.get? b = some o → h'.get? b = some o := fun b o e => (sb.2 b fun z => by rw [z, ea] at e; cases e).trans (kp' b o e)
    refine wpAny_pure ⟨plainId_quiet F.plain_set_update_loop _, ih (i + 1) _ (by omega) lt (W.frame _ s' _ _ st' (Nat.le_add_right _ _) fun b hb o e => ?_) kp2 ⟨L', es', ep', t', S2, g'⟩ fun s'' L2 es2 ep2 t2 m2 S3 g3 k3 => ?_⟩
    · rw [sb.2 b fun z => out (by rw [← z]; exact hb)]
      exact e
    · refine fin s'' L2 es2 ep2 t2 (Moved.trans W.gtrans ((m.mono sub).then_heap (Nat.le_add_right _ _) fun b o hb e => ?_) m2) S3 g3 k3
      rw [sb.2 b fun z => hb (by rw [z]; exact List.mem_cons_self)]
      exact e

set_option maxRecDepth 100000 in
set_option maxHeartbeats 3200000 in
/-- set(xs) of a List: what the loop leaves -/
theorem set_list {l : Addr} {its : Array Value} (Z : Heap → Prop) {Q : Value → Shared → Prop} (calm : A.handled = none) (hl : s.heap.IsList l its)
    (loop : ∀ (A' : Around), A'.in1.units ≤ A.units + 7 → ∀ {I : Addr} {fp wr : List Addr} {G : Array GenState → Array GenState → Prop} {St : Nat → Shared → Prop} {R : Result → Shared → Prop}, WalksS P w A'.in1 I fp wr G its.size (fun i v => its[i]? = some v) St →
      s.heap.objs.size ∉ fp → (∀ b ∈ wr, s.heap.get? b = none) → ∀ s1 : Shared, St 0 s1 → (∀ b o, s.heap.get? b = some o → s1.heap.get? b = some o) → s1.heap.get? s.heap.objs.size = some (nu w) →
      (∀ s', Moved (s.heap.objs.size :: wr) G s1 s' → Z s'.heap → (∀ b o, s.heap.get? b = some o → s'.heap.get? b = some o) → R (.ok (.ret .none)) s') → codeAny (model P w) A' (.builtin "set.update.loop" ⟨[.ref s.heap.objs.size, .ref I], []⟩) R s1)
    (q : ∀ (h' : Heap) (tk : Nat), Z h' → (∀ b o, s.heap.get? b = some o → h'.get? b = some o) → Q (.ref s.heap.objs.size) { s with heap := h', toks := tk }) :
    wpAny (model P w) A (call (.type "set") [.ref l]) Q E s := by
  have f1 := F.called_set
  obtain ⟨c, tl, f2⟩ := f1.mro
  have f3 := f1.made
  have f4 := f1.sub
  refine wpAny_call (codeAny_of_tree (show wpAny _ _ (callAny (.type "set") _) _ _ _ from wpAny_pure ⟨Code.quiet_builtin _ (by decide +kernel), codeAny_builtin F.entry_type_call ?_⟩))
  rw [Around.under_plain (weight_type_call_type "set" [.ref l] []) rfl]
  have f5 := f1.notType
  have f6 := f1.canCreate
  have f7 := F.typeCall_set_1 (.ref l)
  repeat any_goals (first | assumption | wp_step)
  refine codeAny_mono (code_set_led1 (.ref l) (E := E) (Q₁ := fun v s1 => v = .ref s.heap.objs.size ∧ s1 = { s with heap := s.heap.push (nu w) }) ⟨rfl, rfl⟩) fun r s1 hr => ?_
  cases r with
  | error e => exact hr
  | ok fl =>
    cases fl with
    | ret v =>
      obtain ⟨rfl, rfl⟩ := hr
      have e1 : (s.heap.push (nu w)).get? s.heap.objs.size = some (nu w) := Heap.get?_push_size _ rfl
      have ty : Shared.TypeIs { s with heap := s.heap.push (nu w) } (.ref s.heap.objs.size) "set" := ⟨_, e1, rfl⟩
      have f8 := f1.init.lookup
      have f9 := f1.init.bind (.ref s.heap.objs.size)
      repeat any_goals (first | assumption | wp_step)
      refine codeAny_mono (codeAny_call_builtin (R := wants (fun r s2 => r = .none ∧ ∃ h' tk, s2 = { s with heap := h', toks := tk } ∧ Z h' ∧ ∀ b o, s.heap.get? b = some o → h'.get? b = some o) E)
        f1.init.plain F.entry_set_init (check_set_init_1 ty ?_)) fun r2 s2 hr2 => ?_
      · obtain ⟨⟨oc, od, ot, ox⟩, l1, l2, nl, l3⟩ := hl
        simp only at l2 l3
        subst l2
        subst l3
        have l4 : (s.heap.push (nu w)).get? l = some { cls := .type "list", dict := od, data := .seq its nl, slots := ox } := Heap.get?_push_of_some _ l1
        have n1 := F.sub_list_set
        have n2 := F.sub_list_frozenset
        have n3 : (Value.type "list" == Value.type "dict") = false := by decide
        have l5 : (s.heap.push (nu w)).IsList l its := ⟨_, l4, rfl, nl, rfl⟩
        unfold Builtin.«set.__init__» noKeywords Builtin.Frozenset.updateFrom
        generalize hPI : pyIter = PI
        wp_walk
        subst hPI
        refine wpAny_pyIter_list l5 (wpAny_bind (wpAny_runValue ?_))
        have lt : l < s.heap.objs.size := Heap.lt_size l1
        have z1 : (s.heap.push (nu w)).objs.size = s.heap.objs.size + 1 := Heap.size_push ..
        have none_of : ∀ b, s.heap.objs.size ≤ b → s.heap.get? b = none := fun b hb => by
          cases q : s.heap.get? b with
          | none => rfl
          | some o => exact absurd (Heap.lt_size q) (Nat.not_lt.mpr hb)
        have e2 : ((s.heap.push (nu w)).push { cls := .type "list_iterator", data := .fields #[.ref l, .int 0 0] }).get? s.heap.objs.size = some (nu w) := Heap.get?_push_of_some _ e1
        have ne : l ≠ (s.heap.push (nu w)).objs.size := by rw [z1]; exact Nat.ne_of_lt (Nat.lt_succ_of_lt lt)
        have fo : s.heap.objs.size ∉ [(s.heap.push (nu w)).objs.size, l] := by
          rw [z1]
          simp only [List.mem_cons, List.not_mem_nil, or_false, not_or]
          exact ⟨Nat.ne_of_lt (Nat.lt_succ_self _), Nat.ne_of_gt lt⟩
        have cm : A.in1.in1.in1.handled = none := by simp [calm]
        refine loop _ (by simp only [Around.in1_units]; omega) ((Walks.list cm _ l ne its).toS) fo (fun b hb => none_of b (by rw [List.mem_singleton.mp hb, z1]; exact Nat.le_succ _)) _
          ⟨⟨_, Heap.get?_push_size _ rfl, rfl, rfl⟩, l5.push _⟩ (fun b o e => Heap.get?_push_of_some _ (Heap.get?_push_of_some _ e)) e2 fun s' m z k => ?_
        obtain ⟨h', g2, d', tk', os'⟩ := s'
        obtain rfl : g2 = s.gens := m.gens
        obtain rfl : d' = s.drawn := m.drawn
        obtain rfl : os' = s.os := m.os
        exact wpAny_pure (wpAny_pure ⟨rfl, h', tk', rfl, z, k⟩)
      · cases r2 with
        | error e => exact hr2
        | ok f =>
          cases f with
          | ret r =>
            obtain ⟨rfl, h', tk, rfl, z, k⟩ := hr2
            repeat any_goals (first | assumption | wp_step)
            exact q _ _ z k
          | _ => exact hr2.elim
    | _ => exact hr.elim

set_option maxRecDepth 100000 in
set_option maxHeartbeats 3200000 in
/-- set(xs) of a Tuple: what the loop leaves -/
theorem set_tuple {l : Addr} {its : Array Value} (Z : Heap → Prop) {Q : Value → Shared → Prop} (calm : A.handled = none) (hl : s.heap.IsTuple l its)
    (loop : ∀ (A' : Around), A'.in1.units ≤ A.units + 7 → ∀ {I : Addr} {fp wr : List Addr} {G : Array GenState → Array GenState → Prop} {St : Nat → Shared → Prop} {R : Result → Shared → Prop}, WalksS P w A'.in1 I fp wr G its.size (fun i v => its[i]? = some v) St →
      s.heap.objs.size ∉ fp → (∀ b ∈ wr, s.heap.get? b = none) → ∀ s1 : Shared, St 0 s1 → (∀ b o, s.heap.get? b = some o → s1.heap.get? b = some o) → s1.heap.get? s.heap.objs.size = some (nu w) →
      (∀ s', Moved (s.heap.objs.size :: wr) G s1 s' → Z s'.heap → (∀ b o, s.heap.get? b = some o → s'.heap.get? b = some o) → R (.ok (.ret .none)) s') → codeAny (model P w) A' (.builtin "set.update.loop" ⟨[.ref s.heap.objs.size, .ref I], []⟩) R s1)
    (q : ∀ (h' : Heap) (tk : Nat), Z h' → (∀ b o, s.heap.get? b = some o → h'.get? b = some o) → Q (.ref s.heap.objs.size) { s with heap := h', toks := tk }) :
    wpAny (model P w) A (call (.type "set") [.ref l]) Q E s := by
  have f1 := F.called_set
  obtain ⟨c, tl, f2⟩ := f1.mro
  have f3 := f1.made
  have f4 := f1.sub
  refine wpAny_call (codeAny_of_tree (show wpAny _ _ (callAny (.type "set") _) _ _ _ from wpAny_pure ⟨Code.quiet_builtin _ (by decide +kernel), codeAny_builtin F.entry_type_call ?_⟩))
  rw [Around.under_plain (weight_type_call_type "set" [.ref l] []) rfl]
  have f5 := f1.notType
  have f6 := f1.canCreate
  have f7 := F.typeCall_set_1 (.ref l)
  repeat any_goals (first | assumption | wp_step)
  refine codeAny_mono (code_set_led1 (.ref l) (E := E) (Q₁ := fun v s1 => v = .ref s.heap.objs.size ∧ s1 = { s with heap := s.heap.push (nu w) }) ⟨rfl, rfl⟩) fun r s1 hr => ?_
  cases r with
  | error e => exact hr
  | ok fl =>
    cases fl with
    | ret v =>
      obtain ⟨rfl, rfl⟩ := hr
      have e1 : (s.heap.push (nu w)).get? s.heap.objs.size = some (nu w) := Heap.get?_push_size _ rfl
      have ty : Shared.TypeIs { s with heap := s.heap.push (nu w) } (.ref s.heap.objs.size) "set" := ⟨_, e1, rfl⟩
      have f8 := f1.init.lookup
      have f9 := f1.init.bind (.ref s.heap.objs.size)
      repeat any_goals (first | assumption | wp_step)
      refine codeAny_mono (codeAny_call_builtin (R := wants (fun r s2 => r = .none ∧ ∃ h' tk, s2 = { s with heap := h', toks := tk } ∧ Z h' ∧ ∀ b o, s.heap.get? b = some o → h'.get? b = some o) E)
        f1.init.plain F.entry_set_init (check_set_init_1 ty ?_)) fun r2 s2 hr2 => ?_
      · obtain ⟨⟨oc, od, ot, ox⟩, l1, l2, nl, l3⟩ := hl
        simp only at l2 l3
        subst l2
        subst l3
        have l4 : (s.heap.push (nu w)).get? l = some { cls := .type "tuple", dict := od, data := .seq its nl, slots := ox } := Heap.get?_push_of_some _ l1
        have n1 := F.sub_tuple_set
        have n2 := F.sub_tuple_frozenset
        have n3 : (Value.type "tuple" == Value.type "dict") = false := by decide
        have l5 : (s.heap.push (nu w)).IsTuple l its := ⟨_, l4, rfl, nl, rfl⟩
        unfold Builtin.«set.__init__» noKeywords Builtin.Frozenset.updateFrom
        generalize hPI : pyIter = PI
        wp_walk
        subst hPI
        refine wpAny_pyIter_tuple l5 (wpAny_bind (wpAny_runValue ?_))
        have lt : l < s.heap.objs.size := Heap.lt_size l1
        have z1 : (s.heap.push (nu w)).objs.size = s.heap.objs.size + 1 := Heap.size_push ..
        have none_of : ∀ b, s.heap.objs.size ≤ b → s.heap.get? b = none := fun b hb => by
          cases q : s.heap.get? b with
          | none => rfl
          | some o => exact absurd (Heap.lt_size q) (Nat.not_lt.mpr hb)
        have e2 : ((s.heap.push (nu w)).push { cls := .type "tuple_iterator", data := .fields #[.ref l, .int 0 0] }).get? s.heap.objs.size = some (nu w) := Heap.get?_push_of_some _ e1
        have ne : l ≠ (s.heap.push (nu w)).objs.size := by rw [z1]; exact Nat.ne_of_lt (Nat.lt_succ_of_lt lt)
        have fo : s.heap.objs.size ∉ [(s.heap.push (nu w)).objs.size, l] := by
          rw [z1]
          simp only [List.mem_cons, List.not_mem_nil, or_false, not_or]
          exact ⟨Nat.ne_of_lt (Nat.lt_succ_self _), Nat.ne_of_gt lt⟩
        have cm : A.in1.in1.in1.handled = none := by simp [calm]
        refine loop _ (by simp only [Around.in1_units]; omega) ((Walks.tuple cm _ l ne its).toS) fo (fun b hb => none_of b (by rw [List.mem_singleton.mp hb, z1]; exact Nat.le_succ _)) _
          ⟨⟨_, Heap.get?_push_size _ rfl, rfl, rfl⟩, l5.push _⟩ (fun b o e => Heap.get?_push_of_some _ (Heap.get?_push_of_some _ e)) e2 fun s' m z k => ?_
        obtain ⟨h', g2, d', tk', os'⟩ := s'
        obtain rfl : g2 = s.gens := m.gens
        obtain rfl : d' = s.drawn := m.drawn
        obtain rfl : os' = s.os := m.os
        exact wpAny_pure (wpAny_pure ⟨rfl, h', tk', rfl, z, k⟩)
      · cases r2 with
        | error e => exact hr2
        | ok f =>
          cases f with
          | ret r =>
            obtain ⟨rfl, h', tk, rfl, z, k⟩ := hr2
            repeat any_goals (first | assumption | wp_step)
            exact q _ _ z k
          | _ => exact hr2.elim
    | _ => exact hr.elim

/-- the loop over rows -/
theorem pour0 {its : Array Value} (xs : List Row) (D : List NestedKey) (dl : D.length < 64) (dm : ∀ r ∈ xs, r.2 ∈ D) (hi : its.toList = xs.map fun r => Value.ref r.1) (key : ∀ r ∈ xs, At s.heap r.2 r.1) (hu : A.units + 16 < cLine) (A' : Around) (hA : A'.in1.units ≤ A.units + 7)
    {I : Addr} {fp wr : List Addr} {G : Array GenState → Array GenState → Prop} {St : Nat → Shared → Prop} {R : Result → Shared → Prop} (W : WalksS P w A'.in1 I fp wr G its.size (fun i v => its[i]? = some v) St)
    (out : s.heap.objs.size ∉ fp) (ew : ∀ b ∈ wr, s.heap.get? b = none) (s1 : Shared) (st : St 0 s1) (kp : ∀ b o, s.heap.get? b = some o → s1.heap.get? b = some o) (e : s1.heap.get? s.heap.objs.size = some (nu w))
    (fin : ∀ s', Moved (s.heap.objs.size :: wr) G s1 s' → (∃ L es ep t, Is w s'.heap s.heap.objs.size L es ep t ∧ Got xs xs.length L) → (∀ b o, s.heap.get? b = some o → s'.heap.get? b = some o) → R (.ok (.ret .none)) s') :
    codeAny (model P w) A' (.builtin "set.update.loop" ⟨[.ref s.heap.objs.size, .ref I], []⟩) R s1 := by
  have sz : its.size = xs.length := by rw [← Array.length_toList, hi, List.length_map]
  have val : ∀ (i : Nat) (v : Value), its[i]? = some v → ∃ r, xs[i]? = some r ∧ v = .ref r.1 := fun i v hv => by
    rw [← Array.getElem?_toList, hi, List.getElem?_map] at hv
    cases hq : xs[i]? with
    | none => rw [hq] at hv; cases hv
    | some r =>
      rw [hq] at hv
      exact ⟨r, rfl, (Option.some.inj hv).symm⟩
  have na : s.heap.get? s.heap.objs.size = none := by
    cases q : s.heap.get? s.heap.objs.size with
    | none => rfl
    | some o => exact absurd (Heap.lt_size q) (Nat.lt_irrefl _)
  refine pour W s.heap.objs.size out xs D dl dm val s.heap key na ew (by omega) (its.size - 0) 0 s1 rfl (Nat.zero_le _) st kp ⟨[], #[], 0, _, is_nu e, Got.nil xs⟩ fun s' L es ep t m S g k => fin s' m ⟨L, es, ep, t, S, ?_⟩ k
  rw [← sz]
  exact g
/-- the loop over numbers -/
theorem pourI {its : Array Value} (ns : List Int) (hb : ns.length + 1 < scanBound) (hi : PyProof.Rows.IntsAre its.toList ns) (A' : Around) {I : Addr} {fp wr : List Addr} {G : Array GenState → Array GenState → Prop} {St : Nat → Shared → Prop} {R : Result → Shared → Prop}
    (W : WalksS P w A'.in1 I fp wr G its.size (fun i v => its[i]? = some v) St) (out : s.heap.objs.size ∉ fp) (ew : ∀ b ∈ wr, s.heap.get? b = none) (s1 : Shared) (st : St 0 s1) (kp : ∀ b o, s.heap.get? b = some o → s1.heap.get? b = some o)
    (e : s1.heap.get? s.heap.objs.size = some (nu w))
    (fin : ∀ s', Moved (s.heap.objs.size :: wr) G s1 s' → (∃ c, SetR w s'.heap s.heap.objs.size (fun j => decide (j ∈ ns)) c ∧ c ≤ ns.length) → (∀ b o, s.heap.get? b = some o → s'.heap.get? b = some o) → R (.ok (.ret .none)) s') :
    codeAny (model P w) A' (.builtin "set.update.loop" ⟨[.ref s.heap.objs.size, .ref I], []⟩) R s1 := by
  have sz : its.size = ns.length := by rw [← Array.length_toList, PyProof.Rows.IntsAre.length hi]
  have val : ∀ (i : Nat) (v : Value), its[i]? = some v → ∃ k t, ns[i]? = some k ∧ v = .int k t := fun i v hv => by
    have lt : i < ns.length := by rw [← sz]; exact (Array.getElem?_eq_some_iff.mp hv).1
    obtain ⟨t, e⟩ := PyProof.Rows.IntsAre.int_at hi i v (by rw [Array.getElem?_toList]; exact hv)
    refine ⟨ns[i], t, List.getElem?_eq_getElem lt, ?_⟩
    rw [e, List.getD_eq_getElem?_getD, List.getElem?_eq_getElem lt]
    rfl
  refine set_update_ints W s.heap.objs.size out ns sz hb val (its.size - 0) 0 s1 rfl (Nat.zero_le _) st ⟨0, Nat.le_refl 0, setR_new_at e⟩ fun s' c m hc S => fin s' m ⟨c, S, by rw [← sz]; exact hc⟩ fun b o eb => ?_
  refine m.heap b o (fun z => ?_) (kp b o eb)
  rcases List.mem_cons.mp z with z | z
  · rw [z] at eb
    exact absurd (Heap.lt_size eb) (Nat.lt_irrefl _)
  · rw [ew b z] at eb
    cases eb
end
end SN
set_option Elab.async false
set_option linter.all false
set_option maxRecDepth 100000
set_option maxHeartbeats 1000000
/-! RdSf: set(xs), sorted(set), len(set), sorted(list) over data, as rules by values. -/
namespace RD
open PySem L2
mutual
theorem key_data : ∀ d : PyData, plainK d = true → (keyK d).data = d
  | .none, _ => rfl
  | .int _, _ => rfl
  | .str _, _ => rfl
  | .tuple ds, h => by
    rw [keyK, NestedKey.data, keys_data ds (by simpa [plainK] using h)]
  | .bool _, h => by simp [plainK] at h
  | .list _, h => by simp [plainK] at h
  | .dict _, h => by simp [plainK] at h
theorem keys_data : ∀ ds : List PyData, plainKs ds = true → NestedKey.datas (keyKs ds) = ds
  | [], _ => rfl
  | d :: r, h => by
    rw [plainKs, Bool.and_eq_true] at h
    rw [keyKs, NestedKey.datas, key_data d h.1, keys_data r h.2]
end
theorem key_inj {d e : PyData} (hd : plainK d = true) (he : plainK e = true) (h : keyK d = keyK e) : d = e := by
  rw [← key_data d hd, h, key_data e he]
mutual
theorem key_is {h : Heap} : ∀ (d : PyData) (v : Value) (as : List Addr), plainK d = true → Reads h v d as → NestedIs h (keyK d) v
  | .none, _, _, _, r => by cases r; exact .none
  | .int i, _, _, _, r => by cases r; exact .int _ _
  | .str x, _, _, _, r => by cases r; exact .text _ _
  | .tuple ds, _, _, p, r => by
    cases r with
    | tuple h1 h2 h3 h4 => exact .tup h1 h2 h3 (keys_is ds _ _ (by simpa [plainK] using p) h4)
  | .bool _, _, _, p, _ => by simp [plainK] at p
  | .list _, _, _, p, _ => by simp [plainK] at p
  | .dict _, _, _, p, _ => by simp [plainK] at p
theorem keys_is {h : Heap} : ∀ (ds : List PyData) (vs : List Value) (as : List Addr), plainKs ds = true → ReadsAll h vs ds as → NestedAll h (keyKs ds) vs
  | [], _, _, _, r => by cases r; exact .nil
  | d :: ds, _, _, p, r => by
    rw [plainKs, Bool.and_eq_true] at p
    cases r with
    | cons h1 h2 => exact .cons (key_is d _ _ p.1 h1) (keys_is ds _ _ p.2 h2)
end
theorem alikeB_all {ds : List PyData} (h : alikeB ds = true) : PySem.W.AllAlike ds := fun x hx y hy => List.all_eq_true.mp (List.all_eq_true.mp h x hx) y hy
theorem ints_eq : ∀ {ds : List PyData}, ds.all isIntD = true → ∃ ns : List Int, ds = ns.map PyData.int
  | [], _ => ⟨[], rfl⟩
  | d :: ds, h => by
    rw [List.all_cons, Bool.and_eq_true] at h
    obtain ⟨ns, rfl⟩ := ints_eq h.2
    cases d with
    | int i => exact ⟨i :: ns, rfl⟩
    | _ => cases h.1
theorem ints_alike (ns : List Int) : PySem.W.AllAlike (ns.map PyData.int) := fun x hx y hy => by
  obtain ⟨i, _, rfl⟩ := List.mem_map.mp hx
  obtain ⟨j, _, rfl⟩ := List.mem_map.mp hy
  rfl
theorem int_lt (i j : Int) : PySem.W.dataLt (.int i) (.int j) = decide (i < j) := PySem.W.dataLt_int i j
theorem uniq_ints {ns ms : List Int} (u : ms.Pairwise (· < ·)) (m : ∀ k, k ∈ ms ↔ k ∈ ns) : uniqD (ns.map PyData.int) = ms.map PyData.int := by
  refine uniq_eq (ints_alike ns) ?_ fun z => ?_
  · refine List.pairwise_map.mpr (u.imp fun {a b} h => ?_)
    rw [int_lt]
    exact decide_eq_true h
  · constructor
    · intro h
      obtain ⟨k, hk, rfl⟩ := List.mem_map.mp h
      exact List.mem_map_of_mem ((m k).mp hk)
    · intro h
      obtain ⟨k, hk, rfl⟩ := List.mem_map.mp h
      exact List.mem_map_of_mem ((m k).mpr hk)
/-! ### the set's object -/
def SetU (w : World) (a : Addr) (L : List SN.Row) : HO := .ext fun h => ∃ es ep t, (∃ o, h.get? a = some o ∧ o.ExactSet ∧ o.data = .set es ep t) ∧ es.toList = SN.rows w L ∧ TabOk t (L.map fun r => r.2.hash w) ∧ (L.map (·.2)).Nodup ∧
  (w.params.followText "set-order" = true ∨ t.led = true) ∧ 5 * L.length < 3 * t.mask ∧ L.length < 64
theorem setU_new {P : Program} {w : World} {H : Hp} {h : Heap} {a : Addr} {L : List SN.Row} {es : Array (Int × Value)} {ep : Nat} {t : SetTable} (R : SN.Is w h a L es ep t) : ObjOk P w H h a (SetU w a L) := by
  obtain ⟨o, o1, o2⟩ := R.obj
  refine ⟨⟨es, ep, t, ⟨o, o1, o2⟩, R.ent, R.tab, R.dif, R.led, R.gap, R.few⟩, ⟨o, o1⟩, fun h1 h2 p k => ?_⟩
  obtain ⟨es', ep', t', ⟨o', q1, q2⟩, q⟩ := p
  exact ⟨es', ep', t', ⟨o', k o' q1, q2⟩, q⟩
/-- how a set of data stands: D tells how the items stand -/
def SetIs (w : World) (D : V → PyData → Prop) (ds : List PyData) (p : Addr) (o : HO) : Prop :=
  (∃ (ns : List Int) (c : Nat), ds = ns.map PyData.int ∧ ns.length < 64 ∧ o = SetO w p (fun j => decide (j ∈ ns)) c ∧ c ≤ ns.length) ∨
  ∃ L, o = SetU w p L ∧ ds.all isTupD = true ∧ ds.all nestB = true ∧ alikeB ds = true ∧ (∀ r ∈ L, ∃ d ∈ ds, r.2 = keyK d ∧ D (.ref r.1) d) ∧ ∀ d ∈ ds, keyK d ∈ L.map (·.2)
section
variable {X : Cx} {pins : List (Addr × Obj)} {σ : L2.St} {H : Hp} {s : Shared}
theorem dp_at (I : Inv X pins σ H s) {a : Addr} {d : PyData} (dp : Dp X.K H (.ref a) d) (n : nestB d = true) : SN.At s.heap (keyK d) a := by
  unfold nestB at n
  rw [Bool.and_eq_true, Bool.and_eq_true] at n
  obtain ⟨as, r⟩ := Dp.reads I d _ (.ref a) dp rfl
  exact ⟨key_is d _ as n.1.1 r, of_decide_eq_true n.2⟩
/-- set(xs) -/
def rSetA (K : PySem.W.Frag) (w : World) : List V → Hp → VK → Prop := fun vs H Q => ∃ (a : Addr) (ys : List V) (ds : List PyData) (D : V → PyData → Prop), vs = [.ref a] ∧ (SqL K H a ys ∨ SqT K H a ys) ∧ (∀ v d, D v d → Dp K H v d) ∧ Paired D ys ds ∧ setOk ds = true ∧
  ∀ p o, H p = none → SetIs w D ds p o → Q (.ref p) (upd H p o)
theorem refs_rows {H : Hp} {K : PySem.W.Frag} {D : V → PyData → Prop} (hD : ∀ v d, D v d → Dp K H v d) : ∀ {ys : List V} {ds : List PyData}, Paired D ys ds → ds.all isTupD = true → ∃ L : List SN.Row, ys = L.map (fun r => V.ref r.1) ∧ (∀ r ∈ L, ∃ d ∈ ds, r.2 = keyK d ∧ D (.ref r.1) d) ∧ ∀ d ∈ ds, ∃ r ∈ L, r.2 = keyK d
  | _, _, .nil, _ => ⟨[], rfl, fun r h => (by cases h), fun d h => (by cases h)⟩
  | _, _, .cons (a := y) (b := d) h t, e => by
    rw [List.all_cons, Bool.and_eq_true] at e
    obtain ⟨L, e1, e2, e3⟩ := refs_rows hD t e.2
    have dp := hD _ _ h
    cases d with
    | tuple xs =>
      cases dp with
      | @tup a _ _ q1 q2 =>
        refine ⟨(a, keyK (.tuple xs)) :: L, by rw [e1]; rfl, fun r hr => ?_, fun d hd => ?_⟩
        · rcases List.mem_cons.mp hr with rfl | hr
          · exact ⟨_, List.mem_cons_self, rfl, h⟩
          · obtain ⟨d, d1, d2⟩ := e2 r hr
            exact ⟨d, List.mem_cons_of_mem _ d1, d2⟩
        · rcases List.mem_cons.mp hd with rfl | hd
          · exact ⟨_, List.mem_cons_self, rfl⟩
          · obtain ⟨r, r1, r2⟩ := e3 d hd
            exact ⟨r, List.mem_cons_of_mem _ r1, r2⟩
    | _ => exact absurd e.1 (by simp [isTupD])
theorem ints_vals {H : Hp} {K : PySem.W.Frag} {D : V → PyData → Prop} (hD : ∀ v d, D v d → Dp K H v d) : ∀ {ys : List V} (ns : List Int), Paired D ys (ns.map PyData.int) → ys = ns.map V.int
  | _, [], .nil => rfl
  | _, n :: ns, .cons h t => by
    have dp := hD _ _ h
    cases dp
    rw [ints_vals hD ns t]
    rfl
theorem cr_setA (hc : X.calm = true) (hu : X.A.units + 64 < cLine) : CallR X (.type "set") (rSetA X.K X.w) := by
  intro pins s σ H vs us Q I r h
  obtain ⟨a, ys, ds, D, rfl, hq, hD, hp, ok, q⟩ := h
  rw [Vals.ref1 r]
  have hn : H s.heap.objs.size = none := I.hok.fresh (Nat.le_refl _)
  have cm := I.ok.hd hc
  have list_or : ∃ its : List Value, Vals ys its ∧ (s.heap.IsList a its.toArray ∨ s.heap.IsTuple a its.toArray) := by
    rcases hq with hq | hq
    · obtain ⟨its, rv, pl, _⟩ := I.list hq
      exact ⟨its, rv, .inl pl.isList⟩
    · obtain ⟨its, rv, pl, _⟩ := I.tuple hq
      exact ⟨its, rv, .inr pl⟩
  obtain ⟨its, rv, hl⟩ := list_or
  unfold setOk at ok
  rw [Bool.or_eq_true] at ok
  rcases ok with ok | ok
  · rw [Bool.and_eq_true] at ok
    obtain ⟨ns, rfl⟩ := ints_eq ok.1
    have few : ns.length < 64 := by
      have := of_decide_eq_true ok.2
      rwa [List.length_map] at this
    have ey := ints_vals hD ns hp
    subst ey
    have fin : ∀ (h' : Heap) (tk : Nat), (∃ c, SetR X.w h' s.heap.objs.size (fun j => decide (j ∈ ns)) c ∧ c ≤ ns.length) → (∀ b o, s.heap.get? b = some o → h'.get? b = some o) →
        EP X pins σ Q (.ref s.heap.objs.size) { s with heap := h', toks := tk } := fun h' tk ⟨c, R, le⟩ k =>
      ⟨.ref s.heap.objs.size, upd H s.heap.objs.size (SetO X.w s.heap.objs.size (fun j => decide (j ∈ ns)) c), I.laid (t' := tk) k (Nat.le_refl _) (setO_new R), rfl, q _ _ hn (.inl ⟨ns, c, rfl, few, rfl, le⟩)⟩
    have hi : PyProof.Rows.IntsAre its.toArray.toList ns := by simpa using rv.ints
    rcases hl with hl | hl
    · exact SN.set_list (P := X.prog) (w := X.w) (fun h' => ∃ c, SetR X.w h' s.heap.objs.size (fun j => decide (j ∈ ns)) c ∧ c ≤ ns.length) cm hl (fun A' _ I fp wr G St R W o1 o2 s1 st kp e f => SN.pourI ns (by unfold scanBound; omega) hi A' W o1 o2 s1 st kp e f) fin
    · exact SN.set_tuple (P := X.prog) (w := X.w) (fun h' => ∃ c, SetR X.w h' s.heap.objs.size (fun j => decide (j ∈ ns)) c ∧ c ≤ ns.length) cm hl (fun A' _ I fp wr G St R W o1 o2 s1 st kp e f => SN.pourI ns (by unfold scanBound; omega) hi A' W o1 o2 s1 st kp e f) fin
  · rw [Bool.and_eq_true, Bool.and_eq_true, Bool.and_eq_true] at ok
    obtain ⟨⟨⟨k1, k2⟩, k3⟩, k4⟩ := ok
    have nest := List.all_eq_true.mp k2
    have pl : ∀ d ∈ ds, plainK d = true := fun d hd => by
      have := nest d hd
      unfold nestB at this
      rw [Bool.and_eq_true, Bool.and_eq_true] at this
      exact this.1.1
    obtain ⟨L0, ey, b1, b2⟩ := refs_rows hD hp k1
    subst ey
    have hi : its.toArray.toList = L0.map fun r => Value.ref r.1 := by
      have : ∀ {L : List SN.Row} {us : List Value}, Vals (L.map fun r => V.ref r.1) us → us = L.map fun r => Value.ref r.1 := by
        intro L
        induction L with
        | nil => intro us h; cases h; rfl
        | cons r L ih => intro us h; cases h with | cons h t => rw [ih t]; cases h; rfl
      simpa using this rv
    have key : ∀ r ∈ L0, SN.At s.heap r.2 r.1 := fun r hr => by
      obtain ⟨d, d1, d2, d3⟩ := b1 r hr
      rw [d2]
      exact dp_at I (hD _ _ d3) (nest d d1)
    have dm : ∀ r ∈ L0, r.2 ∈ (uniqD ds).map keyK := fun r hr => by
      obtain ⟨d, d1, d2, _⟩ := b1 r hr
      rw [d2]
      exact List.mem_map_of_mem ((uniq_mem (alikeB_all k3) d).mpr d1)
    have dl : ((uniqD ds).map keyK).length < 64 := by rw [List.length_map]; exact of_decide_eq_true k4
    have fin : ∀ (h' : Heap) (tk : Nat), (∃ L es ep t, SN.Is X.w h' s.heap.objs.size L es ep t ∧ SN.Got L0 L0.length L) → (∀ b o, s.heap.get? b = some o → h'.get? b = some o) →
        EP X pins σ Q (.ref s.heap.objs.size) { s with heap := h', toks := tk } := fun h' tk ⟨L, es, ep, t, R, g⟩ k => by
      have gt : ∀ r, r ∈ L0.take L0.length ↔ r ∈ L0 := fun r => by rw [List.take_length]
      refine ⟨.ref s.heap.objs.size, upd H s.heap.objs.size (SetU X.w s.heap.objs.size L), I.laid (t' := tk) k (Nat.le_refl _) (setU_new R), rfl, q _ _ hn (.inr ⟨L, rfl, k1, k2, k3, fun r hr => b1 r ((gt r).mp (g.old r hr)), fun d hd => ?_⟩)⟩
      obtain ⟨r, r1, r2⟩ := b2 d hd
      rw [← r2]
      exact g.met r ((gt r).mpr r1)
    have room : X.A.units + 16 < cLine := by omega
    rcases hl with hl | hl
    · exact SN.set_list (P := X.prog) (w := X.w) (fun h' => ∃ L es ep t, SN.Is X.w h' s.heap.objs.size L es ep t ∧ SN.Got L0 L0.length L) cm hl (fun A' hA I fp wr G St R W o1 o2 s1 st kp e f => SN.pour0 L0 _ dl dm hi key room A' hA W o1 o2 s1 st kp e f) fin
    · exact SN.set_tuple (P := X.prog) (w := X.w) (fun h' => ∃ L es ep t, SN.Is X.w h' s.heap.objs.size L es ep t ∧ SN.Got L0 L0.length L) cm hl (fun A' hA I fp wr G St R W o1 o2 s1 st kp e f => SN.pour0 L0 _ dl dm hi key room A' hA W o1 o2 s1 st kp e f) fin

/-! ### sorted -/
end
mutual
theorem plain_data : ∀ k : NestedKey, plainK k.data = true
  | .none => rfl
  | .num _ => rfl
  | .text _ => rfl
  | .tup ks => by rw [NestedKey.data, plainK]; exact plain_datas ks
theorem plain_datas : ∀ ks : List NestedKey, plainKs (NestedKey.datas ks) = true
  | [] => rfl
  | k :: ks => by rw [NestedKey.datas, plainKs, plain_data k, plain_datas ks]; rfl
end
mutual
theorem no_adrs {h : Heap} : ∀ (d : PyData) (v : Value) (as : List Addr), plainK d = true → Reads h v d as → as = []
  | .none, _, _, _, r => by cases r; rfl
  | .int _, _, _, _, r => by cases r; rfl
  | .str _, _, _, _, r => by cases r; rfl
  | .tuple ds, _, _, p, r => by
    cases r with
    | tuple _ _ _ h4 => exact no_adrs_all ds _ _ (by simpa [plainK] using p) h4
  | .bool _, _, _, p, _ => by simp [plainK] at p
  | .list _, _, _, p, _ => by simp [plainK] at p
  | .dict _, _, _, p, _ => by simp [plainK] at p
theorem no_adrs_all {h : Heap} : ∀ (ds : List PyData) (vs : List Value) (as : List Addr), plainKs ds = true → ReadsAll h vs ds as → as = []
  | [], _, _, _, r => by cases r; rfl
  | d :: ds, _, _, p, r => by
    rw [plainKs, Bool.and_eq_true] at p
    cases r with
    | cons h1 h2 => rw [no_adrs d _ _ p.1 h1, no_adrs_all ds _ _ p.2 h2]; rfl
end
section
open PySem.Spec PyProof.Rows
variable {X : Cx} {pins : List (Addr × Obj)} {σ : L2.St} {H : Hp} {s : Shared}
theorem setU_full (I : Inv X pins σ H s) {D : V → PyData → Prop} (hD : ∀ v d, D v d → Dp X.K H v d) {a : Addr} {L : List SN.Row} {ds : List PyData} (ha : H a = some (SetU X.w a L)) (n : ds.all nestB = true) (b : ∀ r ∈ L, ∃ d ∈ ds, r.2 = keyK d ∧ D (.ref r.1) d) :
    ∃ es ep t, SN.Is X.w s.heap a L es ep t := by
  obtain ⟨es, ep, t, h1, h2, h3, h4, h5, h6, h7⟩ := (I.hok a _ ha).1
  refine ⟨es, ep, t, h1, h2, h3, h4, fun r hr => ?_, h5, h6, h7⟩
  obtain ⟨d, d1, d2, d3⟩ := b r hr
  rw [d2]
  exact dp_at I (hD _ _ d3) (List.all_eq_true.mp n d d1)
/-- a list of rows put in order by their data -/
theorem sort_rows {prog : Program} {w : World} {A : Around} {E : Value → Shared → Prop} {s : Shared} {a : Addr} {L : List SN.Row} {es : Array (Int × Value)} {ep : Nat} {t : SetTable} {Q : Value → Shared → Prop} (R : SN.Is w s.heap a L es ep t) (calm : A.handled = none)
    (rd : ∀ r ∈ L, ∃ as, Reads s.heap (.ref r.1) r.2.data as) (hal : PySem.W.AllAlike (L.map fun r => r.2.data)) (hk : PySem.W.Sortable (L.map fun r => r.2.data)) (hu : ∀ r ∈ L, A.units + 4 + r.2.data.depth < cLine)
    (q : ∀ s' p (out : Array Value) (c : Nat) (M : List SN.Row), (∀ b o, s.heap.get? b = some o → s'.heap.get? b = some o) → s'.gens = s.gens → s'.os = s.os → s.heap.objs.size ≤ p → s'.heap.get? p = some (seqObj "list" out c) → out.toList = M.map (fun r => Value.ref r.1) → M.Perm L →
      M.Pairwise (fun r u => PySem.W.dataLt u.2.data r.2.data = false) → Q (.ref p) s') : wpAny (model prog w) A (call (.builtin "sorted") [.ref a]) Q E s := by
  obtain ⟨o, o1, o2, o3⟩ := R.obj
  have sz := SN.size_of R.ent
  have few := R.few
  refine Calls.call_function_entry kind_sorted plain_sorted entry_sorted (args_sorted1 _) ?_
  unfold Builtin.«sorted»
  refine wpAny_bind (m := checkCount "sorted" 1 1 _) (wpAny_pure (wpAny_bind (collect_set (A := A.in1) calm ⟨o, o1, o2.1, o3⟩ R.fits (by unfold scanBound; omega) R.tab.ris R.led fun s1 vs k1 z1 g1 w1 pm => ?_)))
  have ev : es.toList.map (·.2) = L.map fun r => Value.ref r.1 := by
    rw [R.ent, SN.rows, List.map_map]
    rfl
  rw [ev] at pm
  obtain ⟨M, rfl, pL⟩ : ∃ M : List SN.Row, vs = M.map (fun r => Value.ref r.1) ∧ M.Perm L := by
    have back : ∀ vs : List Value, (∀ v ∈ vs, ∃ r ∈ L, v = Value.ref r.1) → ∃ M : List SN.Row, vs = M.map (fun r => Value.ref r.1) ∧ ∀ r ∈ M, r ∈ L := by
      intro vs
      induction vs with
      | nil => exact fun _ => ⟨[], rfl, fun r h => (by cases h)⟩
      | cons v vs ih =>
        intro h
        obtain ⟨r, r1, r2⟩ := h v List.mem_cons_self
        obtain ⟨M, m1, m2⟩ := ih fun u hu => h u (List.mem_cons_of_mem _ hu)
        refine ⟨r :: M, by rw [m1, r2]; rfl, fun u hu => ?_⟩
        rcases List.mem_cons.mp hu with rfl | hu
        · exact r1
        · exact m2 u hu
    obtain ⟨M, m1, m2⟩ := back vs fun v hv => by
      obtain ⟨r, r1, r2⟩ := List.mem_map.mp (pm.mem_iff.mp hv)
      exact ⟨r, r1, r2.symm⟩
    refine ⟨M, m1, ?_⟩
    rw [m1] at pm
    have dL : (L.map fun r => Value.ref r.1).Nodup := by
      have n2 : L.Nodup := nodup_of_map R.dif
      refine List.pairwise_map.mpr (List.Pairwise.imp_of_mem (fun {r u} hr hu2 ne e => ne ?_) n2)
      injection e with e
      have k1 := R.key r hr
      rw [e] at k1
      exact Prod.ext e (k1.one (R.key u hu2))
    have dM : (M.map fun r => Value.ref r.1).Nodup := pm.nodup_iff.mpr dL
    refine (List.perm_ext_iff_of_nodup (nodup_of_map dM) (nodup_of_map R.dif)).mpr fun r => ⟨m2 r, fun hr => ?_⟩
    obtain ⟨u, u1, u2⟩ := List.mem_map.mp (pm.mem_iff.mpr (List.mem_map_of_mem (f := fun r : SN.Row => Value.ref r.1) hr))
    injection u2 with u2
    have k1 := R.key u (m2 u u1)
    rw [u2] at k1
    have e2 : u = r := Prod.ext u2 (k1.one (R.key r hr))
    rw [← e2]
    exact u1
  have few2 : M.length < 64 := by rw [pL.length_eq]; exact few
  refine wpAny_bind (wpAny_newList ?_ (by rw [List.length_map, sizeLine_eq]; omega))
  have ho : (s1.heap.push (seqObj "list" (M.map fun r => Value.ref r.1).toArray 0)).get? s1.heap.objs.size = some (seqObj "list" (M.map fun r => Value.ref r.1).toArray 0) := Heap.get?_push_size _ rfl
  have nL : ∀ b o, s.heap.get? b = some o → b ≠ s1.heap.objs.size := fun b o e => Nat.ne_of_lt (Heap.lt_size (k1 b o e))
  have rdM : PySem.W.EachIs (fun v (r : SN.Row) => v = Value.ref r.1) (M.map fun r => Value.ref r.1) M := by
    have : ∀ M : List SN.Row, PySem.W.EachIs (fun v (r : SN.Row) => v = Value.ref r.1) (M.map fun r => Value.ref r.1) M := by
      intro M
      induction M with
      | nil => exact .nil
      | cons r M ih => exact .cons rfl ih
    exact this M
  have rds : PySem.W.EachIs (fun v (r : SN.Row) => ∃ as, Reads (s1.heap.push (seqObj "list" (M.map fun r => Value.ref r.1).toArray 0)) v r.2.data as ∧ s1.heap.objs.size ∉ as) (M.map fun r => Value.ref r.1) M := by
    have : ∀ N : List SN.Row, (∀ r ∈ N, r ∈ L) → PySem.W.EachIs (fun v (r : SN.Row) => ∃ as, Reads (s1.heap.push (seqObj "list" (M.map fun r => Value.ref r.1).toArray 0)) v r.2.data as ∧ s1.heap.objs.size ∉ as) (N.map fun r => Value.ref r.1) N := by
      intro N
      induction N with
      | nil => exact fun _ => .nil
      | cons r N ih =>
        intro hN
        obtain ⟨as, ra⟩ := rd r (hN r List.mem_cons_self)
        refine .cons ⟨as, PyProof.Rows.Reads.keeps (fun b o e => Heap.get?_push_of_some _ (k1 b o e)) ra, fun z => ?_⟩ (ih fun u hu => hN u (List.mem_cons_of_mem _ hu))
        rw [no_adrs _ _ _ (plain_data _) ra] at z
        cases z
    exact this M fun r hr => pL.mem_iff.mp hr
  refine wpAny_bind (wpAny_holding (PySem.W.list_sort_data (enc := fun r : SN.Row => r.2.data) (R := fun v (r : SN.Row) => v = Value.ref r.1) ho rdM rds (fun d hd e he => ?_) ?_ (by rw [sizeLine_eq]; omega) (fun r hr => ?_) fun out l1 l2 => ?_))
  · obtain ⟨r, r1, rfl⟩ := List.mem_map.mp hd
    obtain ⟨u, u1, rfl⟩ := List.mem_map.mp he
    exact hal _ (List.mem_map_of_mem (pL.mem_iff.mp r1)) _ (List.mem_map_of_mem (pL.mem_iff.mp u1))
  · rcases hk with hk | hk
    · exact .inl fun d hd => hk d ((pL.map _).mem_iff.mp hd)
    · exact .inr fun d hd => hk d ((pL.map _).mem_iff.mp hd)
  · have := hu r (pL.mem_iff.mp hr)
    simp only [Around.in1_units]
    omega
  · obtain ⟨c, hc⟩ := sortedHeap_at (vs := M.map fun r => Value.ref r.1) (out := out.toArray) ho
    have eo : out = (M.mergeSort (PySem.W.dataLe false fun r : SN.Row => r.2.data)).map fun r => Value.ref r.1 := by
      have : ∀ {us : List Value} {N : List SN.Row}, PySem.W.EachIs (fun v (r : SN.Row) => v = Value.ref r.1) us N → us = N.map fun r => Value.ref r.1 := by
        intro us N h
        induction h with
        | nil => rfl
        | cons e _ ih => rw [e, ih]; rfl
      exact this l2
    refine wpAny_pure ⟨_, rfl, q _ s1.heap.objs.size out.toArray c (M.mergeSort (PySem.W.dataLe false fun r : SN.Row => r.2.data)) (fun b u e => ?_) g1 w1 z1 hc (by simpa using eo) ((List.mergeSort_perm _ _).trans pL) ?_⟩
    · have e1 := k1 b u e
      have lt := Heap.lt_size e1
      show (sortedHeap _ _ _ _).get? b = some u
      rw [sortedHeap_old (Nat.ne_of_lt lt) (by rw [size_push']; exact Nat.lt_succ_of_lt lt)]
      exact Heap.get?_push_of_some _ e1
    · have pw : (M.mergeSort (PySem.W.dataLe false fun r : SN.Row => r.2.data)).Pairwise (fun a b => PySem.W.dataLe false (fun r : SN.Row => r.2.data) a b = true) := PySem.W.sort_pairwise (PySem.W.sortLe_total _ false _) M
      refine pw.imp fun {r u} h => ?_
      rw [PySem.W.dataLe_eq] at h
      simp only [cond_false] at h
      simpa using h
end
end RD
set_option Elab.async false
set_option linter.all false
set_option maxRecDepth 100000
set_option maxHeartbeats 1000000
/-! RdSg: sorted(set(xs)), len(set(xs)), sorted(xs) by values. -/
namespace RD
open PySem L2 PySem.Spec PyProof.Rows
theorem le_of (x y : PyData) : PySem.W.dataLe false (fun d : PyData => d) x y = !PySem.W.dataLt y x := by rw [PySem.W.dataLe_eq]; rfl
theorem neg_tr {x y z : PyData} (h : PySem.W.dataLt x z = true) : PySem.W.dataLt x y = true ∨ PySem.W.dataLt y z = true := lex_negTrans _ _ _ h
theorem mem_insS {x z : PyData} : ∀ {l : List PyData}, z ∈ insS x l ↔ z = x ∨ z ∈ l
  | [] => by simp [insS]
  | y :: r => by
    unfold insS
    split
    · rw [List.mem_cons, mem_insS, List.mem_cons]
      constructor
      · rintro (e | e | e)
        · exact .inr (.inl e)
        · exact .inl e
        · exact .inr (.inr e)
      · rintro (e | e | e)
        · exact .inr (.inl e)
        · exact .inl e
        · exact .inr (.inr e)
    · simp
theorem insS_pw {x : PyData} : ∀ {l : List PyData}, l.Pairwise (fun a b => PySem.W.dataLe false (fun d : PyData => d) a b = true) → (insS x l).Pairwise (fun a b => PySem.W.dataLe false (fun d : PyData => d) a b = true)
  | [], _ => by simp [insS]
  | y :: r, h => by
    obtain ⟨h1, h2⟩ := List.pairwise_cons.mp h
    unfold insS
    split
    · rename_i c
      refine List.pairwise_cons.mpr ⟨fun z hz => ?_, insS_pw h2⟩
      rcases mem_insS.mp hz with rfl | hz
      · rw [le_of]
        cases q : PySem.W.dataLt z y with
        | false => rfl
        | true =>
          have := lt_tr c q
          rw [lt_irr] at this
          cases this
      · exact h1 z hz
    · rename_i c
      have c' : PySem.W.dataLt y x = false := by simpa using c
      refine List.pairwise_cons.mpr ⟨fun z hz => ?_, h⟩
      rw [le_of]
      rcases List.mem_cons.mp hz with rfl | hz
      · rw [c']; rfl
      · have q1 := h1 z hz
        rw [le_of] at q1
        cases q : PySem.W.dataLt z x with
        | false => rfl
        | true =>
          rcases neg_tr (y := y) q with k | k
          · rw [k] at q1; cases q1
          · rw [c'] at k; cases k
theorem insS_filter {x c : PyData} : ∀ {l : List PyData}, (insS x l).filter (PySem.W.sameRank (PySem.W.dataLe false (fun d : PyData => d)) c) = (x :: l).filter (PySem.W.sameRank (PySem.W.dataLe false (fun d : PyData => d)) c)
  | [] => rfl
  | y :: r => by
    unfold insS
    split
    · rename_i k
      rw [List.filter_cons, insS_filter, List.filter_cons, List.filter_cons, List.filter_cons]
      cases hx : PySem.W.sameRank (PySem.W.dataLe false (fun d : PyData => d)) c x <;> cases hy : PySem.W.sameRank (PySem.W.dataLe false (fun d : PyData => d)) c y <;> simp
      unfold PySem.W.sameRank at hx hy
      rw [le_of, le_of, Bool.and_eq_true] at hx hy
      rcases neg_tr (y := c) k with q | q
      · rw [q] at hy; cases hy.1
      · rw [q] at hx; cases hx.2
    · rfl
theorem sortD_pw : ∀ ds : List PyData, (sortD ds).Pairwise (fun a b => PySem.W.dataLe false (fun d : PyData => d) a b = true)
  | [] => .nil
  | x :: r => insS_pw (sortD_pw r)
theorem sortD_filter (c : PyData) : ∀ ds : List PyData, (sortD ds).filter (PySem.W.sameRank (PySem.W.dataLe false (fun d : PyData => d)) c) = ds.filter (PySem.W.sameRank (PySem.W.dataLe false (fun d : PyData => d)) c)
  | [] => rfl
  | x :: r => by
    show (insS x (sortD r)).filter _ = _
    rw [insS_filter, List.filter_cons, List.filter_cons, sortD_filter c r]
theorem sortD_eq (ds : List PyData) : sortD ds = ds.mergeSort (PySem.W.dataLe false (fun d : PyData => d)) := PySem.W.sort_unique (PySem.W.sortLe_total _ false _) (sortD_pw ds) (fun c => sortD_filter c ds)
theorem nest_of {ds : List PyData} (h : ds.all nestB = true) {d : PyData} (hd : d ∈ ds) : plainK d = true ∧ d.depth ≤ 8 := by
  have := List.all_eq_true.mp h d hd
  unfold nestB at this
  rw [Bool.and_eq_true, Bool.and_eq_true] at this
  exact ⟨this.1.1, of_decide_eq_true this.1.2⟩
theorem pair_map {α : Type} {D : V → PyData → Prop} {f : α → V} {g : α → PyData} : ∀ {l : List α}, (∀ x ∈ l, D (f x) (g x)) → Paired D (l.map f) (l.map g)
  | [], _ => .nil
  | x :: l, h => .cons (h x List.mem_cons_self) (pair_map fun y hy => h y (List.mem_cons_of_mem _ hy))
section
variable {X : Cx}
/-- sorted(set) -/
def rSortA (K : PySem.W.Frag) (w : World) : List V → Hp → VK → Prop := fun vs H Q => ∃ (p : Addr) (o : HO) (ds : List PyData) (D : V → PyData → Prop), vs = [.ref p] ∧ H p = some o ∧ SetIs w D ds p o ∧ (∀ v d, D v d → Dp K H v d) ∧ (∀ i, D (.int i) (.int i)) ∧ uniqOk ds = true ∧
  ∀ q ys, H q = none → Paired D ys (uniqD ds) → Q (.ref q) (upd H q (.lst ys))
theorem cr_sortA (hc : X.calm = true) (hu : X.A.units + 65 < cLine) : CallR X (.builtin "sorted") (rSortA X.K X.w) := by
  intro pins s σ H vs us Q I r h
  obtain ⟨p, o, ds, D, rfl, hp, hs, hD, hI, ok, q⟩ := h
  rcases hs with ⟨ns, c, rfl, few, rfl, hcl⟩ | ⟨L, rfl, k1, k2, k3, b1, b2⟩
  · refine cr_sortedSet hc pins s σ H _ us Q I r ⟨p, _, c, rfl, hp, by omega, fun ms a up mem _ ha => q a _ ha ?_⟩
    rw [uniq_ints up fun k => by rw [mem]; simp]
    exact pair_map fun i _ => hI i
  · obtain ⟨es, ep, t, R⟩ := setU_full I hD hp k2 b1
    have cm := I.ok.hd hc
    have dat : ∀ r ∈ L, ∃ d ∈ ds, r.2 = keyK d ∧ r.2.data = d ∧ D (.ref r.1) d := fun r hr => by
      obtain ⟨d, d1, d2, d3⟩ := b1 r hr
      exact ⟨d, d1, d2, by rw [d2, key_data d (nest_of k2 d1).1], d3⟩
    have rd : ∀ r ∈ L, ∃ as, Reads s.heap (.ref r.1) r.2.data as := fun r hr => by
      obtain ⟨d, _, _, d3, d4⟩ := dat r hr
      rw [d3]
      exact Dp.reads I d _ _ (hD _ _ d4) rfl
    rw [Vals.ref1 r]
    refine sort_rows R cm rd (fun x hx y hy => ?_) ?_ (fun r hr => ?_) fun s' a out c M k g w1 ha hg ho pm pw => ?_
    · obtain ⟨r, r1, rfl⟩ := List.mem_map.mp hx
      obtain ⟨u, u1, rfl⟩ := List.mem_map.mp hy
      obtain ⟨d, d1, _, d3, _⟩ := dat r r1
      obtain ⟨e, e1, _, e3, _⟩ := dat u u1
      rw [d3, e3]
      exact alikeB_all k3 d d1 e e1
    · refine .inl fun x hx => ?_
      obtain ⟨r, r1, rfl⟩ := List.mem_map.mp hx
      obtain ⟨d, d1, _, d3, _⟩ := dat r r1
      rw [d3]
      unfold uniqOk at ok
      rw [Bool.and_eq_true, Bool.or_eq_true] at ok
      have ht := List.all_eq_true.mp k1 d d1
      rcases ok.2 with z | z
      · have := List.all_eq_true.mp z d d1
        exfalso
        cases d <;> first | (cases this; done) | (cases ht; done)
      · have := List.all_eq_true.mp z d d1
        cases d with
        | tuple xs =>
          cases xs with
          | nil => cases this
          | cons x xs => exact ⟨x, xs, rfl⟩
        | _ => cases this
    · obtain ⟨d, d1, _, d3, _⟩ := dat r hr
      have := (nest_of k2 d1).2
      rw [d3]
      omega
    · have len : M.length < 64 := by rw [pm.length_eq]; exact R.few
      have hn : H a = none := I.hok.fresh ha
      have hv : Vals (M.map fun r => V.ref r.1) out.toList := by
        rw [ho]
        have : ∀ N : List SN.Row, Vals (N.map fun r => V.ref r.1) (N.map fun r => Value.ref r.1) := by
          intro N
          induction N with
          | nil => exact .nil
          | cons r N ih => exact .cons rfl ih
        exact this M
      have J : Inv X pins σ (upd H a (.lst (M.map fun r => V.ref r.1))) { s with heap := s'.heap, gens := s'.gens, drawn := s'.drawn, toks := s'.toks } :=
        I.call (ch := []) (Un.laid k ha hn) (I.hok.laid k ha ⟨by rw [List.length_map, sizeLine_eq]; omega, out.toList, c, hv, hg⟩) (by rw [g]; exact I.bare) (fun _ z => nomatch z)
      have es' : s' = { s with heap := s'.heap, gens := s'.gens, drawn := s'.drawn, toks := s'.toks } := by
        cases s'
        cases s
        cases w1
        rfl
      rw [es']
      refine ⟨.ref a, _, J, rfl, q a _ hn ?_⟩
      have eu : uniqD ds = M.map fun r => r.2.data := by
        refine uniq_eq (alikeB_all k3) ?_ fun z => ?_
        · refine List.pairwise_map.mpr (List.Pairwise.imp_of_mem (fun {r u} hr hu2 hh => ?_) (pw.and (List.pairwise_map.mp ((pm.map (·.2)).nodup_iff.mpr R.dif))))
          obtain ⟨h1, h2⟩ := hh
          cases q : PySem.W.dataLt r.2.data u.2.data with
          | true => rfl
          | false =>
            obtain ⟨d, d1, d2, d3, _⟩ := dat r (pm.mem_iff.mp hr)
            obtain ⟨e, e1, e2, e3, _⟩ := dat u (pm.mem_iff.mp hu2)
            rw [d3, e3] at q h1
            have := lt_tri (alikeB_all k3 d d1 e e1) q h1
            exact absurd (by rw [d2, e2, this]) h2
        · constructor
          · intro h
            obtain ⟨r, r1, rfl⟩ := List.mem_map.mp h
            obtain ⟨d, d1, _, d3, _⟩ := dat r (pm.mem_iff.mp r1)
            rw [d3]
            exact d1
          · intro h
            obtain ⟨r, r1, r2⟩ := List.mem_map.mp (b2 z h)
            refine List.mem_map.mpr ⟨r, pm.mem_iff.mpr r1, ?_⟩
            rw [r2, key_data z (nest_of k2 h).1]
      rw [eu]
      exact pair_map fun r hr => by
        obtain ⟨d, _, _, d3, d4⟩ := dat r (pm.mem_iff.mp hr)
        rw [d3]
        exact d4
/-- len(set) -/
def rLenA (K : PySem.W.Frag) (w : World) : List V → Hp → VK → Prop := fun vs H Q => ∃ (p : Addr) (o : HO) (ds : List PyData) (D : V → PyData → Prop), vs = [.ref p] ∧ H p = some o ∧ SetIs w D ds p o ∧ (∀ v d, D v d → Dp K H v d) ∧ Q (.int (uniqD ds).length) H
theorem up_nodup {l : List PyData} (u : Up l) : l.Nodup := u.imp fun {a b} h e => by rw [e, lt_irr] at h; cases h
theorem cr_lenA : CallR X (.builtin "len") (rLenA X.K X.w) := by
  intro pins s σ H vs us Q I r h
  obtain ⟨p, o, ds, D, rfl, hp, hs, hD, q⟩ := h
  rw [Vals.ref1 r]
  rcases hs with ⟨ns, c, rfl, few, rfl, hcl⟩ | ⟨L, rfl, k1, k2, k3, b1, b2⟩
  · obtain ⟨o, es, ep, t, ho, hex, hd, g, nd, hm, hb, hf, hn, _⟩ := setO_get I hp
    have e1 : (uniqD (ns.map PyData.int)).length = c := by
      have p1 : (uniqD (ns.map PyData.int)).Perm ((es.toList.map L2.keyOf).map PyData.int) := by
        refine (List.perm_ext_iff_of_nodup (up_nodup (uniq_up (ints_alike ns))) ?_).mpr fun z => ?_
        · exact List.pairwise_map.mpr (nd.imp fun {a b} h e => h (PyData.int.inj e))
        · rw [uniq_mem (ints_alike ns)]
          constructor
          · intro h
            obtain ⟨k, hk, rfl⟩ := List.mem_map.mp h
            exact List.mem_map_of_mem ((hm k).mp (decide_eq_true hk))
          · intro h
            obtain ⟨k, hk, rfl⟩ := List.mem_map.mp h
            exact List.mem_map_of_mem (of_decide_eq_true ((hm k).mpr hk))
      rw [p1.length_eq, List.length_map, List.length_map, Array.length_toList, hn]
    refine call_len_set ho hex hd hf (by rw [hn]; omega) ⟨.int (uniqD (ns.map PyData.int)).length, H, I.tok _, ⟨_, by rw [hn, e1]⟩, q⟩
  · obtain ⟨es, ep, t, R⟩ := setU_full I hD hp k2 b1
    obtain ⟨o, o1, o2, o3⟩ := R.obj
    have sz := SN.size_of R.ent
    have few := R.few
    have e1 : (uniqD ds).length = es.size := by
      have p1 : ((uniqD ds).map keyK).Perm (L.map (·.2)) := by
        refine (List.perm_ext_iff_of_nodup ?_ R.dif).mpr fun z => ?_
        · refine List.pairwise_map.mpr (List.Pairwise.imp_of_mem (fun {a b} ha hb ne e => ne ?_) (up_nodup (uniq_up (alikeB_all k3))))
          exact key_inj (nest_of k2 ((uniq_mem (alikeB_all k3) a).mp ha)).1 (nest_of k2 ((uniq_mem (alikeB_all k3) b).mp hb)).1 e
        · constructor
          · intro h
            obtain ⟨d, hd, rfl⟩ := List.mem_map.mp h
            exact b2 d ((uniq_mem (alikeB_all k3) d).mp hd)
          · intro h
            obtain ⟨r, hr, rfl⟩ := List.mem_map.mp h
            obtain ⟨d, d1, d2, _⟩ := b1 r hr
            exact List.mem_map.mpr ⟨d, (uniq_mem (alikeB_all k3) d).mpr d1, d2.symm⟩
      rw [sz, ← List.length_map (f := fun r : SN.Row => r.2), ← p1.length_eq, List.length_map]
    refine call_len_set o1 o2 o3 R.fits (by omega) ⟨.int (uniqD ds).length, H, I.tok _, ⟨_, by rw [e1]⟩, q⟩
/-- sorted(list) -/
def rSortL (K : PySem.W.Frag) : List V → Hp → VK → Prop := fun vs H Q => ∃ (a : Addr) (ys : List V) (ds : List PyData) (D : V → PyData → Prop), vs = [.ref a] ∧ SqL K H a ys ∧ Paired D ys ds ∧ (∀ v d, D v d → Dp K H v d) ∧ srtOk ds = true ∧
  ∀ q zs, H q = none → Paired D zs (sortD ds) → Q (.ref q) (upd H q (.lst zs))
theorem each_split {D : V → PyData → Prop} : ∀ {ys : List V} {us : List Value} {ds : List PyData}, Vals ys us → Paired D ys ds → PySem.W.EachIs (fun u d => ∃ v, RelV v u ∧ D v d) us ds
  | _, _, _, .nil, .nil => .nil
  | _, _, _, .cons r rs, .cons h hs => .cons ⟨_, r, h⟩ (each_split rs hs)
theorem each_join {D : V → PyData → Prop} : ∀ {us : List Value} {ds : List PyData}, PySem.W.EachIs (fun u d => ∃ v, RelV v u ∧ D v d) us ds → ∃ ys, Vals ys us ∧ Paired D ys ds
  | _, _, .nil => ⟨[], .nil, .nil⟩
  | _, _, .cons ⟨v, r, h⟩ t => by
    obtain ⟨ys, y1, y2⟩ := each_join t
    exact ⟨v :: ys, .cons r y1, .cons h y2⟩
theorem cr_sortL (hu : X.A.units + 65 < cLine) : CallR X (.builtin "sorted") (rSortL X.K) := by
  intro pins s σ H vs us Q I r h
  obtain ⟨a, ys, ds, D, rfl, hq, hp, hD, ok, q⟩ := h
  rw [Vals.ref1 r]
  obtain ⟨its, rv, pl, hz⟩ := I.list hq
  unfold srtOk at ok
  rw [Bool.and_eq_true, Bool.and_eq_true, Bool.and_eq_true] at ok
  obtain ⟨⟨⟨k1, k2⟩, k3⟩, k4⟩ := ok
  have len := of_decide_eq_true k4
  have ei := each_split rv hp
  have hl : ds.length ≤ sizeLine := by rw [sizeLine_eq]; omega
  refine PySem.W.sorted_data (bs := ds) (enc := fun d => d) (R := fun u d => ∃ v, RelV v u ∧ D v d) pl.isList ei (ei.mono fun u d ⟨v, e1, e2⟩ => Dp.reads I d v u (hD v d e2) e1) (by rw [List.map_id']; exact alikeB_all k1) ?_ hl (fun d hd => ?_) fun out l1 l2 => ?_
  · rw [List.map_id']
    rw [Bool.or_eq_true] at k2
    rcases k2 with k2 | k2
    · refine .inl fun d hd => ?_
      have := List.all_eq_true.mp k2 d hd
      cases d with
      | tuple xs =>
        cases xs with
        | nil => cases this
        | cons x xs => exact ⟨x, xs, rfl⟩
      | _ => cases this
    · refine .inr fun d hd => ?_
      have := List.all_eq_true.mp k2 d hd
      rw [Bool.and_eq_true] at this
      refine ⟨fun e => ?_, fun xs e => ?_⟩
      · rw [e] at this; cases this.2
      · rw [e] at this; cases this.1
  · have := of_decide_eq_true (List.all_eq_true.mp k3 d hd)
    show X.A.units + 2 + d.depth < cLine
    omega
  · rw [← sortD_eq] at l2
    obtain ⟨zs, z1, z2⟩ := each_join l2
    obtain ⟨c, hc⟩ := sortedAll_at s.heap its out.toArray
    have hn : H (s.heap.objs.size + 1) = none := I.hok.fresh (Nat.le_succ _)
    have lz : zs.length ≤ sizeLine := by rw [z1.length, l1]; exact hl
    exact ⟨.ref (s.heap.objs.size + 1), upd H (s.heap.objs.size + 1) (.lst zs), I.laid (t' := s.toks) (fun b o e => sortedAll_old e) (Nat.le_succ _) ⟨lz, out, c, z1, hc⟩, rfl, q _ zs hn z2⟩
end
end RD
set_option Elab.async false
set_option linter.all false
set_option maxRecDepth 100000
/-! RdF: calls, built-ins, walks, targets, comprehensions. -/
namespace RD
open PySem L2
def BagAt (F H : Hp) (b : Addr) (q : Bag) : Prop := ∀ x y, q = some (x, y) → H b = some (.lst [.int x, .int y]) ∧ F b = none
/-- behind a call: what is frozen, the heap -/
structure After (K : PySem.W.Frag) (b : Addr) (F H : Hp) (q : Bag) (F' H' : Hp) (q' : Bag) : Prop where
  leF : Le F F'
  le : Le F' H'
  new : ∀ a o, F' a = some o → (∀ xs, o ≠ .tup xs) → F a = some o ∨ H a = none
  keep : ∀ a o, H a = some o → (q.isSome = false ∨ a ≠ b) → H' a = some o
  isb : q'.isSome = q.isSome
  bag : BagAt F' H' b q'
/-- a def's promise: it hands back what g says -/
def spG (K : PySem.W.Frag) (mg : Str → Option Value) (n : Nat) (g : G) : Sp := fun vs H Q E => ∃ (F : Hp) (b : Addr) (us : List U) (q : Bag), Le F H ∧ us.length = n ∧ Paired (DenU K b F) us vs ∧ BagAt F H b q ∧
  match g us q with
  | .ok u q' => ∀ v F' H', After K b F H q F' H' q' → DenU K b F' u v → Q v H'
  | .exn c p q' => ∀ cls d F' H', After K b F H q F' H' q' → ErrIs K mg F' H' c p cls d → E cls d H'
  | .stuck => False
theorem spG.len {K : PySem.W.Frag} {mg : Str → Option Value} {n : Nat} {g : G} {vs : List V} {H : Hp} {Q : VK} {E : XK} (h : spG K mg n g vs H Q E) : vs.length = n := by
  obtain ⟨F, b, us, q, _, h1, h2, _⟩ := h
  rw [← h1]
  exact (Paired.length h2).symm
/-- a def of the module keeps its promise, at a level -/
def GF (P : Program) (w : World) (K : PySem.W.Frag) (mg : Str → Option Value) (base : Heap) (lv n : Nat) (x : Str) (g : G) : Prop := ∃ (f : Addr) (fd : FuncData) (ps : List Str) (k : Nat), k ≤ lv ∧ ps.length = n ∧ mg x = some (.ref f) ∧ PySem.W.keepIn K (.ref f) = true ∧ Binds K fd ps [] ∧
  FnOk P w K mg base (L2.CX P w) k f fd ps (spG K mg ps.length g)
theorem GF.mono {P : Program} {w : World} {K : PySem.W.Frag} {mg : Str → Option Value} {base : Heap} {lv lv' n : Nat} {x : Str} {g : G} (h : GF P w K mg base lv n x g) (l : lv ≤ lv') : GF P w K mg base lv' n x g := by
  obtain ⟨f, fd, ps, k, h1, r⟩ := h
  exact ⟨f, fd, ps, k, Nat.le_trans h1 l, r⟩
/-- a weaker promise -/
theorem GF.imp {P : Program} {w : World} {K : PySem.W.Frag} {mg : Str → Option Value} {base : Heap} {lv n : Nat} {x : Str} {g g' : G} (h : GF P w K mg base lv n x g) (i : ∀ us q, g' us q ≠ .stuck → g us q = g' us q) : GF P w K mg base lv n x g' := by
  obtain ⟨f, fd, ps, k, h1, h1', h2, h3, h4, h5⟩ := h
  refine ⟨f, fd, ps, k, h1, h1', h2, h3, h4, h5.imp fun vs H Q E ⟨F, b, us, q, q1, q2, q3, q4, q5⟩ => ⟨F, b, us, q, q1, q2, q3, q4, ?_⟩⟩
  rw [i us q (by intro z; rw [z] at q5; exact q5)]
  exact q5

section
variable {X : Cx} {W : WX} {C : Ct} {F : Hp} {s : S} {σ : L2.St} {H : Hp}
/-- behind a call the relation stands again -/
theorem Rel.after {K : PySem.W.Frag} (r : Rel K C F s σ H) {F' H' : Hp} {q' : Bag} (a : After K C.b F H s.bag F' H' q') : Rel K C F' ⟨s.rho, q'⟩ σ H' where
  le := a.le
  ge := r.ge.trans a.leF
  new := fun b o e n => by
    rcases a.new b o e n with h | h
    · exact r.new b o h n
    · exact .inr (r.fresh0 h)
  keep := fun b o e n => by
    have h1 := r.keep b o e n
    refine a.keep b o h1 ?_
    rw [r.hbag]
    exact n
  hbag := a.isb.trans r.hbag
  bag := a.bag
  len := r.len
  val := fun i u e => by
    obtain ⟨v, h1, h2⟩ := r.val i u e
    exact ⟨v, h1, h2.mono a.leF⟩
  own := fun i ds e => by
    obtain ⟨p, vs, h1, h2, h3, h4, h5, h6⟩ := r.own i ds e
    refine ⟨p, vs, h1, a.keep p _ h2 (by rw [r.hbag]; exact h5), ?_, h4, h5, h6.mono a.leF⟩
    cases z : F' p with
    | none => rfl
    | some o =>
      have h7 := a.le p o z
      rw [a.keep p _ h2 (by rw [r.hbag]; exact h5)] at h7
      cases h7
      rcases a.new p _ z h6.ntup with h | h
      · rw [h3] at h; cases h
      · rw [h2] at h; cases h
  apart := r.apart
theorem sx_call {f : Addr} {fd : FuncData} {ps : List Str} {k : Nat} {x : Str} {g : G} {e : Expr} {es : List Expr} {l : T} {p pos : Pos} (G0 : FnOk X.prog X.w X.K X.mg X.base (L2.CX X.prog X.w) k f fd ps (spG X.K X.mg ps.length g)) (hr : Room k X.A) (hg : Gl X x) (hm : X.mg x = some (.ref f))
    (hk : PySem.W.keepIn X.K (.ref f) = true) (hb : Binds X.K fd ps []) (tk : Takes X W) (ha : PA X (e :: es) (tXA X.K X.mg W l)) (hdb : (x == ("__debug__" : Str)) = false) (he : starEach (e :: es) X.env = (false, eval e X.env) :: starEach es X.env)
    (hpl : (backTo pos (starEach es X.env)).any (·.1) = false) (hlen : (e :: es).length = ps.length) (hlA : ∀ s us s', evA l s = .ok us s' → us.length = (e :: es).length) : PE X (.Call (.Name x p) (e :: es) [] pos) (tX X.K X.mg W (.call x g l)) := by
  refine (pe_callS G0 hr hg hm hk hb (fun σ => passAt tk σ) ha hdb he hpl).weak fun σ H Q ⟨C, F, s, r, h⟩ => ⟨C, F, s, r, ?_⟩
  have h' : Post X.K X.mg W C F σ ((evA l s).bind fun us s => (g us s.bag).lift s) (fun u F' _ H' => ∀ v, DenU X.K C.b F' u v → Q v H') := h
  have hL := hlA s
  revert h' hL
  generalize evA l s = m
  intro h' hL
  cases m with
  | exn c p s1 => exact h'
  | stuck => exact h'.elim
  | ok us s1 =>
    intro F1 H1 l1 r1 vs d1
    have h1 : Post X.K X.mg W C F1 σ ((g us s1.bag).lift s1) (fun u F' _ H' => ∀ v, DenU X.K C.b F' u v → Q v H') := Post.up h' l1
    refine ⟨F1, C.b, us, s1.bag, r1.le, by rw [← hlen]; exact hL us s1 rfl, d1, r1.bag, ?_⟩
    cases e1 : g us s1.bag with
    | stuck => rw [e1] at h1; exact h1.elim
    | ok u q' =>
      rw [e1] at h1
      intro v F2 H2 a d2
      exact h1 F2 H2 a.leF (r1.after a) v d2
    | exn c p q' =>
      rw [e1] at h1
      intro cls d F2 H2 a er
      exact h1 F2 H2 cls d a.leF (r1.after a) er
/-- f(): no argument -/
theorem sx_call0 {f : Addr} {fd : FuncData} {ps : List Str} {k : Nat} {x : Str} {g : G} {p pos : Pos} (G0 : FnOk X.prog X.w X.K X.mg X.base (L2.CX X.prog X.w) k f fd ps (spG X.K X.mg ps.length g)) (hr : Room k X.A) (hg : Gl X x) (hm : X.mg x = some (.ref f))
    (hk : PySem.W.keepIn X.K (.ref f) = true) (hb : Binds X.K fd ps []) (tk : Takes X W) (hdb : (x == ("__debug__" : Str)) = false) (hlen : ps.length = 0) : PE X (.Call (.Name x p) [] [] pos) (tX X.K X.mg W (.call x g .anil)) := by
  refine ⟨fun pins s0 σ H Q I ⟨C, F, s, r, h⟩ => wpAny_Call_Name_kw (ld_glob I hg hm (PySem.W.callWith_K0 I.kIn hk (run_fnS (us := []) G0 hr hb (passAt tk σ) I .nil ?_)) hdb)⟩
  have h1 : Post X.K X.mg W C F σ ((g [] s.bag).lift s) (fun u F' _ H' => ∀ v, DenU X.K C.b F' u v → Q v H') := h
  refine ⟨F, C.b, [], s.bag, r.le, hlen.symm, .nil, r.bag, ?_⟩
  cases e1 : g [] s.bag with
  | stuck => rw [e1] at h1; exact h1.elim
  | ok u q' =>
    rw [e1] at h1
    intro v F2 H2 a d2
    exact h1 F2 H2 a.leF (r.after a) v d2
  | exn c p q' =>
    rw [e1] at h1
    intro cls d F2 H2 a er
    exact h1 F2 H2 cls d a.leF (r.after a) er
end
/-! ### built-ins -/
def BF.name : BF → Str
  | .len => "len" | .int => "int" | .str => "str" | .bool => "bool" | .abs => "abs" | .max2 => "max" | .min2 => "min" | .max1 => "max" | .min1 => "min" | .sorted => "sorted" | .tuple => "tuple" | .list => "list" | .all => "all"
  | .isInt => "isinstance" | .isBool => "isinstance" | .isStr => "isinstance" | .isTuple => "isinstance" | .isList => "isinstance"
def BF.cls : BF → String
  | .isInt => "int" | .isBool => "bool" | .isStr => "str" | .isTuple => "tuple" | .isList => "list" | _ => ""
def BF.isI : BF → Bool
  | .isInt => true | .isBool => true | .isStr => true | .isTuple => true | .isList => true | _ => false
/-- the names that are taken for the built-ins they are -/
def BltOk (mg : Str → Option Value) : Prop := ∀ x ∈ bltNames, mg x = none

theorem bi_len : bootBuiltins "len" = some (.builtin "len") := by decide +kernel
theorem bi_int : bootBuiltins "int" = some (.type "int") := by decide +kernel
theorem bi_str : bootBuiltins "str" = some (.type "str") := by decide +kernel
theorem bi_bool : bootBuiltins "bool" = some (.type "bool") := by decide +kernel
theorem bi_abs : bootBuiltins "abs" = some (.builtin "abs") := by decide +kernel
theorem bi_max : bootBuiltins "max" = some (.builtin "max") := by decide +kernel
theorem bi_min : bootBuiltins "min" = some (.builtin "min") := by decide +kernel
theorem bi_tuple : bootBuiltins "tuple" = some (.type "tuple") := by decide +kernel
theorem bi_list : bootBuiltins "list" = some (.type "list") := by decide +kernel
theorem bi_all : bootBuiltins "all" = some (.builtin "all") := by decide +kernel
theorem bi_sorted : bootBuiltins "sorted" = some (.builtin "sorted") := by decide +kernel
theorem bi_isinstance : bootBuiltins "isinstance" = some (.builtin "isinstance") := by decide +kernel

section
variable {K : PySem.W.Frag} {C : Ct} {F : Hp} {s : S} {σ : L2.St} {H : Hp} {vs : List V} {xs : List PyData} {z : PyData} {Q : VK}
theorem dn1 {vs : List V} {x : PyData} (d : DnAll K F vs [x]) : ∃ v, vs = [v] ∧ Dn K F v x := by
  cases d with
  | cons h t => cases t; exact ⟨_, rfl, h⟩
theorem dn2 {vs : List V} {x y : PyData} (d : DnAll K F vs [x, y]) : ∃ v w, vs = [v, w] ∧ Dn K F v x ∧ Dn K F w y := by
  cases d with
  | cons h t => cases t with | cons h2 t2 => cases t2; exact ⟨_, _, rfl, h, h2⟩
theorem allB_dn : ∀ {vs : List V} {xs : List PyData} {b : Bool}, DnAll K F vs xs → allB xs = some b → ∃ bs : List Bool, vs = bs.map V.bl ∧ bs.all id = b
  | _, [], b, .nil, e => by cases e; exact ⟨[], rfl, rfl⟩
  | _, x :: xs, b, .cons h t, e => by
    cases x with
    | bool k =>
      have e' : (allB xs).map (fun c => k && c) = some b := e
      cases q : allB xs with
      | none => rw [q] at e'; cases e'
      | some c =>
        rw [q] at e'
        cases e'
        cases h
        obtain ⟨bs, h1, h2⟩ := allB_dn t q
        subst h1
        exact ⟨k :: bs, rfl, by simp [h2]⟩
    | _ => cases e
/-- what isinstance may be asked of -/
def tyD : PyData → String
  | .none => "NoneType" | .bool _ => "bool" | .int _ => "int" | .str _ => "str" | .list _ => "list" | .tuple _ => "tuple" | .dict _ => "dict"
theorem tyX_dn {v : V} {x : PyData} (le : Le F H) (d : Dn K F v x) (n : ∀ kvs, x ≠ .dict kvs) : TyX K H v (.type (tyD x)) := by
  cases d with
  | fn _ => exact absurd rfl (n _)
  | dct _ _ _ => exact absurd rfl (n _)
  | kt _ _ _ _ => exact absurd rfl (n _)
  | exc _ _ => exact absurd rfl (n _)
  | exw _ _ _ _ => exact absurd rfl (n _)
  | ins _ _ _ _ => exact absurd rfl (n _)
  | non => exact .base .non
  | bl b => exact .base (.bl b)
  | int i => exact .base (.int i)
  | str x => exact .base (.str x)
  | lst h _ => exact .base (.lst (le _ _ h))
  | tup h _ _ =>
    rcases h.mono le with (q | ⟨o, q⟩) | ⟨o, its, n, q, qc, _⟩
    · exact .base (.tup q)
    · exact .fTuple q
    · exact .kTuple q qc
theorem kit_all (f : BF) (hf : f.isI = true) (x : PyData) {b : Bool} (e : isiD f x = some b) : PySem.W.kitOne K (.type (tyD x)) (.type f.cls) = some b := by
  refine kit_ty ?_
  cases f <;> first | (exact absurd hf (by decide)) | skip
  all_goals (cases x <;> first | (cases e; dsimp only [tyD, BF.cls]; decide +kernel) | cases e)
end
section
variable {K : PySem.W.Frag} {F : Hp}
theorem intsD_dn : ∀ {vs : List V} {xs : List PyData} {ns : List Int}, DnAll K F vs xs → intsD xs = some ns → vs = ns.map V.int
  | _, [], ns, .nil, e => by cases e; rfl
  | _, x :: xs, ns, .cons h t, e => by
    cases x with
    | int i =>
      have e' : (intsD xs).map (i :: ·) = some ns := e
      cases q : intsD xs with
      | none => rw [q] at e'; cases e'
      | some ms =>
        rw [q] at e'
        cases e'
        cases h
        rw [intsD_dn t q]
        rfl
    | _ => cases e
theorem maxI_is : ∀ (ns : List Int), ns ≠ [] → maxI ns ∈ ns ∧ ∀ y ∈ ns, y ≤ maxI ns
  | [], h => absurd rfl h
  | [x], _ => ⟨List.mem_cons_self, fun y hy => by rw [List.mem_singleton.mp hy]; exact Int.le_refl _⟩
  | x :: z :: r, _ => by
    obtain ⟨h1, h2⟩ := maxI_is (z :: r) (by intro e; cases e)
    show (if maxI (z :: r) > x then maxI (z :: r) else x) ∈ _ ∧ ∀ y ∈ x :: z :: r, y ≤ if maxI (z :: r) > x then maxI (z :: r) else x
    split
    · refine ⟨List.mem_cons_of_mem _ h1, fun y hy => ?_⟩
      rcases List.mem_cons.mp hy with rfl | hy
      · omega
      · exact h2 y hy
    · refine ⟨List.mem_cons_self, fun y hy => ?_⟩
      rcases List.mem_cons.mp hy with rfl | hy
      · exact Int.le_refl _
      · have := h2 y hy
        omega
theorem minI_is : ∀ (ns : List Int), ns ≠ [] → minI ns ∈ ns ∧ ∀ y ∈ ns, minI ns ≤ y
  | [], h => absurd rfl h
  | [x], _ => ⟨List.mem_cons_self, fun y hy => by rw [List.mem_singleton.mp hy]; exact Int.le_refl _⟩
  | x :: z :: r, _ => by
    obtain ⟨h1, h2⟩ := minI_is (z :: r) (by intro e; cases e)
    show (if minI (z :: r) < x then minI (z :: r) else x) ∈ _ ∧ ∀ y ∈ x :: z :: r, (if minI (z :: r) < x then minI (z :: r) else x) ≤ y
    split
    · refine ⟨List.mem_cons_of_mem _ h1, fun y hy => ?_⟩
      rcases List.mem_cons.mp hy with rfl | hy
      · omega
      · exact h2 y hy
    · refine ⟨List.mem_cons_self, fun y hy => ?_⟩
      rcases List.mem_cons.mp hy with rfl | hy
      · exact Int.le_refl _
      · have := h2 y hy
        omega
theorem paired_dn : ∀ {vs : List V} {xs : List PyData}, Paired (Dn K F) vs xs → DnAll K F vs xs
  | _, _, .nil => .nil
  | _, _, .cons h t => .cons h (paired_dn t)
/-- data without defs and dicts -/
abbrev DnN (K : PySem.W.Frag) (F : Hp) : V → PyData → Prop := fun v d => Dn K F v d ∧ ndB d = true
theorem paired_nd {K : PySem.W.Frag} {F : Hp} : ∀ {vs : List V} {xs : List PyData}, DnAll K F vs xs → (∀ x ∈ xs, ndB x = true) → Paired (DnN K F) vs xs
  | _, _, .nil, _ => .nil
  | _, _, .cons q1 q2, h => .cons ⟨q1, h _ List.mem_cons_self⟩ (paired_nd q2 fun x hx => h x (List.mem_cons_of_mem _ hx))
theorem paired_fst {K : PySem.W.Frag} {F : Hp} : ∀ {vs : List V} {xs : List PyData}, Paired (DnN K F) vs xs → Paired (Dn K F) vs xs
  | _, _, .nil => .nil
  | _, _, .cons q1 q2 => .cons q1.1 (paired_fst q2)
theorem DnN.dp {K : PySem.W.Frag} {F H : Hp} (le : Le F H) (v : V) (d : PyData) (dn : DnN K F v d) : Dp K H v d := Dn.dp _ _ (Dn.mono le _ _ dn.1) dn.2
theorem nd_set {xs : List PyData} (ok : setOk xs = true) : ∀ x ∈ xs, ndB x = true := fun x hx => by
  unfold setOk at ok
  rw [Bool.or_eq_true] at ok
  rcases ok with ok | ok
  · rw [Bool.and_eq_true] at ok
    have := List.all_eq_true.mp ok.1 x hx
    cases x <;> first | rfl | cases this
  · rw [Bool.and_eq_true, Bool.and_eq_true] at ok
    exact nd_alike x (List.all_eq_true.mp (List.all_eq_true.mp ok.1.2 x hx) x hx)
theorem nd_srt {xs : List PyData} (ok : srtOk xs = true) : ∀ x ∈ xs, ndB x = true := fun x hx => by
  unfold srtOk at ok
  rw [Bool.and_eq_true, Bool.and_eq_true, Bool.and_eq_true] at ok
  exact nd_alike x (List.all_eq_true.mp (List.all_eq_true.mp ok.1.1.1 x hx) x hx)
end
section
variable {X : Cx} {W : WX} {e : Expr} {es : List Expr} {l : T} {p pos : Pos}
/-- a built-in function or type over data: its rule, and that it does what bltop says -/
theorem sx_bltR {f : BF} {r : List V → Hp → VK → Prop} {t : TA} (hpe : PE X (.Call (.Name f.name p) (e :: es) [] pos) (tCB r (tXA X.K X.mg W l)))
    (leaf : ∀ (C : Ct) (F : Hp) (s : S) (σ : L2.St) (H : Hp) (vs : List V) (xs : List PyData) (z : PyData) (Q : VK), bltop f xs = some z → Rel X.K C F s σ H → DnAll X.K F vs xs → (∀ F' H', Le F F' → Rel X.K C F' s σ H' → ∀ u, Dn X.K F' u z → Q u H') → r vs H Q) :
    PE X (.Call (.Name f.name p) (e :: es) [] pos) (tX X.K X.mg W (.blt f l)) := by
  refine hpe.weak fun σ H Q ⟨C, F, s, r, h⟩ => ⟨C, F, s, r, ?_⟩
  refine (Post.bind h).imp fun us F1 s1 H1 l1 r1 h1 vs d1 => ?_
  cases e : datas us with
  | none => rw [e] at h1; exact h1.elim
  | some xs =>
    rw [e] at h1
    obtain ⟨z, ez, h3⟩ := h1.lift
    exact leaf C F1 s1 σ H1 vs xs z Q ez r1 (datas_dn d1 e) fun F' H' l r u d => h3 F' H' l r u d
theorem sx_len (hB : BltOk X.mg) (hg : Gl X "len") (ha : PA X (e :: es) (tXA X.K X.mg W l)) (he : starEach (e :: es) X.env = (false, eval e X.env) :: starEach es X.env) (hpl : (backTo pos (starEach es X.env)).any (·.1) = false) :
    PE X (.Call (.Name "len" p) (e :: es) [] pos) (tX X.K X.mg W (.blt .len l)) := by
  refine sx_bltR (f := .len) (t := tXA X.K X.mg W l) (pe_callB (call_len_seq.or call_len_str) hg (hB _ (by decide +kernel)) bi_len ha (by decide) (by decide) he hpl) fun C F s σ H vs xs z Q ez r d q => ?_
  cases xs with
  | nil => cases ez
  | cons x xs =>
    cases xs with
    | cons y ys => cases x <;> cases ez
    | nil =>
      obtain ⟨v, rfl, dv⟩ := dn1 d
      cases x with
      | tuple ds =>
        cases ez
        cases dv with
        | tup h1 h0 h2 =>
          refine .inl ⟨_, _, rfl, .inr (h1.mono r.le), ?_⟩
          rw [h2.length]
          exact q F H (Le.refl _) r _ (.int _)
      | list ds =>
        cases ez
        cases dv with
        | lst h1 h2 =>
          refine .inl ⟨_, _, rfl, .inl (.of (r.le _ _ h1)), ?_⟩
          rw [h2.length]
          exact q F H (Le.refl _) r _ (.int _)
      | str x =>
        cases dv
        have ez' : (if x.length ≤ big then some (PyData.int x.length) else none) = some z := ez
        split at ez'
        · rename_i hl
          cases ez'
          exact .inr ⟨x, rfl, Nat.le_trans hl big_line, q F H (Le.refl _) r _ (.int _)⟩
        · cases ez'
      | _ => cases ez
theorem sx_intF (hB : BltOk X.mg) (hg : Gl X "int") (ha : PA X (e :: es) (tXA X.K X.mg W l)) (he : starEach (e :: es) X.env = (false, eval e X.env) :: starEach es X.env) (hpl : (backTo pos (starEach es X.env)).any (·.1) = false) :
    PE X (.Call (.Name "int" p) (e :: es) [] pos) (tX X.K X.mg W (.blt .int l)) := by
  refine sx_bltR (f := .int) (t := tXA X.K X.mg W l) (pe_callTy call_int1 hg (hB _ (by decide +kernel)) bi_int ha (by decide) (by decide) he hpl) fun C F s σ H vs xs z Q ez r d q => ?_
  cases xs with
  | nil => cases ez
  | cons x xs =>
    cases xs with
    | cons y ys => cases x <;> cases ez
    | nil =>
      obtain ⟨v, rfl, dv⟩ := dn1 d
      cases x with
      | int i => cases ez; cases dv; exact .inl ⟨i, rfl, q F H (Le.refl _) r _ (.int _)⟩
      | bool b => cases ez; cases dv; exact .inr ⟨b, rfl, q F H (Le.refl _) r _ (.int _)⟩
      | _ => cases ez
theorem sx_strF (hB : BltOk X.mg) (hg : Gl X "str") (ha : PA X (e :: es) (tXA X.K X.mg W l)) (he : starEach (e :: es) X.env = (false, eval e X.env) :: starEach es X.env) (hpl : (backTo pos (starEach es X.env)).any (·.1) = false) :
    PE X (.Call (.Name "str" p) (e :: es) [] pos) (tX X.K X.mg W (.blt .str l)) := by
  refine sx_bltR (f := .str) (t := tXA X.K X.mg W l) (pe_callTy call_str_int hg (hB _ (by decide +kernel)) bi_str ha (by decide) (by decide) he hpl) fun C F s σ H vs xs z Q ez r d q => ?_
  cases xs with
  | nil => cases ez
  | cons x xs =>
    cases xs with
    | cons y ys => cases x <;> cases ez
    | nil =>
      obtain ⟨v, rfl, dv⟩ := dn1 d
      cases x with
      | int i =>
        cases dv
        simp only [bltop] at ez
        split at ez
        · rename_i hs
          cases ez
          exact ⟨i, rfl, hs, q F H (Le.refl _) r _ (.str _)⟩
        · cases ez
      | _ => cases ez
theorem sx_boolF (hB : BltOk X.mg) (hg : Gl X "bool") (ha : PA X (e :: es) (tXA X.K X.mg W l)) (he : starEach (e :: es) X.env = (false, eval e X.env) :: starEach es X.env) (hpl : (backTo pos (starEach es X.env)).any (·.1) = false) :
    PE X (.Call (.Name "bool" p) (e :: es) [] pos) (tX X.K X.mg W (.blt .bool l)) := by
  refine sx_bltR (f := .bool) (t := tXA X.K X.mg W l) (pe_callTy call_bool1 hg (hB _ (by decide +kernel)) bi_bool ha (by decide) (by decide) he hpl) fun C F s σ H vs xs z Q ez r d q => ?_
  cases xs with
  | nil => cases ez
  | cons x xs =>
    cases xs with
    | cons y ys => cases x <;> cases ez
    | nil =>
      obtain ⟨v, rfl, dv⟩ := dn1 d
      cases x with
      | bool b => cases ez; cases dv; exact .inr ⟨b, rfl, q F H (Le.refl _) r _ (.bl _)⟩
      | _ => cases ez
theorem sx_absF (hB : BltOk X.mg) (hg : Gl X "abs") (ha : PA X (e :: es) (tXA X.K X.mg W l)) (he : starEach (e :: es) X.env = (false, eval e X.env) :: starEach es X.env) (hpl : (backTo pos (starEach es X.env)).any (·.1) = false) :
    PE X (.Call (.Name "abs" p) (e :: es) [] pos) (tX X.K X.mg W (.blt .abs l)) := by
  refine sx_bltR (f := .abs) (t := tXA X.K X.mg W l) (pe_callB call_abs hg (hB _ (by decide +kernel)) bi_abs ha (by decide) (by decide) he hpl) fun C F s σ H vs xs z Q ez r d q => ?_
  cases xs with
  | nil => cases ez
  | cons x xs =>
    cases xs with
    | cons y ys => cases x <;> cases ez
    | nil =>
      obtain ⟨v, rfl, dv⟩ := dn1 d
      cases x with
      | int i => cases ez; cases dv; exact ⟨i, rfl, q F H (Le.refl _) r _ (.int _)⟩
      | _ => cases ez
theorem sx_max2 (hc : X.calm = true) (hB : BltOk X.mg) (hg : Gl X "max") (ha : PA X (e :: es) (tXA X.K X.mg W l)) (he : starEach (e :: es) X.env = (false, eval e X.env) :: starEach es X.env) (hpl : (backTo pos (starEach es X.env)).any (·.1) = false) :
    PE X (.Call (.Name "max" p) (e :: es) [] pos) (tX X.K X.mg W (.blt .max2 l)) := by
  refine sx_bltR (f := .max2) (t := tXA X.K X.mg W l) (pe_callB (call_max2 hc) hg (hB _ (by decide +kernel)) bi_max ha (by decide) (by decide) he hpl) fun C F s σ H vs xs z Q ez r d q => ?_
  cases xs with
  | nil => cases ez
  | cons x xs =>
    cases xs with
    | nil => cases x <;> cases ez
    | cons y xs =>
      cases xs with
      | cons t ys => cases x <;> cases y <;> cases ez
      | nil =>
        obtain ⟨v, w, rfl, dv, dw⟩ := dn2 d
        cases x with
        | int i =>
          cases y with
          | int j => cases ez; cases dv; cases dw; exact ⟨i, j, rfl, q F H (Le.refl _) r _ (.int _)⟩
          | _ => cases ez
        | _ => cases ez
theorem sx_min2 (hc : X.calm = true) (hB : BltOk X.mg) (hg : Gl X "min") (ha : PA X (e :: es) (tXA X.K X.mg W l)) (he : starEach (e :: es) X.env = (false, eval e X.env) :: starEach es X.env) (hpl : (backTo pos (starEach es X.env)).any (·.1) = false) :
    PE X (.Call (.Name "min" p) (e :: es) [] pos) (tX X.K X.mg W (.blt .min2 l)) := by
  refine sx_bltR (f := .min2) (t := tXA X.K X.mg W l) (pe_callB (call_min2 hc) hg (hB _ (by decide +kernel)) bi_min ha (by decide) (by decide) he hpl) fun C F s σ H vs xs z Q ez r d q => ?_
  cases xs with
  | nil => cases ez
  | cons x xs =>
    cases xs with
    | nil => cases x <;> cases ez
    | cons y xs =>
      cases xs with
      | cons t ys => cases x <;> cases y <;> cases ez
      | nil =>
        obtain ⟨v, w, rfl, dv, dw⟩ := dn2 d
        cases x with
        | int i =>
          cases y with
          | int j => cases ez; cases dv; cases dw; exact ⟨i, j, rfl, q F H (Le.refl _) r _ (.int _)⟩
          | _ => cases ez
        | _ => cases ez
theorem sx_max1 (hc : X.calm = true) (hB : BltOk X.mg) (hg : Gl X "max") (ha : PA X (e :: es) (tXA X.K X.mg W l)) (he : starEach (e :: es) X.env = (false, eval e X.env) :: starEach es X.env) (hpl : (backTo pos (starEach es X.env)).any (·.1) = false) :
    PE X (.Call (.Name "max" p) (e :: es) [] pos) (tX X.K X.mg W (.blt .max1 l)) := by
  refine sx_bltR (f := .max1) (t := tXA X.K X.mg W l) (pe_callB (cr_max hc) hg (hB _ (by decide +kernel)) bi_max ha (by decide) (by decide) he hpl) fun C F s σ H vs xs z Q ez r d q => ?_
  cases xs with
  | nil => cases ez
  | cons x xs =>
    cases xs with
    | cons y ys => cases x <;> cases ez
    | nil =>
      obtain ⟨v, rfl, dv⟩ := dn1 d
      cases x with
      | list ds =>
        cases dv with
        | lst h1 h2 =>
          have ez' : (match intsD ds with | some (n :: ns) => some (PyData.int (maxI (n :: ns))) | _ => none) = some z := ez
          split at ez'
          · rename_i n ns e1
            cases ez'
            have e2 := intsD_dn h2 e1
            subst e2
            refine ⟨_, n :: ns, rfl, .of (r.le _ _ h1), Nat.succ_pos _, fun m m1 m2 => ?_⟩
            obtain ⟨k1, k2⟩ := maxI_is (n :: ns) (by intro z; cases z)
            have e3 : m = maxI (n :: ns) := by
              have a1 := m2 _ k1
              have a2 := k2 _ m1
              omega
            rw [e3]
            exact q F H (Le.refl _) r _ (.int _)
          · cases ez'
      | _ => cases ez
theorem sx_min1 (hc : X.calm = true) (hB : BltOk X.mg) (hg : Gl X "min") (ha : PA X (e :: es) (tXA X.K X.mg W l)) (he : starEach (e :: es) X.env = (false, eval e X.env) :: starEach es X.env) (hpl : (backTo pos (starEach es X.env)).any (·.1) = false) :
    PE X (.Call (.Name "min" p) (e :: es) [] pos) (tX X.K X.mg W (.blt .min1 l)) := by
  refine sx_bltR (f := .min1) (t := tXA X.K X.mg W l) (pe_callB (cr_min hc) hg (hB _ (by decide +kernel)) bi_min ha (by decide) (by decide) he hpl) fun C F s σ H vs xs z Q ez r d q => ?_
  cases xs with
  | nil => cases ez
  | cons x xs =>
    cases xs with
    | cons y ys => cases x <;> cases ez
    | nil =>
      obtain ⟨v, rfl, dv⟩ := dn1 d
      cases x with
      | list ds =>
        cases dv with
        | lst h1 h2 =>
          have ez' : (match intsD ds with | some (n :: ns) => some (PyData.int (minI (n :: ns))) | _ => none) = some z := ez
          split at ez'
          · rename_i n ns e1
            cases ez'
            have e2 := intsD_dn h2 e1
            subst e2
            refine ⟨_, n :: ns, rfl, .of (r.le _ _ h1), Nat.succ_pos _, fun m m1 m2 => ?_⟩
            obtain ⟨k1, k2⟩ := minI_is (n :: ns) (by intro z; cases z)
            have e3 : m = minI (n :: ns) := by
              have a1 := m2 _ k1
              have a2 := k2 _ m1
              omega
            rw [e3]
            exact q F H (Le.refl _) r _ (.int _)
          · cases ez'
      | _ => cases ez
theorem sx_sorted (hu : X.A.units + 65 < cLine) (hB : BltOk X.mg) (hg : Gl X "sorted") (ha : PA X (e :: es) (tXA X.K X.mg W l)) (he : starEach (e :: es) X.env = (false, eval e X.env) :: starEach es X.env) (hpl : (backTo pos (starEach es X.env)).any (·.1) = false) :
    PE X (.Call (.Name "sorted" p) (e :: es) [] pos) (tX X.K X.mg W (.blt .sorted l)) := by
  refine sx_bltR (f := .sorted) (t := tXA X.K X.mg W l) (pe_callB (cr_sortL hu) hg (hB _ (by decide +kernel)) bi_sorted ha (by decide) (by decide) he hpl) fun C F s σ H vs xs z Q ez r d q => ?_
  cases xs with
  | nil => cases ez
  | cons x xs =>
    cases xs with
    | cons y ys => cases x <;> cases ez
    | nil =>
      obtain ⟨v, rfl, dv⟩ := dn1 d
      cases x with
      | list ds =>
        cases dv with
        | lst h1 h2 =>
          have ez' : (if srtOk ds = true then some (PyData.list (sortD ds)) else none) = some z := ez
          split at ez'
          · rename_i ok
            cases ez'
            refine ⟨_, _, ds, DnN X.K F, rfl, .of (r.le _ _ h1), paired_nd h2 (nd_srt ok), DnN.dp r.le, ok, fun a zs ha hp => ?_⟩
            obtain ⟨F', lF, r', d'⟩ := r.lst ha (paired_dn (paired_fst hp))
            exact q F' _ lF r' _ d'
          · cases ez'
      | _ => cases ez
theorem bi_set : bootBuiltins "set" = some (.type "set") := by decide +kernel
/-- how the set of a value's items comes to be -/
theorem set_reads {C : Ct} {F1 : Hp} {s1 : S} {σ : L2.St} {H1 : Hp} {v : V} {x : PyData} {xs : List PyData} (hx : x = .list xs ∨ x = .tuple xs) (ok : setOk xs = true) (r1 : Rel X.K C F1 s1 σ H1) (d : Dn X.K F1 v x) {Q : VK}
    (q : ∀ p o, H1 p = none → SetIs X.w (DnN X.K F1) xs p o → Rel X.K C F1 s1 σ (upd H1 p o) → Q (.ref p) (upd H1 p o)) : rSetA X.K X.w [v] H1 Q := by
  rcases hx with rfl | rfl
  · cases d with
    | lst h1 h2 => exact ⟨_, _, xs, DnN X.K F1, rfl, .inl (.of (r1.le _ _ h1)), DnN.dp r1.le, paired_nd h2 (nd_set ok), ok, fun p o hp hs => q p o hp hs (r1.lay o hp)⟩
  · cases d with
    | tup h1 h0 h2 => exact ⟨_, _, xs, DnN X.K F1, rfl, .inr (h1.mono r1.le), DnN.dp r1.le, paired_nd h2 (nd_set ok), ok, fun p o hp hs => q p o hp hs (r1.lay o hp)⟩
theorem sx_uniq {a : T} {p2 pos2 : Pos} (hc : X.calm = true) (hu : X.A.units + 65 < cLine) (hB : BltOk X.mg) (hg : Gl X "sorted") (hg2 : Gl X "set") (ha : PE X e (tX X.K X.mg W a)) (na : starEach [e] X.env = [(false, eval e X.env)]) :
    PE X (.Call (.Name "sorted" p) [.Call (.Name "set" p2) [e] [] pos2] [] pos) (tX X.K X.mg W (.uniq a)) := by
  refine (pe_callB (cr_sortA hc hu) hg (hB _ (by decide +kernel)) bi_sorted (pa_cons (pe_callTy (cr_setA hc (by omega)) hg2 (hB _ (by decide +kernel)) bi_set (pa_cons ha pa_nil na) (by decide) (by decide) na rfl) pa_nil) (by decide) (by decide)).weak fun σ H Q ⟨C, F, s, r, h⟩ => ⟨C, F, s, r, ?_⟩
  refine (Post.dat h).imp fun u F1 s1 H1 l1 r1 ⟨x, e, h1⟩ v d1 => ?_
  subst e
  obtain ⟨z, ez, h2⟩ := h1.lift
  have key : ∃ xs, (x = .list xs ∨ x = .tuple xs) ∧ uniqOk xs = true ∧ z = .list (uniqD xs) := by
    cases x with
    | list xs =>
      have ez' : (if uniqOk xs = true then some (PyData.list (uniqD xs)) else none) = some z := ez
      split at ez'
      · rename_i ok; cases ez'; exact ⟨xs, .inl rfl, ok, rfl⟩
      · cases ez'
    | tuple xs =>
      have ez' : (if uniqOk xs = true then some (PyData.list (uniqD xs)) else none) = some z := ez
      split at ez'
      · rename_i ok; cases ez'; exact ⟨xs, .inr rfl, ok, rfl⟩
      · cases ez'
    | _ => cases ez
  obtain ⟨xs, hx, ok, rfl⟩ := key
  have ok1 : setOk xs = true := by
    unfold uniqOk at ok
    rw [Bool.and_eq_true] at ok
    exact ok.1
  show rSetA X.K X.w [v] H1 (fun w H2 => rSortA X.K X.w [w] H2 Q)
  refine set_reads hx ok1 r1 d1 fun p o hp hs r2 => ⟨p, o, xs, DnN X.K F1, rfl, upd_same, hs, DnN.dp r2.le, fun i => ⟨.int i, rfl⟩, ok, fun a ys ha hp => ?_⟩
  obtain ⟨F', lF, r', d'⟩ := r2.lst ha (paired_dn (paired_fst hp))
  exact h2 F' _ lF r' _ d'
theorem sx_lenset {a : T} {p2 pos2 : Pos} (hc : X.calm = true) (hu : X.A.units + 65 < cLine) (hB : BltOk X.mg) (hg : Gl X "len") (hg2 : Gl X "set") (ha : PE X e (tX X.K X.mg W a)) (na : starEach [e] X.env = [(false, eval e X.env)]) :
    PE X (.Call (.Name "len" p) [.Call (.Name "set" p2) [e] [] pos2] [] pos) (tX X.K X.mg W (.lenset a)) := by
  refine (pe_callB cr_lenA hg (hB _ (by decide +kernel)) bi_len (pa_cons (pe_callTy (cr_setA hc (by omega)) hg2 (hB _ (by decide +kernel)) bi_set (pa_cons ha pa_nil na) (by decide) (by decide) na rfl) pa_nil) (by decide) (by decide)).weak fun σ H Q ⟨C, F, s, r, h⟩ => ⟨C, F, s, r, ?_⟩
  refine (Post.dat h).imp fun u F1 s1 H1 l1 r1 ⟨x, e, h1⟩ v d1 => ?_
  subst e
  obtain ⟨z, ez, h2⟩ := h1.lift
  have key : ∃ xs, (x = .list xs ∨ x = .tuple xs) ∧ setOk xs = true ∧ z = .int (uniqD xs).length := by
    cases x with
    | list xs =>
      have ez' : (if setOk xs = true then some (PyData.int (uniqD xs).length) else none) = some z := ez
      split at ez'
      · rename_i ok; cases ez'; exact ⟨xs, .inl rfl, ok, rfl⟩
      · cases ez'
    | tuple xs =>
      have ez' : (if setOk xs = true then some (PyData.int (uniqD xs).length) else none) = some z := ez
      split at ez'
      · rename_i ok; cases ez'; exact ⟨xs, .inr rfl, ok, rfl⟩
      · cases ez'
    | _ => cases ez
  obtain ⟨xs, hx, ok, rfl⟩ := key
  show rSetA X.K X.w [v] H1 (fun w H2 => rLenA X.K X.w [w] H2 Q)
  exact set_reads hx ok r1 d1 fun p o hp hs r2 => ⟨p, o, xs, DnN X.K F1, rfl, upd_same, hs, DnN.dp r2.le, h2 F1 _ (Le.refl _) r2 _ (.int _)⟩
theorem sx_tupF (hB : BltOk X.mg) (hg : Gl X "tuple") (ha : PA X (e :: es) (tXA X.K X.mg W l)) (he : starEach (e :: es) X.env = (false, eval e X.env) :: starEach es X.env) (hpl : (backTo pos (starEach es X.env)).any (·.1) = false) :
    PE X (.Call (.Name "tuple" p) (e :: es) [] pos) (tX X.K X.mg W (.blt .tuple l)) := by
  refine sx_bltR (f := .tuple) (t := tXA X.K X.mg W l) (pe_callTy call_tuple_of hg (hB _ (by decide +kernel)) bi_tuple ha (by decide) (by decide) he hpl) fun C F s σ H vs xs z Q ez r d q => ?_
  cases xs with
  | nil => cases ez
  | cons x xs =>
    cases xs with
    | cons y ys => cases x <;> cases ez
    | nil =>
      obtain ⟨v, rfl, dv⟩ := dn1 d
      cases x with
      | tuple ds =>
        cases ez
        cases dv with
        | tup h1 h0 h2 => exact ⟨_, _, rfl, .inr ⟨h1.mono r.le, q F H (Le.refl _) r _ (.tup h1 h0 h2)⟩⟩
      | list ds =>
        cases ez
        cases dv with
        | lst h1 h2 =>
          refine ⟨_, _, rfl, .inl ⟨.of (r.le _ _ h1), fun p hp => ?_⟩⟩
          obtain ⟨F', lF, r', d'⟩ := r.tup hp h2
          exact q F' _ lF r' _ d'
      | _ => cases ez
theorem sx_lstF (hB : BltOk X.mg) (hg : Gl X "list") (ha : PA X (e :: es) (tXA X.K X.mg W l)) (he : starEach (e :: es) X.env = (false, eval e X.env) :: starEach es X.env) (hpl : (backTo pos (starEach es X.env)).any (·.1) = false) :
    PE X (.Call (.Name "list" p) (e :: es) [] pos) (tX X.K X.mg W (.blt .list l)) := by
  refine sx_bltR (f := .list) (t := tXA X.K X.mg W l) (pe_callTy call_list_of hg (hB _ (by decide +kernel)) bi_list ha (by decide) (by decide) he hpl) fun C F s σ H vs xs z Q ez r d q => ?_
  cases xs with
  | nil => cases ez
  | cons x xs =>
    cases xs with
    | cons y ys => cases x <;> cases ez
    | nil =>
      obtain ⟨v, rfl, dv⟩ := dn1 d
      cases x with
      | tuple ds =>
        cases ez
        cases dv with
        | tup h1 h0 h2 =>
          refine ⟨_, _, rfl, .inr (h1.mono r.le), fun p hp => ?_⟩
          obtain ⟨F', lF, r', d'⟩ := r.lst hp h2
          exact q F' _ lF r' _ d'
      | list ds =>
        cases ez
        cases dv with
        | lst h1 h2 =>
          refine ⟨_, _, rfl, .inl (.of (r.le _ _ h1)), fun p hp => ?_⟩
          obtain ⟨F', lF, r', d'⟩ := r.lst hp h2
          exact q F' _ lF r' _ d'
      | _ => cases ez
theorem sx_all (hc : X.calm = true) (hB : BltOk X.mg) (hg : Gl X "all") (ha : PA X (e :: es) (tXA X.K X.mg W l)) (he : starEach (e :: es) X.env = (false, eval e X.env) :: starEach es X.env) (hpl : (backTo pos (starEach es X.env)).any (·.1) = false) :
    PE X (.Call (.Name "all" p) (e :: es) [] pos) (tX X.K X.mg W (.blt .all l)) := by
  refine sx_bltR (f := .all) (t := tXA X.K X.mg W l) (pe_callB (cr_all hc) hg (hB _ (by decide +kernel)) bi_all ha (by decide) (by decide) he hpl) fun C F s σ H vs xs z Q ez r d q => ?_
  cases xs with
  | nil => cases ez
  | cons x xs =>
    cases xs with
    | cons y ys => cases x <;> cases ez
    | nil =>
      obtain ⟨v, rfl, dv⟩ := dn1 d
      cases x with
      | list ds =>
        have ez' : (allB ds).map PyData.bool = some z := ez
        cases q2 : allB ds with
        | none => rw [q2] at ez'; cases ez'
        | some b =>
          rw [q2] at ez'
          cases ez'
          cases dv with
          | lst h1 h2 =>
            obtain ⟨bs, e1, e2⟩ := allB_dn h2 q2
            subst e1
            refine ⟨_, bs, rfl, .of (r.le _ _ h1), ?_⟩
            rw [e2]
            exact q F H (Le.refl _) r _ (.bl _)
      | _ => cases ez
/-- isinstance(x, T) -/
theorem sx_isi (f : BF) (hf : f.isI = true) {a : T} {p2 : Pos} {cn : Str} (hB : BltOk X.mg) (hg : Gl X "isinstance") (hgc : Gl X cn) (hn : X.mg cn = none) (hcn : bootBuiltins cn = some (.type f.cls)) (hne : cn ≠ "__name__") (hdb : (cn == ("__debug__" : Str)) = false)
    (ha : PE X e (tX X.K X.mg W a)) (hs : starEach [e, .Name cn p2] X.env = (false, eval e X.env) :: starEach [.Name cn p2] X.env) (hpl : (backTo pos (starEach [.Name cn p2] X.env)).any (·.1) = false) :
    PE X (.Call (.Name "isinstance" p) [e, .Name cn p2] [] pos) (tX X.K X.mg W (.isi f a)) := by
  have hA : PA X [e, .Name cn p2] (tCons (tX X.K X.mg W a) (tCons (tC (.ty f.cls)) tNil)) := pa_cons ha (pa_cons (pe_bltn hgc hn hcn rfl hne hdb) pa_nil) hs
  refine (pe_callB call_isi hg (hB _ (by decide +kernel)) bi_isinstance hA (by decide) (by decide) hs hpl).weak fun σ H Q ⟨C, F, s, r, h⟩ => ⟨C, F, s, r, ?_⟩
  refine (Post.dat h).imp fun u F1 s1 H1 l1 r1 ⟨x, e, h1⟩ v d1 => ?_
  subst e
  obtain ⟨b, eb, h2⟩ := h1.liftB
  exact ⟨v, .ty f.cls, _, _, b, rfl, .ty _, tyX_dn r1.le d1 (fun kvs z => by subst z; cases eb), kit_all f hf x eb, h2.fin r1 (.bl b)⟩
/-- len(script) -/
theorem sx_lenS {i : Nat} {x : Str} {p2 : Pos} (hB : BltOk X.mg) (hg : Gl X "len") (hN : X.N[i]? = some x) (hv : Vis X.env.scope x) (hd : (x == ("__debug__" : Str)) = false) (hcd : (x == ("__classdict__" : Str)) = false) :
    PE X (.Call (.Name "len" p) [.Name x p2] [] pos) (tX X.K X.mg W (.lenS i)) := by
  refine (pe_callB call_len_seq hg (hB _ (by decide +kernel)) bi_len (pa_cons (pe_var hN hv hd hcd) pa_nil)).weak fun σ H Q ⟨C, F, s, r, h⟩ => ?_
  have h' : Post X.K X.mg W C F σ (match s.rho[i]? with
    | some (.val (.scr ns)) => .ok (.d (.int ns.length)) s
    | _ => .stuck) (fun u F' _ H' => ∀ v, DenU X.K C.b F' u v → Q v H') := h
  split at h'
  · rename_i ns e
    obtain ⟨v, h1, a, h2, h3⟩ := r.val i _ e
    subst h2
    refine ⟨_, h1, a, _, rfl, .inl (h3.mono r.le), ?_⟩
    rw [List.length_map]
    exact h'.fin r (.int _)
  · exact h'.elim
end
end RD
set_option Elab.async false
set_option linter.all false
set_option maxRecDepth 100000
/-! RdG: walks, targets, comprehensions. -/
namespace RD
open PySem L2
section
variable {X : Cx} {W : WX} {e : Expr} {es : List Expr} {a b l : T} {p pos : Pos} {tg : Expr}
/-! ### what is walked -/
theorem si_l (ha : PE X e (tX X.K X.mg W a)) : PI X tg e (tXI X.K X.mg W (.itl a)) := by
  refine (pi_list ha).weak fun σ H R ⟨C, F, s, r, h⟩ => ⟨C, F, s, r, ?_⟩
  refine (Post.dat h).imp fun u F1 s1 H1 l1 r1 ⟨x, e, h1⟩ v d1 => ?_
  subst e
  cases x with
  | list ds =>
    cases d1 with
    | lst q1 q2 =>
      rename_i ad vs
      refine ⟨ad, rfl, ⟨vs, .of (r1.le _ _ q1)⟩, h1.here r1 _ fun i H2 le => ⟨fun d hd => ?_, fun hi => ?_⟩⟩
      · obtain ⟨v, e1, e2⟩ := q2.get hd
        exact ⟨⟨vs, v, .of (le _ _ q1), e1⟩, fun x H' ⟨eH, hx⟩ => .inl ⟨eH, by
          have := hx vs (.of (le _ _ q1))
          rw [e1] at this
          cases this
          exact e2⟩⟩
      · exact ⟨vs, .of (le _ _ q1), by rw [q2.length]; exact hi⟩
  | _ => exact h1.elim
theorem si_t (ha : PE X e (tX X.K X.mg W a)) : PI X tg e (tXI X.K X.mg W (.itt a)) := by
  refine (pi_tup ha).weak fun σ H R ⟨C, F, s, r, h⟩ => ⟨C, F, s, r, ?_⟩
  refine (Post.dat h).imp fun u F1 s1 H1 l1 r1 ⟨x, e, h1⟩ v d1 => ?_
  subst e
  cases x with
  | tuple ds =>
    cases d1 with
    | tup q1 q0 q2 =>
      rename_i ad vs
      refine ⟨ad, rfl, ⟨vs, q1.mono r1.le⟩, h1.here r1 _ fun i H2 le => ⟨fun d hd => ?_, fun hi => ?_⟩⟩
      · obtain ⟨v, e1, e2⟩ := q2.get hd
        exact ⟨⟨vs, v, q1.mono le, e1⟩, fun x H' ⟨eH, hx⟩ => .inl ⟨eH, by
          have := hx vs (q1.mono le)
          rw [e1] at this
          cases this
          exact e2⟩⟩
      · exact ⟨vs, q1.mono le, by rw [q2.length]; exact hi⟩
  | _ => exact h1.elim
theorem walk_range {K : PySem.W.Frag} {F : Hp} (lo : Int) (n : Nat) : Walk K F (Itr lo n) (rangeD lo n) := fun i H le => by
  have hl : (rangeD lo n).length = n := by simp [rangeD]
  refine ⟨fun d hd => ?_, fun hi => by rw [hl] at hi; exact hi⟩
  have hi : i < n := by
    have := (List.getElem?_eq_some_iff.mp hd).1
    rw [hl] at this
    exact this
  have e : d = .int (lo + i) := by
    unfold rangeD at hd
    rw [List.getElem?_map, List.getElem?_range hi] at hd
    exact (Option.some.inj hd).symm
  subst e
  exact ⟨hi, fun x H' ⟨e1, e2⟩ => .inl ⟨e1, by rw [e2]; exact .int _⟩⟩
theorem si_r1 (hB : BltOk X.mg) (hg : Gl X "range") (ha : PE X e (tX X.K X.mg W a)) (hs : starEach [e] X.env = [(false, eval e X.env)]) : PI X tg (.Call (.Name "range" p) [e] [] pos) (tXI X.K X.mg W (.itr1 a)) := by
  refine (pi_range1 hg (hB _ (by decide +kernel)) (pa_cons ha pa_nil hs) hs).weak fun σ H R ⟨C, F, s, r, h⟩ => ⟨C, F, s, r, ?_⟩
  refine (Post.dat h).imp fun u F1 s1 H1 l1 r1 ⟨x, e, h1⟩ v d1 => ?_
  subst e
  cases x with
  | int j =>
    dsimp only at h1
    split at h1
    · rename_i hj
      cases d1
      exact ⟨j, rfl, by omega, by omega, h1.here r1 _ (walk_range 0 j.toNat)⟩
    · exact h1.elim
  | _ => exact h1.elim
theorem si_r2 {e2 : Expr} (hB : BltOk X.mg) (hg : Gl X "range") (ha : PE X e (tX X.K X.mg W a)) (hb : PE X e2 (tX X.K X.mg W b)) (hs : starEach [e, e2] X.env = [(false, eval e X.env), (false, eval e2 X.env)]) (hs2 : starEach [e2] X.env = [(false, eval e2 X.env)]) :
    PI X tg (.Call (.Name "range" p) [e, e2] [] pos) (tXI X.K X.mg W (.itr2 a b)) := by
  refine (pi_range2 hg (hB _ (by decide +kernel)) (pa_cons ha (pa_cons hb pa_nil hs2) (by rw [hs, hs2])) hs hs2).weak fun σ H R ⟨C, F, s, r, h⟩ => ⟨C, F, s, r, ?_⟩
  refine (Post.dat h).imp fun u F1 s1 H1 l1 r1 ⟨x, e, h1⟩ v d1 => ⟨C, F1, s1, r1, ?_⟩
  subst e
  refine (Post.dat h1).imp fun u F2 s2 H2 l2 r2 ⟨y, e, h2⟩ w d2 => ?_
  subst e
  cases x with
  | int i =>
    cases y with
    | int j =>
      dsimp only at h2
      split at h2
      · rename_i hj
        cases d1
        cases d2
        exact ⟨i, j, rfl, by omega, h2.here r2 _ (walk_range i (j - i).toNat)⟩
      · exact h2.elim
    | _ => exact h2.elim
  | _ => cases y <;> exact h2.elim

theorem zipD_get : ∀ {xs ys : List PyData} {i : Nat} {d : PyData}, (zipD xs ys)[i]? = some d → ∃ x y, d = .tuple [x, y] ∧ xs[i]? = some x ∧ ys[i]? = some y
  | [], _, _, _, h => by simp [zipD] at h
  | _ :: _, [], _, _, h => by simp [zipD] at h
  | x :: xs, y :: ys, 0, d, h => ⟨x, y, by simpa [zipD] using h.symm, rfl, rfl⟩
  | x :: xs, y :: ys, i + 1, d, h => by
    obtain ⟨u, v, h1, h2, h3⟩ := zipD_get (xs := xs) (ys := ys) (i := i) (by simpa [zipD] using h)
    exact ⟨u, v, h1, by simpa using h2, by simpa using h3⟩
theorem zipD_len : ∀ xs ys : List PyData, (zipD xs ys).length = min xs.length ys.length
  | [], _ => by simp [zipD]
  | _ :: _, [] => by simp [zipD]
  | x :: xs, y :: ys => by
    show (zipD xs ys).length + 1 = _
    rw [zipD_len xs ys]
    simp only [List.length_cons]
    omega
theorem walk_zipL {K : PySem.W.Frag} {F : Hp} {a b : Addr} {vs ws : List V} {xs ys : List PyData} (ha : F a = some (.lst vs)) (hb : F b = some (.lst ws)) (dx : DnAll K F vs xs) (dy : DnAll K F ws ys) : Walk K F (Itz K a b) (zipD xs ys) := fun i H le => by
  have qa : SqL K H a vs := .of (le _ _ ha)
  have qb : SqL K H b ws := .of (le _ _ hb)
  refine ⟨fun d hd => ?_, fun hi => ⟨vs, ws, qa, qb, ?_⟩⟩
  · obtain ⟨x, y, rfl, hx, hy⟩ := zipD_get hd
    obtain ⟨v, v1, v2⟩ := dx.get hx
    obtain ⟨w, w1, w2⟩ := dy.get hy
    refine ⟨⟨vs, ws, v, w, qa, qb, v1, w1⟩, fun u H' ⟨T, v', w', e1, e2, e3, e4, e5⟩ => .inr (.inl ⟨T, [v', w'], [x, y], e2, e3, e1, rfl, ?_⟩)⟩
    have ev := e4 _ qa
    have ew := e5 _ qb
    rw [v1] at ev
    rw [w1] at ew
    cases ev
    cases ew
    exact .cons v2 (.cons w2 .nil)
  · rw [zipD_len] at hi
    rw [dx.length, dy.length]
    omega
theorem walk_zipT {K : PySem.W.Frag} {F : Hp} {a b : Addr} {vs ws : List V} {xs ys : List PyData} (ha : SqT K F a vs) (hb : SqT K F b ws) (dx : DnAll K F vs xs) (dy : DnAll K F ws ys) : Walk K F (RZ.ItzT K a b) (zipD xs ys) := fun i H le => by
  have qa : SqT K H a vs := ha.mono le
  have qb : SqT K H b ws := hb.mono le
  refine ⟨fun d hd => ?_, fun hi => ⟨vs, ws, qa, qb, ?_⟩⟩
  · obtain ⟨x, y, rfl, hx, hy⟩ := zipD_get hd
    obtain ⟨v, v1, v2⟩ := dx.get hx
    obtain ⟨w, w1, w2⟩ := dy.get hy
    refine ⟨⟨vs, ws, v, w, qa, qb, v1, w1⟩, fun u H' ⟨T, v', w', e1, e2, e3, e4, e5⟩ => .inr (.inl ⟨T, [v', w'], [x, y], e2, e3, e1, rfl, ?_⟩)⟩
    have ev := e4 _ qa
    have ew := e5 _ qb
    rw [v1] at ev
    rw [w1] at ew
    cases ev
    cases ew
    exact .cons v2 (.cons w2 .nil)
  · rw [zipD_len] at hi
    rw [dx.length, dy.length]
    omega
theorem undctL_of : ∀ (kvs : List (List Key × PyData)), undctL (kvs.map fun p => (keyD p.1, p.2)) = some kvs
  | [] => rfl
  | (k, x) :: r => by
    show ((keysOf (k.map keyD1)).bind fun k => (undctL (r.map fun p => (keyD p.1, p.2))).map ((k, x) :: ·)) = _
    rw [undctL_of r, keysOf_map k]
    rfl
theorem undct_of (kvs : List (List Key × PyData)) : undct (dctD kvs) = some kvs := undctL_of kvs
/-- data that are a dict stand so -/
theorem undct_dn {K : PySem.W.Frag} {F : Hp} {v : V} {x : PyData} {kvs : List (List Key × PyData)} (d : Dn K F v x) (e : undct x = some kvs) :
    ∃ (a : Addr) (od : Obj) (es : List (List Key × V)), v = .ref a ∧ F a = some (.frz od (.dT es)) ∧ es.map (·.1) = kvs.map (·.1) ∧ DnAll K F (es.map (·.2)) (kvs.map (·.2)) := by
  cases d with
  | fn q => cases e
  | dct q1 q0 q2 =>
    rename_i a od es kvs'
    rw [undct_of] at e
    cases e
    exact ⟨a, od, es, rfl, q1, q0, q2⟩
  | _ => cases e
theorem keyD_dn {K : PySem.W.Frag} {F : Hp} : ∀ k : List Key, DnAll K F (k.map kV) (k.map keyD1)
  | [] => .nil
  | .inl i :: k => .cons (.int i) (keyD_dn k)
  | .inr x :: k => .cons (.str x) (keyD_dn k)
theorem walk_keys {K : PySem.W.Frag} {F : Hp} {a : Addr} {od : Obj} {es : List (List Key × V)} {kvs : List (List Key × PyData)} (ha : F a = some (.frz od (.dT es))) (hk : es.map (·.1) = kvs.map (·.1)) : Walk K F (Itkt a od es) (kvs.map fun p => keyD p.1) := fun i H le => by
  have hl : es.length = kvs.length := by simpa using congrArg List.length hk
  refine ⟨fun d hd => ?_, fun hi => ⟨le _ _ ha, ?_⟩⟩
  · have hi : i < kvs.length := by simpa using (List.getElem?_eq_some_iff.mp hd).1
    refine ⟨⟨le _ _ ha, by omega⟩, fun x H' ⟨eH, k, v, q, hkv, ex, hq⟩ => .inr (.inr ⟨q, _, _, eH, hq, ex, ?_, keyD_dn k⟩)⟩
    have h1 : (es.map (·.1))[i]? = some k := by rw [List.getElem?_map, hkv]; rfl
    rw [hk, List.getElem?_map] at h1
    rw [List.getElem?_map] at hd
    cases hq2 : kvs[i]? with
    | none => rw [hq2] at h1; cases h1
    | some p =>
      rw [hq2] at h1 hd
      have h1' : p.1 = k := by simpa using h1
      have hd' : keyD p.1 = d := by simpa using hd
      rw [← hd', h1']
      rfl
  · rw [List.length_map] at hi
    omega
theorem si_d (ha : PE X e (tX X.K X.mg W a)) : PI X tg e (tXI X.K X.mg W (.itd a)) := by
  refine (pi_keys ha).weak fun σ H R ⟨C, F, s, r, h⟩ => ⟨C, F, s, r, ?_⟩
  refine (Post.dat h).imp fun u F1 s1 H1 l1 r1 ⟨x, e, h1⟩ v d1 => ?_
  subst e
  cases hx : undct x with
  | none => rw [hx] at h1; exact h1.elim
  | some kvs =>
    rw [hx] at h1
    obtain ⟨ad, od, es, rfl, q1, q0, q2⟩ := undct_dn d1 hx
    exact ⟨ad, od, rfl, .inr ⟨es, r1.le _ _ q1, h1.here r1 _ (walk_keys q1 q0)⟩⟩
theorem si_z {e2 : Expr} {elts : List Expr} {kk : Nat} {tpos : Pos} (hB : BltOk X.mg) (hg : Gl X "zip") (ha : PE X e (tX X.K X.mg W a)) (hb : PE X e2 (tX X.K X.mg W b)) (hs : starEach [e, e2] X.env = [(false, eval e X.env), (false, eval e2 X.env)]) (hs2 : starEach [e2] X.env = [(false, eval e2 X.env)]) :
    PI X (.Tuple elts kk tpos) (.Call (.Name "zip" p) [e, e2] [] pos) (tXI X.K X.mg W (.itz a b)) := by
  refine (RZ.pi_zipA hg (hB _ (by decide +kernel)) (pa_cons ha (pa_cons hb pa_nil hs2) (by rw [hs, hs2])) (by rw [hs, hs2]) (by rw [hs2]; rfl)).weak fun σ H R ⟨C, F, s, r, h⟩ => ⟨C, F, s, r, ?_⟩
  refine (Post.dat h).imp fun u F1 s1 H1 l1 r1 ⟨x, e, h1⟩ v d1 => ⟨C, F1, s1, r1, ?_⟩
  subst e
  refine (Post.dat h1).imp fun u F2 s2 H2 l2 r2 ⟨y, e, h2⟩ w d2 => ?_
  subst e
  have d1' := Dn.mono l2 _ _ d1
  cases x with
  | list xs =>
    cases y with
    | list ys =>
      cases d1' with
      | lst p1 p2 =>
        cases d2 with
        | lst q1 q2 => exact ⟨_, _, _, _, rfl, .inl ⟨.of (r2.le _ _ p1), .of (r2.le _ _ q1), h2.here r2 _ (walk_zipL p1 q1 p2 q2)⟩⟩
    | _ => exact h2.elim
  | tuple xs =>
    cases y with
    | tuple ys =>
      cases d1' with
      | tup p1 _ p2 =>
        cases d2 with
        | tup q1 _ q2 => exact ⟨_, _, _, _, rfl, .inr ⟨p1.mono r2.le, q1.mono r2.le, h2.here r2 _ (walk_zipT p1 q1 p2 q2)⟩⟩
    | _ => exact h2.elim
  | _ => cases y <;> exact h2.elim

/-! ### targets -/
theorem sg_name {i : Nat} {x : Str} (hN : X.N.Nodup) (hi : X.N[i]? = some x) (hx : Loc X.env.scope x) (hf : X.fn x = true ∨ X.env.scope.names.lookup x = some .local) : PG X (.Name x p) (tXG X.K (.tname i)) := by
  refine (pg_name hN hi hx hf).weak fun v σ H Q ⟨C, F, s, x, r, d, s', e, h⟩ => ?_
  cases e
  refine h _ (fun j hj => ?_) (by simp) (r.setD i d)
  rw [List.getElem?_set_ne (fun z => hj (by simp [slotsT, z]))]
theorem sgs_nil : PGs X [] (tXGs X.K .anil) := pgs_nil.weak fun vs σ H Q ⟨C, F, s, xs, r, d, s', e, h⟩ => by
  cases d with
  | nil =>
    cases e
    exact ⟨rfl, h σ (fun _ _ => rfl) rfl r⟩
  | cons _ _ => cases e
theorem sgs_cons (h1 : PG X e (tXG X.K a)) (h2 : PGs X es (tXGs X.K l)) (hs : (assignEach (e :: es) X.env).map (·.2) = assign e X.env :: (assignEach es X.env).map (·.2)) : PGs X (e :: es) (tXGs X.K (.acons a l)) := by
  refine (pgs_cons h1 h2 hs).weak fun vs σ H Q ⟨C, F, s, xs, r, d, s', e, h⟩ => ?_
  cases d with
  | nil => cases e
  | @cons v vs x xs d1 d2 =>
    have e' : ((asgT a x s).bind fun s => asgT.asgTs l xs s) = some s' := e
    cases q : asgT a x s with
    | some s1 =>
      rw [q] at e'
      refine ⟨v, vs, rfl, C, F, s, x, r, d1, s1, q, fun σ1 hσ hl r1 => ⟨C, F, s1, xs, r1, d2, s', e', fun σ2 hσ2 hl2 r2 => h σ2 (fun i hi => ?_) (hl2.trans hl) r2⟩⟩
      have hi' : i ∉ slotsT a ∧ i ∉ slotsT l := by
        have : i ∉ slotsT a ++ slotsT l := hi
        rw [List.mem_append] at this
        exact ⟨fun z => this (.inl z), fun z => this (.inr z)⟩
      rw [hσ2 i hi'.2, hσ i hi'.1]
    | none => rw [q] at e'; cases e'
theorem sg_tup {k n : Nat} (hc : X.calm = true) (h : PGs X es (tXGs X.K l)) (hn : (assignEach es X.env).length = n) (hst : (assignEach es X.env).findIdx? (·.1) = none) (hlen : ∀ xs s s', asgT.asgTs l xs s = some s' → xs.length = n) : PG X (.Tuple es k p) (tXG X.K (.ttup l)) := by
  refine (pg_tup hc h hn hst).weak fun v σ H Q ⟨C, F, s, x, r, d, s', e, h⟩ => ?_
  cases x with
  | tuple ds =>
    have e' : asgT.asgTs l ds s = some s' := e
    cases d with
    | @tup ad vs _ q1 q0 q2 =>
      exact ⟨ad, vs, rfl, q1.mono r.le, by rw [q2.length]; exact hlen _ _ _ e', C, F, s, ds, r, q2, s', e', h⟩
  | _ => cases e
/-- a target's length -/
def lenT : T → Nat
  | .acons _ r => lenT r + 1
  | _ => 0
theorem asgTs_len : ∀ (l : T) (xs : List PyData) (s s' : S), asgT.asgTs l xs s = some s' → xs.length = lenT l := by
  intro l
  induction l with
  | anil =>
    intro xs s s' e
    cases xs with
    | nil => rfl
    | cons _ _ => cases e
  | acons a r _ ih =>
    intro xs s s' e
    cases xs with
    | nil => cases e
    | cons x xs =>
      have e' : ((asgT a x s).bind fun s => asgT.asgTs r xs s) = some s' := e
      cases q : asgT a x s with
      | some s1 =>
        rw [q] at e'
        have := ih xs s1 s' e'
        show xs.length + 1 = lenT r + 1
        rw [this]
      | none => rw [q] at e'; cases e'
  | _ => intro xs s s' e; cases xs <;> cases e
end
/-! ### comprehensions -/
theorem wipeS_len (r : List Slot) : ∀ vs : List Nat, (wipeS r vs).length = r.length
  | [] => rfl
  | v :: vs => by unfold wipeS; rw [List.length_set, wipeS_len r vs]
theorem wipeS_get {r : List Slot} {i : Nat} {w : Slot} (hw : w ≠ .un) : ∀ {vs : List Nat}, (wipeS r vs)[i]? = some w → r[i]? = some w ∧ i ∉ vs
  | [], h => ⟨h, by simp⟩
  | v :: vs, h => by
    unfold wipeS at h
    by_cases hi : v = i
    · subst hi
      have hv : v < (wipeS r vs).length := by
        have := (List.getElem?_eq_some_iff.mp h).1
        simpa using this
      rw [List.getElem?_set_self hv] at h
      cases h
      exact absurd rfl hw
    · rw [List.getElem?_set_ne hi] at h
      obtain ⟨h1, h2⟩ := wipeS_get hw h
      exact ⟨h1, by simp only [List.mem_cons, not_or]; exact ⟨fun e => hi e.symm, h2⟩⟩
theorem wipe_not {σ : L2.St} {i : Nat} : ∀ {vs : List Nat}, i ∉ vs → (wipe σ vs)[i]? = σ[i]?
  | [], _ => rfl
  | v :: vs, h => by
    simp only [List.mem_cons, not_or] at h
    unfold wipe
    rw [List.getElem?_set_ne (Ne.symm h.1)]
    exact wipe_not h.2
theorem wipe_in {σ : L2.St} {i : Nat} (hi : i < σ.length) : ∀ {vs : List Nat}, i ∈ vs → (wipe σ vs)[i]? = some none
  | v :: vs, h => by
    unfold wipe
    by_cases hv : v = i
    · subst hv
      rw [List.getElem?_set_self (by rw [wipe_length]; exact hi)]
    · rw [List.getElem?_set_ne hv]
      exact wipe_in hi ((List.mem_cons.mp h).resolve_left fun e => hv e.symm)
theorem wipe_ext {σ τ : L2.St} {vs : List Nat} (hl : τ.length = σ.length) (h : ∀ i, i ∉ vs → τ[i]? = σ[i]?) : wipe τ vs = wipe σ vs := by
  refine List.ext_getElem? fun i => ?_
  by_cases hi : i ∈ vs
  · by_cases hlt : i < σ.length
    · rw [wipe_in hlt hi, wipe_in (by rw [hl]; exact hlt) hi]
    · rw [List.getElem?_eq_none (by rw [wipe_length]; omega), List.getElem?_eq_none (by rw [wipe_length]; omega)]
  · rw [wipe_not hi, wipe_not hi, h i hi]
section
variable {K : PySem.W.Frag} {C : Ct} {F : Hp} {s : S} {σ : L2.St} {H : Hp}
/-- slots forgotten; where they are, the slots themselves may be any -/
theorem Rel.wiped (r : Rel K C F s σ H) (vs : List Nat) {τ : L2.St} (hl : τ.length = σ.length) (h : ∀ i, i ∉ vs → τ[i]? = σ[i]?) : Rel K C F ⟨wipeS s.rho vs, s.bag⟩ τ H := by
  refine ⟨r.le, r.ge, r.new, r.keep, r.hbag, r.bag, by rw [hl, r.len]; exact (wipeS_len _ _).symm, fun i u e => ?_, fun i ds e => ?_, fun i j ds es p e1 e2 q1 q2 => ?_⟩
  · obtain ⟨e', hi⟩ := wipeS_get (by intro z; cases z) e
    rw [h i hi]
    exact r.val i u e'
  · obtain ⟨e', hi⟩ := wipeS_get (by intro z; cases z) e
    rw [h i hi]
    exact r.own i ds e'
  · obtain ⟨e1', hi⟩ := wipeS_get (by intro z; cases z) e1
    obtain ⟨e2', hj⟩ := wipeS_get (by intro z; cases z) e2
    rw [h i hi] at q1
    rw [h j hj] at q2
    exact r.apart i j ds es p e1' e2' q1 q2
/-- beside it stands a new list at D -/
abbrev Ct.at (C : Ct) (D : Addr) (xs : List V) : Ct := { C with H0 := upd C.H0 D (.lst xs) }
theorem Rel.toAt (r : Rel K C F s σ H) {D : Addr} (hD : H D = none) (xs : List V) : Rel K (C.at D xs) F s σ (upd H D (.lst xs)) := by
  have hF := r.freeF hD
  have h0 := r.fresh0 hD
  have r1 := r.lay (.lst xs) hD
  refine ⟨r1.le, r1.ge, fun a o e n => ?_, fun a o e n => ?_, r1.hbag, r1.bag, r1.len, r1.val, fun i ds e => ?_, r1.apart⟩
  · rcases r1.new a o e n with q | q
    · exact .inl q
    · refine .inr ?_
      show upd C.H0 D (.lst xs) a = none
      rw [upd_ne]
      · exact q
      · intro z
        subst z
        rw [hF] at e
        cases e
  · have e' : upd C.H0 D (.lst xs) a = some o := e
    by_cases hp : a = D
    · subst hp
      rw [upd_same] at e' ⊢
      exact e'
    · rw [upd_ne hp] at e'
      exact r1.keep a o e' n
  · obtain ⟨p, vs, h1, h2, h3, h4, h5⟩ := r.own i ds e
    have hp : p ≠ D := by
      intro z
      subst z
      rw [hD] at h2
      cases h2
    exact ⟨p, vs, h1, by rw [upd_ne hp]; exact h2, h3, by show upd C.H0 D (.lst xs) p = none; rw [upd_ne hp]; exact h4, h5⟩
theorem Rel.atD {D : Addr} {xs : List V} (r : Rel K (C.at D xs) F s σ H) (hb : C.hb = false ∨ D ≠ C.b) : H D = some (.lst xs) := r.keep D _ upd_same hb
/-- the list at D grows -/
theorem Rel.grow {D : Addr} {xs ys : List V} (r : Rel K (C.at D xs) F s σ H) (h0 : C.F0 D = none) (hbD : C.hb = false ∨ D ≠ C.b) : Rel K (C.at D ys) F s σ (upd H D (.lst ys)) := by
  have hF : F D = none := by
    cases e : F D with
    | none => rfl
    | some o =>
      rcases r.new D o e (fun xs z => by have h7 := r.le D o e; rw [r.atD hbD, z] at h7; cases h7) with q | q
      · rw [h0] at q; cases q
      · have q' : upd C.H0 D (.lst xs) D = none := q
        rw [upd_same] at q'
        cases q'
  have own0 : ∀ {i : Nat} {ds : Own}, s.rho[i]? = some (.ow ds) → ∃ p vs, σ[i]? = some (some (.ref p)) ∧ H p = some vs ∧ F p = none ∧ C.H0 p = none ∧ p ≠ D ∧ (C.hb = false ∨ p ≠ C.b) ∧ OwnIs K F ds vs := fun {i ds} e => by
    obtain ⟨p, vs, h1, h2, h3, h4, h5, h6⟩ := r.own i ds e
    have h4' : upd C.H0 D (.lst xs) p = none := h4
    have hp : p ≠ D := by
      intro z
      subst z
      rw [upd_same] at h4'
      cases h4'
    rw [upd_ne hp] at h4'
    exact ⟨p, vs, h1, h2, h3, h4', hp, h5, h6⟩
  refine ⟨fun a o e => ?_, r.ge, fun a o e n => ?_, fun a o e n => ?_, r.hbag, fun x y e => ?_, r.len, r.val, fun i ds e => ?_, r.apart⟩
  · have hp : a ≠ D := by
      intro z
      subst z
      rw [hF] at e
      cases e
    rw [upd_ne hp]
    exact r.le a o e
  · have hp : a ≠ D := by
      intro z
      subst z
      rw [hF] at e
      cases e
    rcases r.new a o e n with q | q
    · exact .inl q
    · have q' : upd C.H0 D (.lst xs) a = none := q
      rw [upd_ne hp] at q'
      exact .inr (by show upd C.H0 D (.lst ys) a = none; rw [upd_ne hp]; exact q')
  · have e' : upd C.H0 D (.lst ys) a = some o := e
    by_cases hp : a = D
    · subst hp
      rw [upd_same] at e' ⊢
      exact e'
    · rw [upd_ne hp] at e'
      rw [upd_ne hp]
      exact r.keep a o (by show upd C.H0 D (.lst xs) a = some o; rw [upd_ne hp]; exact e') n
  · obtain ⟨h1, h2⟩ := r.bag x y e
    have hp : C.b ≠ D := by
      intro z
      have h1' : H C.b = some (.lst [.int x, .int y]) := h1
      rcases hbD with q | q
      · have h3 := r.hbag
        rw [e] at h3
        have h3' : true = C.hb := h3
        rw [q] at h3'
        cases h3'
      · exact q z.symm
    exact ⟨by rw [upd_ne hp]; exact h1, h2⟩
  · obtain ⟨p, vs, h1, h2, h3, h4, hp, h5, h6⟩ := own0 e
    exact ⟨p, vs, h1, by rw [upd_ne hp]; exact h2, h3, by show upd C.H0 D (.lst ys) p = none; rw [upd_ne hp]; exact h4, h5, h6⟩
end
end RD
set_option Elab.async false
set_option linter.all false
set_option maxRecDepth 100000
/-! RdH: comprehensions. -/
namespace RD
open PySem L2
section
variable {K : PySem.W.Frag} {C : Ct} {F : Hp} {s : S} {σ : L2.St} {H : Hp}
/-- the list at D is one of the frozen things now -/
theorem Rel.off {D : Addr} {xs : List V} (r : Rel K (C.at D xs) F s σ H) (h0 : C.H0 D = none) (hF0 : C.F0 D = none) (hbD : C.hb = false ∨ D ≠ C.b) : F D = none ∧ H D = some (.lst xs) ∧ Rel K C (upd F D (.lst xs)) s σ H := by
  have hF : F D = none := by
    cases e : F D with
    | none => rfl
    | some o =>
      rcases r.new D o e (fun xs z => by have h7 := r.le D o e; rw [r.atD hbD, z] at h7; cases h7) with q | q
      · rw [hF0] at q; cases q
      · have q' : upd C.H0 D (.lst xs) D = none := q
        rw [upd_same] at q'
        cases q'
  have hH := r.atD hbD
  refine ⟨hF, hH, ⟨fun a o e => ?_, r.ge.trans (Le.upd _ hF), fun a o e n => ?_, fun a o e n => ?_, r.hbag, fun x y e => ?_, r.len, fun i u e => ?_, fun i ds e => ?_, r.apart⟩⟩
  · by_cases hp : a = D
    · subst hp
      rw [upd_same] at e
      cases e
      exact hH
    · rw [upd_ne hp] at e
      exact r.le a o e
  · by_cases hp : a = D
    · subst hp
      exact .inr h0
    · rw [upd_ne hp] at e
      rcases r.new a o e n with q | q
      · exact .inl q
      · have q' : upd C.H0 D (.lst xs) a = none := q
        rw [upd_ne hp] at q'
        exact .inr q'
  · have hp : a ≠ D := by
      intro z
      subst z
      rw [h0] at e
      cases e
    exact r.keep a o (by show upd C.H0 D (.lst xs) a = some o; rw [upd_ne hp]; exact e) n
  · obtain ⟨h1, h2⟩ := r.bag x y e
    refine ⟨h1, ?_⟩
    rw [upd_ne]
    · exact h2
    · intro z
      rcases hbD with q | q
      · have h3 := r.hbag
        rw [e] at h3
        have h3' : true = C.hb := h3
        rw [q] at h3'
        cases h3'
      · exact q z.symm
  · obtain ⟨v, h1, h2⟩ := r.val i u e
    exact ⟨v, h1, h2.mono (Le.upd _ hF)⟩
  · obtain ⟨p, vs, h1, h2, h3, h4, h5, h6⟩ := r.own i ds e
    have h4' : upd C.H0 D (.lst xs) p = none := h4
    have hp : p ≠ D := by
      intro z
      subst z
      rw [upd_same] at h4'
      cases h4'
    rw [upd_ne hp] at h4'
    exact ⟨p, vs, h1, h2, by rw [upd_ne hp]; exact h3, h4', h5, h6.mono (Le.upd _ hF)⟩
end
abbrev W0 : WX := fun _ _ _ _ => False
/-- a turn of a comprehension -/
def compF (own : List Nat) (g c e : T) : PyData → S → R (Option PyData) := fun x s => (R.ofS (asgT g x ⟨wipeS s.rho own, s.bag⟩)).bind fun _ s => (ev c s).tst fun k s => if k = true then (ev e s).dat fun y s => .ok (some y) s else .ok none s
theorem ev_comp (own : List Nat) (g it c e : T) (s : S) : ev (.comp own g it c e) s = (evI it s).bind fun xs s => match compR (compF own g c e) [] xs s with
    | .ok ys s => .ok (.d (.list ys)) ⟨wipeS s.rho own, s.bag⟩
    | _ => .stuck := rfl
theorem bind_ok {α β : Type} {m : R α} {k : α → S → R β} {b : β} {s' : S} (h : m.bind k = .ok b s') : ∃ a s, m = .ok a s ∧ k a s = .ok b s' := by
  cases m with
  | ok a s => exact ⟨a, s, rfl, h⟩
  | exn c p s => cases h
  | stuck => cases h
theorem dat_ok {β : Type} {m : R U} {k : PyData → S → R β} {b : β} {s' : S} (h : m.dat k = .ok b s') : ∃ x s, m = .ok (.d x) s ∧ k x s = .ok b s' := by
  obtain ⟨u, s, h1, h2⟩ := bind_ok h
  cases u with
  | d x => exact ⟨x, s, h1, h2⟩
  | _ => cases h2
theorem tst_ok {β : Type} {m : R U} {k : Bool → S → R β} {b : β} {s' : S} (h : m.tst k = .ok b s') : ∃ x s, m = .ok (.d (.bool x)) s ∧ k x s = .ok b s' := by
  obtain ⟨u, s, h1, h2⟩ := bind_ok h
  cases u with
  | d x =>
    cases x with
    | bool b => exact ⟨b, s, h1, h2⟩
    | _ => cases h2
  | _ => cases h2
theorem ofS_ok {o : Option S} {u : Unit} {s : S} (h : R.ofS o = .ok u s) : o = some s := by
  cases o with
  | some t => cases h; rfl
  | none => cases h
theorem drop_cons {α : Type} {xs : List α} {i : Nat} {x : α} (h : xs[i]? = some x) : xs.drop i = x :: xs.drop (i + 1) := by
  obtain ⟨hi, e⟩ := List.getElem?_eq_some_iff.mp h
  rw [List.drop_eq_getElem_cons hi, e]
section
variable {K : PySem.W.Frag} {mg : Str → Option Value} {W : WX} {own : List Nat} {g it c e : T} {tt : TT}
/-- what a comprehension's rule wants follows from what it computes; fr: the list is handed on unfrozen -/
theorem comp_core (hsub : ∀ i ∈ slotsT g, i ∈ own) (htt : ∀ σ H Q, tXT K mg W0 c σ H Q → tt σ H Q) {σ : L2.St} {H : Hp} {Q : VK} {C : Ct} {F : Hp} {s : S} (r : Rel K C F s σ H)
    (h : Post K mg W C F σ (evI it s) fun xs F1 s1 H1 => ∃ zs s2, compR (compF own g c e) [] xs s1 = .ok zs s2 ∧ ∀ D acc F2 H2, H1 D = none → Le F1 F2 → F2 D = none → H2 D = some (.lst acc) → DnAll K F2 acc zs → Rel K C F2 ⟨wipeS s2.rho own, s2.bag⟩ σ H2 → C.H0 D = none → (C.hb = false ∨ D ≠ C.b) →
      Rel K C (upd F2 D (.lst acc)) ⟨wipeS s2.rho own, s2.bag⟩ σ H2 → Q (.ref D) H2) :
    tLc (tXI K mg W it) (tXG K g) tt (tX K mg W0 e) own σ H Q := by
  refine ⟨C, F, s, r, h.imp fun xs F1 s1 H1 l1 r1 ⟨zs, s2, hm, hQ⟩ J hJ D hD => ?_⟩
  have h0 := r1.fresh0 hD
  have hbD := r1.bne hD
  have hF0 : C.F0 D = none := by
    cases q : C.F0 D with
    | none => rfl
    | some o =>
      have := r1.le _ _ (r1.ge _ _ q)
      rw [hD] at this
      cases this
  refine ⟨fun i m H2 => m = xs.length - i ∧ i ≤ xs.length ∧ ∃ F2 s3 σ2 acc ys, Le F1 F2 ∧ σ2.length = σ.length ∧ (∀ j, j ∉ own → σ2[j]? = σ[j]?) ∧ Rel K (C.at D acc) F2 s3 σ2 H2 ∧ DnAll K F2 acc ys ∧ compR (compF own g c e) ys (xs.drop i) s3 = .ok zs s2,
    ⟨xs.length, by simp, Nat.zero_le _, F1, s1, σ, [], [], Le.refl _, rfl, fun _ _ => rfl, r1.toAt hD [], .nil, by simpa using hm⟩, ?_⟩
  rintro i m H2 ⟨rfl, hi, F2, s3, σ2, acc, ys, l2, hl2, hσ2, r2, d2, hm2⟩
  have hW := hJ i H2 (l2.trans r2.le)
  by_cases hlt : i < xs.length
  · have hx : xs[i]? = some xs[i] := List.getElem?_eq_getElem hlt
    obtain ⟨go, hy⟩ := hW.1 _ hx
    rw [drop_cons hx] at hm2
    obtain ⟨o, s4, hf, hm3⟩ := bind_ok (show ((compF own g c e) xs[i] s3).bind (fun o s => match o with
      | some y => if ys.length < big then compR (compF own g c e) (ys ++ [y]) (xs.drop (i + 1)) s else .stuck
      | none => compR (compF own g c e) ys (xs.drop (i + 1)) s) = .ok zs s2 from hm2)
    obtain ⟨_, s5, ha', hf2⟩ := bind_ok (show (R.ofS (asgT g xs[i] ⟨wipeS s3.rho own, s3.bag⟩)).bind _ = .ok o s4 from hf)
    have ha := ofS_ok ha'
    obtain ⟨k, s6, hc, hf3⟩ := tst_ok hf2
    refine .inr ⟨go, fun H' => i + 1 ≤ xs.length ∧ ∃ F2 s3 σ2 acc ys, Le F1 F2 ∧ σ2.length = σ.length ∧ (∀ j, j ∉ own → σ2[j]? = σ[j]?) ∧ Rel K (C.at D acc) F2 s3 σ2 H' ∧ DnAll K F2 acc ys ∧ compR (compF own g c e) ys (xs.drop (i + 1)) s3 = .ok zs s2,
      fun H' ⟨q1, q2⟩ => ⟨xs.length - (i + 1), by omega, rfl, q1, q2⟩, fun x H' hyl => ?_⟩
    -- the item stands in F3
    have item : ∃ F3, Le F2 F3 ∧ Rel K (C.at D acc) F3 s3 σ2 H' ∧ Dn K F3 x xs[i] := by
      rcases hy x H' hyl with ⟨rfl, d⟩ | ⟨p, vs, ds, hp, rfl, rfl, ed, d⟩ | ⟨p, vs, ds, rfl, hp, rfl, ed, d⟩
      · exact ⟨F2, Le.refl _, r2, Dn.mono l2 _ _ d⟩
      · obtain ⟨F3, l3, r3, d3⟩ := r2.tup hp (Dn.monoAll l2 _ _ d)
        exact ⟨F3, l3, r3, by rw [ed]; exact d3⟩
      · obtain ⟨F3, l3, r3, h3⟩ := r2.absorb hp
        exact ⟨F3, l3, r3, by rw [ed]; exact .tup (.of h3) (.inl h3) (Dn.monoAll (l2.trans l3) _ _ d)⟩
    obtain ⟨F3, l3, r3, dx⟩ := item
    have r4 := r3.wiped own (τ := wipe σ own) (by rw [wipe_length, hl2]) fun j hj => by rw [wipe_not hj, hσ2 j hj]
    refine ⟨C.at D acc, F3, _, xs[i], r4, dx, s5, ha, fun σ3 h3 hl3 r5 => ?_⟩
    have hσ3 : ∀ j, j ∉ own → σ3[j]? = σ[j]? := fun j hj => by
      rw [h3 j (fun z => hj (hsub j z)), wipe_not hj]
    have hlen3 : σ3.length = σ.length := by rw [hl3, wipe_length]
    refine ⟨wipe_ext hlen3 hσ3, htt _ _ _ ⟨C.at D acc, F3, s5, r5, ?_⟩⟩
    rw [hc]
    intro F4 H4 l4 r6
    cases k with
    | false =>
      cases hf3
      exact ⟨hlt, F4, s4, σ3, acc, ys, l2.trans (l3.trans l4), hlen3, hσ3, r6, Dn.monoAll (l3.trans l4) _ _ d2, hm3⟩
    | true =>
      obtain ⟨y, s7, he, hf4⟩ := dat_ok (show (ev e s6).dat (fun y s => R.ok (some y) s) = .ok o s4 from hf3)
      cases hf4
      refine ⟨C.at D acc, F4, s6, r6, ?_⟩
      rw [he]
      intro F5 H5 l5 r7 v dv
      have hH := r7.atD hbD
      dsimp only at hm3
      split at hm3
      · rename_i hbig
        refine ⟨acc, hH, ?_, hlt, F5, s4, σ3, acc ++ [v], ys ++ [y], l2.trans (l3.trans (l4.trans l5)), hlen3, hσ3, r7.grow hF0 hbD, (Dn.monoAll (l3.trans (l4.trans l5)) _ _ d2).append (.cons dv .nil), hm3⟩
        rw [d2.length]
        exact Nat.lt_of_lt_of_le hbig big_line
      · cases hm3
  · have ei : i = xs.length := by omega
    refine .inl ⟨hW.2 (by omega), ?_⟩
    rw [ei, List.drop_length] at hm2
    cases hm2
    have r3 := r2.wiped own (τ := σ) hl2.symm fun j hj => (hσ2 j hj).symm
    obtain ⟨hF, hH, r4⟩ := r3.off h0 hF0 hbD
    have r5 : Rel K C F2 ⟨wipeS s2.rho own, s2.bag⟩ σ H2 := by
      refine ⟨r3.le, r3.ge, fun a o e n => ?_, fun a o e n => ?_, r3.hbag, r3.bag, r3.len, r3.val, fun i ds e => ?_, r3.apart⟩
      · rcases r3.new a o e n with q | q
        · exact .inl q
        · have q' : upd C.H0 D (.lst acc) a = none := q
          by_cases hp : a = D
          · subst hp
            rw [upd_same] at q'
            cases q'
          · rw [upd_ne hp] at q'
            exact .inr q'
      · have hp : a ≠ D := by
          intro z
          subst z
          rw [h0] at e
          cases e
        exact r3.keep a o (by show upd C.H0 D (.lst acc) a = some o; rw [upd_ne hp]; exact e) n
      · obtain ⟨p, vs, h1, h2, h3, h4, h5⟩ := r3.own i ds e
        have h4' : upd C.H0 D (.lst acc) p = none := h4
        have hp : p ≠ D := by
          intro z
          subst z
          rw [upd_same] at h4'
          cases h4'
        rw [upd_ne hp] at h4'
        exact ⟨p, vs, h1, h2, h3, h4', h5⟩
    exact hQ D acc F2 H2 hD l2 hF hH d2 r5 h0 hbD r4
theorem comp_tX (hsub : ∀ i ∈ slotsT g, i ∈ own) (htt : ∀ σ H Q, tXT K mg W0 c σ H Q → tt σ H Q) (σ : L2.St) (H : Hp) (Q : VK) (h : tX K mg W (.comp own g it c e) σ H Q) : tLc (tXI K mg W it) (tXG K g) tt (tX K mg W0 e) own σ H Q := by
  obtain ⟨C, F, s, r, h⟩ := h
  rw [ev_comp] at h
  refine comp_core hsub htt r ((Post.bind h).imp fun xs F1 s1 H1 l1 r1 q => ?_)
  cases hm : compR (compF own g c e) [] xs s1 with
  | ok zs s2 =>
    rw [hm] at q
    refine ⟨zs, s2, rfl, fun D acc F2 H2 hD l2 hF hH d r2 h0 hb r3 => ?_⟩
    exact q _ H2 (l2.trans (Le.upd _ hF)) r3 _ (.lst upd_same (Dn.monoAll (Le.upd _ hF) _ _ d))
  | exn c p s2 => rw [hm] at q; exact q.elim
  | stuck => rw [hm] at q; exact q.elim
end
end RD
set_option Elab.async false
set_option linter.all false
set_option maxRecDepth 100000
/-! RdI: statements do what ex says, node by node. -/
namespace RD
open PySem L2
section
variable {K : PySem.W.Frag} {mg : Str → Option Value} {W : WX} {C : Ct} {F F' : Hp} {σ : L2.St} {α : Type} {D D' : Ends}
theorem PostS.up {m : R Out} (h : PostS K mg W C F m D) (le : Le F F') : PostS K mg W C F' m D := by
  cases m with
  | ok o s =>
    cases o with
    | nx => exact fun G σ H l r => h G σ H (le.trans l) r
    | rt u => exact fun G σ H v l r d => h G σ H v (le.trans l) r d
  | exn c p s => exact fun G σ H cls d l r e => h G σ H cls d (le.trans l) r e
  | stuck => exact h
theorem PostS.bind {m : R α} {k : α → S → R Out} (h : PostS K mg W C F (m.bind k) D) : Post K mg W C F σ m fun a F' s _ => PostS K mg W C F' (k a s) D := by
  cases m with
  | ok a s => exact fun G H l _ => PostS.up h l
  | exn c p s => exact fun G H cls d l r e => h G σ H cls d l r e
  | stuck => exact h
theorem PostS.dat {m : R U} {k : PyData → S → R Out} (h : PostS K mg W C F (m.dat k) D) : Post K mg W C F σ m fun u F' s _ => ∃ x, u = .d x ∧ PostS K mg W C F' (k x s) D := by
  refine (PostS.bind h).imp fun u F' s H' _ _ q => ?_
  cases u with
  | d x => exact ⟨x, rfl, q⟩
  | _ => exact q.elim
theorem PostS.tst {m : R U} {k : Bool → S → R Out} (h : PostS K mg W C F (m.tst k) D) : Post K mg W C F σ (m.tst .ok) fun b F' s _ => PostS K mg W C F' (k b s) D := by
  have e : m.tst k = (m.tst .ok).bind k := by
    cases m with
    | ok u s =>
      cases u with
      | d x => cases x <;> rfl
      | _ => rfl
    | _ => rfl
  rw [e] at h
  exact PostS.bind h
theorem PostS.here {s : S} {H : Hp} (h : PostS K mg W C F (.ok .nx s) D) (r : Rel K C F s σ H) : D.nx σ H := h F σ H (Le.refl F) r
theorem PostS.seq {m : R Out} {k : S → R Out} (h : PostS K mg W C F (m.bind fun o s => match o with
    | .nx => k s
    | .rt u => .ok (.rt u) s) D) : PostS K mg W C F m { D with nx := fun σ H => ∃ F' s, Le F F' ∧ Rel K C F' s σ H ∧ PostS K mg W C F' (k s) D } := by
  cases m with
  | ok o s =>
    cases o with
    | nx => exact fun G σ H l r => ⟨G, s, l, r, PostS.up h l⟩
    | rt u => exact h
  | exn c p s => exact h
  | stuck => exact h
theorem PostS.imp {m : R Out} (h : PostS K mg W C F m D) (h1 : ∀ σ H, D.nx σ H → D'.nx σ H) (h2 : ∀ v H, D.rt v H → D'.rt v H) : PostS K mg W C F m D' := by
  cases m with
  | ok o s =>
    cases o with
    | nx => exact fun G σ H l r => h1 _ _ (h G σ H l r)
    | rt u => exact fun G σ H v l r d => h2 _ _ (h G σ H v l r d)
  | exn c p s => exact h
  | stuck => exact h
end
section
variable {X : Cx} {W : WX} {e ec : Expr} {st : Stmt} {rest sa sb body : List Stmt} {a b c g it l r : T} {p pos : Pos} {tg : Expr}
theorem ss_nil : PSs X [] (tS X.K X.mg W .nil) := pss_nil.weak fun D σ H ⟨C, F, s, r, h⟩ => h.here r
theorem ss_cons (ha : PS X st (tS X.K X.mg W a)) (hb : PSs X rest (tS X.K X.mg W b)) : PSs X (st :: rest) (tS X.K X.mg W (.seq a b)) := by
  refine (pss_cons ha hb).weak fun D σ H ⟨C, F, s, r, h⟩ => ⟨C, F, s, r, ?_⟩
  exact (PostS.seq (k := fun s => ex b s) h).imp (fun σ H ⟨F', s', _, r', q⟩ => ⟨C, F', s', r', q⟩) fun v H q => q
theorem ss_asg (ha : PE X e (tX X.K X.mg W a)) (hg : PG X tg (tXG X.K g)) (hs : swapsWithSole [tg] e pos.line X.env = pure false) (hw : swappedStores [tg] e X.env = pure none) (h1 : (assignEach [tg] X.env).map (·.2) = [assign tg X.env]) :
    PS X (.Assign [tg] e pos) (tS X.K X.mg W (.asg g a)) := by
  refine (ps_asg ha hg hs hw h1).weak fun D σ H ⟨C, F, s, r, h⟩ => ⟨C, F, s, r, ?_⟩
  refine (PostS.dat h).imp fun u F1 s1 H1 l1 r1 ⟨x, e, h1⟩ v d1 => ?_
  subst e
  have h2 : PostS X.K X.mg W C F1 ((R.ofS (asgT g x s1)).bind fun _ s => .ok .nx s) D := h1
  cases q : asgT g x s1 with
  | none => rw [q] at h2; exact h2.elim
  | some s2 =>
    rw [q] at h2
    exact ⟨C, F1, s1, x, r1, d1, s2, q, fun σ' _ _ r2 => h2 F1 σ' H1 (Le.refl _) r2⟩
/-- name = [..], an assignment on one line -/
theorem ss_asgLc {i : Nat} {y : Str} {py : Pos} {elt tgc iter : Expr} {ifs : List Expr} {scope : Scope} {own : List (Str × Nat)} {spos : Pos} {tt : TT} (hc : X.calm = true) (hN : X.N.Nodup) (hy : X.N[i]? = some y) (hyl : X.env.scope.names.lookup y = some .local)
    (hsw : swapsWith (.ListComp elt [⟨tgc, iter, ifs, 0⟩] scope pos) (some (.Name y py)) spos.line X.env = pure true) (hi : PI X tgc iter (tXI X.K X.mg W it)) (ok : BlkOk X.N X.env.scope scope own)
    (hg : ∀ (s : Shared) (H : Hp) (C : Addr) (cl : List (Str × Addr)) (fp : List Addr), PG (X.blk s H scope (compEnvC scope cl C X.env) fp) tgc (tXG X.K g)) (ht : ∀ (s : Shared) (H : Hp) (C : Addr) (cl : List (Str × Addr)) (fp : List Addr), PTs (X.blk s H scope (compEnvC scope cl C X.env) fp) ifs tt)
    (he : ∀ (s : Shared) (H : Hp) (C : Addr) (cl : List (Str × Addr)) (fp : List Addr), PE (X.blk s H scope (compEnvC scope cl C X.env) fp) elt (tX X.K X.mg W0 a)) (hs : ∀ x, foldedSetIterable iter X.env x = pure x)
    (hsub : ∀ i ∈ slotsT g, i ∈ own.map (·.2)) (htt : ∀ σ H Q, tXT X.K X.mg W0 c σ H Q → tt σ H Q) :
    PS X (.Assign [.Name y py] (.ListComp elt [⟨tgc, iter, ifs, 0⟩] scope pos) spos) (tS X.K X.mg W (.asg (.tname i) (.comp (own.map (·.2)) g it c a))) := by
  refine (ps_setLc hc hN hy hyl hsw hi ok hg ht he hs).weak fun D σ H ⟨C, F, s, r, h⟩ => ?_
  refine comp_tX hsub htt σ H _ ⟨C, F, s, r, ?_⟩
  refine (PostS.dat h).imp fun u F1 s1 H1 l1 r1 ⟨x, e, h1⟩ v d1 => ?_
  subst e
  exact h1 F1 _ H1 (Le.refl _) (r1.setD i d1)
/-- name = [a, b, ..], a list that will grow -/
theorem ss_asgO {i : Nat} {y : Str} {es : List Expr} {p2 : Pos} (hN : X.N.Nodup) (hi : X.N[i]? = some y) (hx : Loc X.env.scope y) (hf : X.fn y = true ∨ X.env.scope.names.lookup y = some .local) (hl : PA X es (tXA X.K X.mg W l)) :
    PS X (.Assign [.Name y p] (.List es p2) pos) (tS X.K X.mg W (.asgO i (.lst l))) := by
  refine (ps_set hN hi hx (pe_lst hl) rfl hf).weak fun D σ H ⟨C, F, s, r, h⟩ => ⟨C, F, s, r, ?_⟩
  have h' : PostS X.K X.mg W C F ((evA l s).bind fun us s => match datas us with
    | some xs => if xs.length ≤ big then .ok .nx ⟨s.rho.set i (.ol xs), s.bag⟩ else .stuck
    | none => .stuck) D := by
    have h2 : PostS X.K X.mg W C F (((evA l s).bind fun us s => match datas us with
      | some xs => if xs.length ≤ big then .ok (.d (.list xs)) s else .stuck
      | none => (.stuck : R U)).dat fun x s => match x with
      | .list xs => .ok .nx ⟨s.rho.set i (.ol xs), s.bag⟩
      | _ => .stuck) D := h
    revert h2
    cases evA l s with
    | ok us s1 =>
      simp only [R.bind_ok]
      cases datas us with
      | none => exact id
      | some xs =>
        dsimp only
        split <;> exact id
    | _ => exact id
  refine (PostS.bind h').imp fun us F1 s1 H1 l1 r1 h1 vs d1 => ?_
  cases e : datas us with
  | none => rw [e] at h1; exact h1.elim
  | some xs =>
    rw [e] at h1
    have dn := datas_dn d1 e
    dsimp only at h1
    split at h1
    · rename_i hb
      refine ⟨by rw [dn.length]; exact Nat.le_trans hb big_line, fun q hq => ?_⟩
      have r2 := r1.lay (.lst vs) hq
      exact h1 F1 _ _ (Le.refl _) (r2.setO i upd_same (r1.freeF hq) (r1.fresh0 hq) (r1.bne hq) ⟨_, rfl, dn⟩ fun j es _ e z => r1.ownNe hq j es e z)
    · exact h1.elim
/-- name = [.. for ..], a list that will grow; the two ways of storing it -/
theorem asgO_comp {i : Nat} {own : List Nat} {tt : TT} (hsub : ∀ i ∈ slotsT g, i ∈ own) (htt : ∀ σ H Q, tXT X.K X.mg W0 c σ H Q → tt σ H Q) {D : Ends} {σ : L2.St} {H : Hp} (h : tS X.K X.mg W (.asgO i (.comp own g it c a)) D σ H) :
    tAsg (tLc (tXI X.K X.mg W it) (tXG X.K g) tt (tX X.K X.mg W0 a) own) (gName i) D σ H := by
  obtain ⟨C, F, s, r, h⟩ := h
  have h' : PostS X.K X.mg W C F ((evI it s).bind fun xs s => match compR (compF own g c a) [] xs s with
    | .ok ys s => .ok .nx ⟨(wipeS s.rho own).set i (.ol ys), s.bag⟩
    | _ => .stuck) D := by
    have h2 : PostS X.K X.mg W C F (((evI it s).bind fun xs s => match compR (compF own g c a) [] xs s with
      | .ok ys s => .ok (.d (.list ys)) ⟨wipeS s.rho own, s.bag⟩
      | _ => (.stuck : R U)).dat fun x s => match x with
      | .list xs => .ok .nx ⟨s.rho.set i (.ol xs), s.bag⟩
      | _ => .stuck) D := h
    revert h2
    cases evI it s with
    | ok xs s1 =>
      simp only [R.bind_ok]
      cases compR (compF own g c a) [] xs s1 <;> exact id
    | _ => exact id
  refine comp_core hsub htt r ((PostS.bind h').imp fun xs F1 s1 H1 l1 r1 q => ?_)
  cases hm : compR (compF own g c a) [] xs s1 with
  | ok zs s2 =>
    rw [hm] at q
    refine ⟨zs, s2, rfl, fun E acc F2 H2 hE l2 hF hH d r2 h0 hb r3 => ?_⟩
    refine q F2 _ H2 l2 (r2.setO i hH hF h0 hb ⟨_, rfl, d⟩ fun j es _ e z => ?_)
    -- a slot of its own at E would be frozen in r3
    obtain ⟨p, vs, h1, h2, h3, _⟩ := r3.own j es e
    rw [z] at h1
    cases h1
    rw [upd_same] at h3
    cases h3
  | exn c p s2 => rw [hm] at q; exact q.elim
  | stuck => rw [hm] at q; exact q.elim
/-- name = xs + ys, a list that will grow -/
theorem ss_asgO_add {i : Nat} {y : Str} {ea eb : Expr} {p2 : Pos} (hN : X.N.Nodup) (hi : X.N[i]? = some y) (hx : Loc X.env.scope y) (hf : X.fn y = true ∨ X.env.scope.names.lookup y = some .local) (ha : PE X ea (tX X.K X.mg W a)) (hb : PE X eb (tX X.K X.mg W b)) :
    PS X (.Assign [.Name y p] (.BinOp ea .Add eb p2) pos) (tS X.K X.mg W (.asgO i (.bin .add a b))) := by
  refine (ps_set hN hi hx (pe_op op_cat ha hb) rfl hf).weak fun D σ H ⟨C, F, s, r, h⟩ => ⟨C, F, s, r, ?_⟩
  have h' : PostS X.K X.mg W C F ((ev a s).dat fun x s => (ev b s).dat fun y s => (lift (binop .add x y) s).dat fun x s => match x with
      | .list xs => .ok .nx ⟨s.rho.set i (.ol xs), s.bag⟩
      | _ => .stuck) D := by
    have h2 : PostS X.K X.mg W C F (((ev a s).dat fun x s => (ev b s).dat fun y s => lift (binop .add x y) s).dat fun x s => match x with
      | .list xs => .ok .nx ⟨s.rho.set i (.ol xs), s.bag⟩
      | _ => .stuck) D := h
    revert h2
    cases ev a s with
    | ok u s1 =>
      cases u with
      | d x =>
        simp only [R.dat_ok]
        cases ev b s1 with
        | ok u2 s2 => cases u2 <;> exact id
        | _ => exact id
      | _ => exact id
    | _ => exact id
  refine (PostS.dat h').imp fun u F1 s1 H1 l1 r1 ⟨x, e, h1⟩ v d1 => ⟨C, F1, s1, r1, ?_⟩
  subst e
  refine (PostS.dat h1).imp fun u F2 s2 H2 l2 r2 ⟨y, e, h2⟩ w d2 => ?_
  subst e
  cases ez : binop .add x y with
  | none => rw [ez] at h2; exact h2.elim
  | some z =>
    rw [ez] at h2
    cases z with
    | list zs =>
      have d1' := Dn.mono l2 _ _ d1
      cases x with
      | list xs =>
        cases y with
        | list ys =>
          simp only [binop] at ez
          split at ez
          · rename_i hbig
            cases ez
            cases d1' with
            | @lst ad vs _ q1 q2 =>
              cases d2 with
              | @lst bd ws _ q3 q4 =>
                refine ⟨ad, bd, vs, ws, rfl, rfl, r2.le _ _ q1, r2.le _ _ q3, ?_, fun q hq => ?_⟩
                · rw [q2.length, q4.length]
                  exact Nat.le_trans hbig big_line
                · have r3 := r2.lay (.lst (vs ++ ws)) hq
                  exact h2 F2 _ _ (Le.refl _) (r3.setO i upd_same (r2.freeF hq) (r2.fresh0 hq) (r2.bne hq) ⟨_, rfl, q2.append q4⟩ fun j es _ e z => r2.ownNe hq j es e z)
          · cases ez
        | _ => cases ez
      | int _ => cases y <;> cases ez
      | str _ =>
        cases y with
        | str _ => simp only [binop] at ez; split at ez <;> cases ez
        | _ => cases ez
      | tuple _ =>
        cases y with
        | tuple _ => simp only [binop] at ez; split at ez <;> cases ez
        | _ => cases ez
      | _ => cases ez
    | _ => exact h2.elim
/-- the own list of a slot grows by one -/
theorem Rel.push {K : PySem.W.Frag} {C : Ct} {F : Hp} {s : S} {σ : L2.St} {H : Hp} (r : Rel K C F s σ H) {i : Nat} {ds : List PyData} {q : Addr} {vs : List V} {v : V} {x : PyData} (e : s.rho[i]? = some (.ol ds)) (hσ : σ[i]? = some (some (.ref q))) (hH : H q = some (.lst vs)) (dv : Dn K F v x) :
    Rel K C F ⟨s.rho.set i (.ol (ds ++ [x])), s.bag⟩ σ (upd H q (.lst (vs ++ [v]))) := by
  obtain ⟨p, _, h1, h2, h3, h4, h5, ws, rfl, h6⟩ := r.own i (.l ds) e
  rw [hσ] at h1
  cases h1
  rw [hH] at h2
  cases h2
  have hne : ∀ {a : Addr} {o : HO}, F a = some o → a ≠ q := fun e z => by
    subst z
    rw [h3] at e
    cases e
  have hi : i < s.rho.length := (List.getElem?_eq_some_iff.mp e).1
  have r1 : Rel K C F ⟨s.rho.set i .un, s.bag⟩ σ (upd H q (.lst (vs ++ [v]))) := by
    have r0 := r.unset i
    have old : ∀ {j : Nat} {es : Own}, (s.rho.set i Slot.un)[j]? = some (.ow es) → i ≠ j ∧ s.rho[j]? = some (.ow es) := fun {j es} e' => by
      by_cases hj : i = j
      · subst hj
        rw [List.getElem?_set_self hi] at e'
        cases e'
      · rw [List.getElem?_set_ne hj] at e'
        exact ⟨hj, e'⟩
    refine ⟨fun a o h => ?_, r0.ge, r0.new, fun a o h n => ?_, r0.hbag, fun x y h => ?_, r0.len, r0.val, fun j es h => ?_, r0.apart⟩
    · rw [upd_ne (hne h)]
      exact r0.le a o h
    · rw [upd_ne]
      · exact r0.keep a o h n
      · intro z
        subst z
        rw [h4] at h
        cases h
    · obtain ⟨b1, b2⟩ := r0.bag x y h
      refine ⟨?_, b2⟩
      rw [upd_ne]
      · exact b1
      · intro z
        rcases h5 with w | w
        · have h7 := r.hbag
          have h' : s.bag = some (x, y) := h
          rw [h', w] at h7
          cases h7
        · exact w z.symm
    · obtain ⟨p', ws, g1, g2, g3⟩ := r0.own j es h
      obtain ⟨hj, h'⟩ := old h
      refine ⟨p', ws, g1, ?_, g3⟩
      rw [upd_ne]
      · exact g2
      · intro z
        subst z
        exact hj (r.apart i j (.l ds) es p' e h' hσ g1)
  have r2 := r1.setO i (p := q) (ds := .l (ds ++ [x])) upd_same h3 h4 h5 ⟨_, rfl, h6.append (.cons dv .nil)⟩ fun j es hj e' z => by
    have e'' : (s.rho.set i Slot.un)[j]? = some (.ow es) := e'
    rw [List.getElem?_set_ne hj] at e''
    exact hj (r.apart i j (.l ds) es q e e'' hσ z)
  have r3 : Rel K C F ⟨(s.rho.set i Slot.un).set i (.ol (ds ++ [x])), s.bag⟩ (σ.set i (some (.ref q))) (upd H q (.lst (vs ++ [v]))) := r2
  rw [List.set_set, set_same hσ] at r3
  exact r3
/-- the bag's numbers are set -/
theorem Rel.bset {C : Ct} {F : Hp} {rho : List Slot} {σ : L2.St} {H : Hp} {x y x' y' : Int} (r : Rel X.K C F ⟨rho, some (x, y)⟩ σ H) : Rel X.K C F ⟨rho, some (x', y')⟩ σ (upd H C.b (.lst [.int x', .int y'])) := by
  have hb : C.hb = true := r.hbag.symm
  have h0 := (r.bag x y rfl)
  exact {
    le := fun a o e => by
      rw [upd_ne]
      · exact r.le a o e
      · intro z
        subst z
        rw [h0.2] at e
        cases e
    ge := r.ge
    new := r.new
    keep := fun a o e n => by
      rw [upd_ne]
      · exact r.keep a o e n
      · rcases n with n | n
        · rw [hb] at n
          cases n
        · exact n
    hbag := r.hbag
    bag := fun a b e => by
      cases e
      exact ⟨upd_same, h0.2⟩
    len := r.len
    val := r.val
    own := fun i ds e => by
      obtain ⟨p, vs, h1, h2, h3, h4, h5, h6⟩ := r.own i ds e
      refine ⟨p, vs, h1, ?_, h3, h4, h5, h6⟩
      rw [upd_ne]
      · exact h2
      · rcases h5 with n | n
        · rw [hb] at n
          cases n
        · exact n
    apart := r.apart }
theorem ss_bset {i j : Nat} {y : Str} {py pt : Pos} {n} {p2 : Pos} (hj : j ≤ 1) (hi : X.N[i]? = some y) (hv : Vis X.env.scope y) (hd : (y == ("__debug__" : Str)) = false) (hcd : (y == ("__classdict__" : Str)) = false) (ha : PE X e (tX X.K X.mg W a))
    (hw : swapsWithSole [.Subscript (.Name y py) (.Constant (.int (j : Int)) n p2) pt] e pos.line X.env = pure false) : PS X (.Assign [.Subscript (.Name y py) (.Constant (.int (j : Int)) n p2) pt] e pos) (tS X.K X.mg W (.bset i j a)) := by
  refine (ps_asg ha (pg_sub (pe_var hi hv hd hcd) pe_int set_list (fun _ => rfl)) hw rfl rfl).weak fun D σ H ⟨C, F, s, r, h⟩ => ?_
  have h0 : PostS X.K X.mg W C F ((ev a s).dat fun v s => match v, s.rho[i]?, s.bag with
    | .int k, some (.val .bag), some (x, y) => .ok .nx ⟨s.rho, some (if j = 0 then (k, y) else (x, k))⟩
    | _, _, _ => .stuck) D := h
  refine ⟨C, F, s, r, ?_⟩
  refine (PostS.dat h0).imp fun u F1 s1 H1 l1 r1 ⟨v, e, q⟩ w d1 => ?_
  subst e
  split at q
  · rename_i k x y e1 e2 _
    cases d1
    obtain ⟨v, g1, g2⟩ := r1.val i _ e1
    cases g2
    obtain ⟨h3, _⟩ := r1.bag x y e2
    have r1' : Rel X.K C F1 ⟨s1.rho, some (x, y)⟩ σ H1 := by rw [← e2]; exact r1
    refine ⟨_, g1, C.b, _, (j : Int), j, rfl, rfl, h3, ?_, ?_⟩
    · match j, hj with
      | 0, _ => rfl
      | 1, _ => rfl
    · match j, hj with
      | 0, _ => exact q F1 σ _ (Le.refl _) (r1'.bset (x' := k) (y' := y))
      | 1, _ => exact q F1 σ _ (Le.refl _) (r1'.bset (x' := x) (y' := k))
  · exact q.elim
/-- an own class of errors with a text alone -/
def ExcOk (K : PySem.W.Frag) (mg : Str → Option Value) (x : Str) : Prop := ∃ C, mg x = some (.ref C) ∧ PySem.W.excIn K C [.type "ValueError", .type "Exception", .type "BaseException", .type "object"] "ValueError.__new__" = true ∧ PySem.W.keepIn K (.ref C) = true ∧
  PySem.W.subIn K (.ref C) (.type "BaseException") = some true ∧ PySem.W.typeIn K (.ref C) = some (.type "type") ∧ PySem.W.exmOne K (.ref C) (.ref C) = some true
theorem ss_raise {x m : Str} {j : Nat} {p p2 pos2 : Pos} {a : T} (hc : X.calm = true) (tk : Takes X W) (h : ExcOk X.K X.mg x) (hg : Gl X x) (hd : (x == ("__debug__" : Str)) = false) :
    PS X (.Raise (some (.Call (.Name x p) [.Constant (.str m) j p2] [] pos2)) none pos) (tS X.K X.mg W (.raise x a)) := by
  obtain ⟨C0, gC, q1, q2, q3, q4, _⟩ := h
  refine (ps_raise hc tk (pmk_own PySem.F.excBase_ValueError q1 gC q2 (raises_own q3 q4) hg hd)).weak fun D σ H ⟨C, F, s, r, h⟩ => ?_
  exact h F σ H (.ref C0) none (Le.refl F) r ⟨C0, gC, rfl, rfl⟩
/-- try: return e, except x: return a text -/
theorem ss_tryR {x z : Str} {j : Nat} {p1 p2 p3 p4 p5 : Pos} (hs : X.stack = X.env :: X.outer) (hf : X.env.frame = some X.env.locals) (tk : Takes X W) (h : ExcOk X.K X.mg x) (hg : Gl X x) (hd : (x == ("__debug__" : Str)) = false)
    (ha : ∀ (W' : WX) (pn : List (Addr × Obj)) (xe : Value → Shared → Prop), Takes (X.tr pn xe) W' → PE (X.tr pn xe) e (tX X.K X.mg W' a)) :
    PS X (.Try [.Return (some e) p1] [.ExceptHandler (some (.Name x p2)) none [.Return (some (.Constant (.str z) j p3)) p4] p5] [] [] pos) (tS X.K X.mg W (.tryR x a z)) := by
  obtain ⟨C0, gC, q1, q2, q3, q4, q5⟩ := h
  refine (ps_try_only (tb := fun W' => tRet (tX X.K X.mg W' a)) (ts := fun _ _ _ => tRet (tC (.str z))) (c := .ref C0) (Wout := W) hs hf ⟨hg, hd, .inl gC⟩ tk (fun W' pn xe t _ => pss_one (ps_ret (ha W' pn xe t))) (fun _ _ _ _ _ _ _ => pss_one (ps_ret pe_str))).weak fun D σ H ⟨C, F, s, r, h⟩ => ?_
  refine ⟨C, F, s, r, ?_⟩
  have h0 : PostS X.K X.mg W C F (match ev a s with
    | .ok u s => .ok (.rt u) s
    | .exn c none s => if c = x then .ok (.rt (.d (.str z))) s else .stuck
    | _ => .stuck) D := h
  revert h0
  cases ev a s with
  | ok u s1 => exact fun h0 F' H' l r' v d => h0 F' σ H' v l r' d
  | exn c p s1 =>
    cases p with
    | some _ => exact fun h0 => h0.elim
    | none =>
      intro h0
      have h1 : PostS X.K X.mg W C F (if c = x then .ok (.rt (.d (.str z))) s1 else .stuck) D := h0
      by_cases hx : c = x
      · rw [if_pos hx] at h1
        subst hx
        intro F' H' cls d l r' ⟨E, e1, e2, e3⟩
        rw [gC] at e1
        cases e1
        subst e2
        exact ⟨true, q5, fun _ a _ => h1 F' σ H' _ l r' (.str z), fun q => by cases q⟩
      · rw [if_neg hx] at h1
        exact h1.elim
  | stuck => exact fun h0 => h0.elim
/-- xs.append(e) -/
theorem ss_app {i : Nat} {y : Str} {py apos cpos : Pos} (hi : X.N[i]? = some y) (hv : Vis X.env.scope y) (hd : (y == ("__debug__" : Str)) = false) (hcd : (y == ("__classdict__" : Str)) = false)
    (ha : PE X e (tX X.K X.mg W a)) (hst : starEach [e] X.env = (false, eval e X.env) :: starEach [] X.env) (hline : (apos.endLine == cpos.line) = true) :
    PS X (.Expr (.Call (.Attribute (.Name y py) "append" apos) [e] [] cpos) pos) (tS X.K X.mg W (.app i a)) := by
  have hpe : PE X (.Call (.Attribute (.Name y py) "append" apos) [e] [] cpos) (tBM X.K "list" rAppend (tVar i) (tCons (tX X.K X.mg W a) tNil)) :=
    pe_bm PySem.F.plainAttrs_list PySem.F.slot_list_append PySem.F.type_list_append mt_append (pe_var hi hv hd hcd) (pa_cons ha pa_nil hst) rfl (by rw [hst]; rfl) hline hst rfl
  refine (ps_expr hpe rfl).weak fun D σ H ⟨C, F, s, r, h⟩ => ?_
  have h0 : PostS X.K X.mg W C F (match s.rho[i]? with
    | some (.ow (.l _)) => (ev a s).dat fun x s => match s.rho[i]? with
      | some (.ow (.l ds)) => if ds.length < big then .ok .nx ⟨s.rho.set i (.ol (ds ++ [x])), s.bag⟩ else .stuck
      | _ => .stuck
    | _ => .stuck) D := h
  split at h0
  · rename_i ds0 e0
    obtain ⟨p, _, h1, h2, _, _, _, vs0, rfl, _⟩ := r.own i (.l ds0) e0
    refine ⟨.ref p, h1, .inl ⟨rfl, _, .of h2⟩, C, F, s, r, ?_⟩
    refine (PostS.dat h0).imp fun u F1 s1 H1 l1 r1 ⟨x, e, q⟩ v d1 => ?_
    subst e
    split at q
    · rename_i ds e1
      split at q
      · rename_i hbig
        obtain ⟨p', _, g1, g2, _, _, _, vs, rfl, g6⟩ := r1.own i (.l ds) e1
        rw [h1] at g1
        cases g1
        refine ⟨p, vs, v, rfl, rfl, g2, ?_, ?_⟩
        · rw [g6.length]
          exact Nat.lt_of_lt_of_le hbig big_line
        · exact q F1 σ _ (Le.refl _) (r1.push e1 h1 g2 d1)
      · exact q.elim
    · exact q.elim
  · exact h0.elim
theorem ss_if (hc : PT X ec (tXT X.K X.mg W c)) (ha : PSs X sa (tS X.K X.mg W a)) (hb : PSs X sb (tS X.K X.mg W b)) : PS X (.If ec sa sb pos) (tS X.K X.mg W (.iff c a b)) := by
  refine (ps_if hc ha hb).weak fun D σ H ⟨C, F, s, r, h⟩ => ⟨C, F, s, r, ?_⟩
  refine (PostS.tst h).imp fun k F1 s1 H1 l1 r1 q => ?_
  cases k with
  | true => exact ⟨C, F1, s1, r1, q⟩
  | false => exact ⟨C, F1, s1, r1, q⟩
theorem ss_ret (ha : PE X e (tX X.K X.mg W a)) : PS X (.Return (some e) pos) (tS X.K X.mg W (.ret a)) := by
  refine (ps_ret ha).weak fun D σ H ⟨C, F, s, r, h⟩ => ⟨C, F, s, r, ?_⟩
  exact (PostS.bind h).imp fun u F1 s1 H1 l1 r1 q v d => q F1 σ H1 v (Le.refl _) r1 d
theorem ss_drop (ha : PE X e (tX X.K X.mg W a)) (hs : swapsWith e none pos.line X.env = pure false) : PS X (.Expr e pos) (tS X.K X.mg W (.drop a)) := by
  refine (ps_expr ha hs).weak fun D σ H ⟨C, F, s, r, h⟩ => ⟨C, F, s, r, ?_⟩
  exact (PostS.bind h).imp fun u F1 s1 H1 l1 r1 q v d => q.here r1
theorem ss_while {n : Nat} (hp : PassesOwn (model X.prog X.w) X.A X.env X.xe) (hc : PT X ec (tXT X.K X.mg W c)) (hb : PSs X body (tS X.K X.mg W b)) : PS X (.While ec body [] pos) (tS X.K X.mg W (.while n c b)) := by
  refine (ps_while hp hc hb).weak fun D σ H ⟨C, F, s, r, h⟩ => ?_
  refine ⟨fun m σ H => ∃ F s, Rel X.K C F s σ H ∧ PostS X.K X.mg W C F (whileR (fun s => ev c s) (fun s => ex b s) m s) D, ⟨n, F, s, r, h⟩, ?_⟩
  rintro m σ1 H1 ⟨F1, s1, r1, h1⟩
  cases m with
  | zero => exact h1.elim
  | succ m =>
    refine ⟨C, F1, s1, r1, (PostS.tst h1).imp fun k F2 s2 H2 l2 r2 q => ?_⟩
    cases k with
    | true =>
      refine ⟨fun σ' H' => ∃ F s, Rel X.K C F s σ' H' ∧ PostS X.K X.mg W C F (whileR (fun s => ev c s) (fun s => ex b s) m s) D, fun σ' H' w => ⟨m, Nat.lt_succ_self m, w⟩, C, F2, s2, r2, ?_⟩
      exact (PostS.seq (k := fun s => whileR (fun s => ev c s) (fun s => ex b s) m s) q).imp (fun _ _ ⟨F', s', _, r', q⟩ => ⟨F', s', r', q⟩) fun _ _ w => w
    | false => exact q.here r2
theorem ss_for (hp : PassesOwn (model X.prog X.w) X.A X.env X.xe) (hc : X.calm = true) (hi : PI X tg e (tXI X.K X.mg W it)) (hg : PG X tg (tXG X.K g)) (hb : PSs X body (tS X.K X.mg W b)) (hs : ∀ x, foldedSetIterable e X.env x = pure x) :
    PS X (.For tg e body [] pos) (tS X.K X.mg W (.loop g it b)) := by
  refine (ps_for hp hc hi hg hb hs).weak fun D σ H ⟨C, F, s, r, h⟩ => ⟨C, F, s, r, ?_⟩
  refine (PostS.bind h).imp fun xs F1 s1 H1 l1 r1 h1 J hJ => ?_
  refine ⟨fun i m σ H => m = xs.length - i ∧ i ≤ xs.length ∧ ∃ F2 s2, Le F1 F2 ∧ Rel X.K C F2 s2 σ H ∧ PostS X.K X.mg W C F2 (forR (fun x s => (R.ofS (asgT g x s)).bind fun _ s => ex b s) (xs.drop i) s2) D,
    ⟨xs.length, by simp, Nat.zero_le _, F1, s1, Le.refl _, r1, by simpa using h1⟩, ?_⟩
  rintro i m σ2 H2 ⟨rfl, hi, F2, s2, l2, r2, h2⟩
  have hW := hJ i H2 (l2.trans r2.le)
  by_cases hlt : i < xs.length
  · have hx : xs[i]? = some xs[i] := List.getElem?_eq_getElem hlt
    obtain ⟨go, hy⟩ := hW.1 _ hx
    rw [drop_cons hx] at h2
    have h3 : PostS X.K X.mg W C F2 (((R.ofS (asgT g xs[i] s2)).bind fun _ s => ex b s).bind fun o s => match o with
      | .nx => forR (fun x s => (R.ofS (asgT g x s)).bind fun _ s => ex b s) (xs.drop (i + 1)) s
      | .rt u => .ok (.rt u) s) D := h2
    cases ha : asgT g xs[i] s2 with
    | none => rw [ha] at h3; exact h3.elim
    | some s3 =>
      rw [ha] at h3
      have h4 := PostS.seq (m := ex b s3) (k := fun s => forR (fun x s => (R.ofS (asgT g x s)).bind fun _ s => ex b s) (xs.drop (i + 1)) s) h3
      refine .inr ⟨go, fun σ' H' => i + 1 ≤ xs.length ∧ ∃ F2 s2, Le F1 F2 ∧ Rel X.K C F2 s2 σ' H' ∧ PostS X.K X.mg W C F2 (forR (fun x s => (R.ofS (asgT g x s)).bind fun _ s => ex b s) (xs.drop (i + 1)) s2) D,
        fun σ' H' ⟨q1, q2⟩ => ⟨xs.length - (i + 1), by omega, rfl, q1, q2⟩, fun x H' hyl => ?_⟩
      have item : ∃ F3, Le F2 F3 ∧ Rel X.K C F3 s2 σ2 H' ∧ Dn X.K F3 x xs[i] := by
        rcases hy x H' hyl with ⟨rfl, d⟩ | ⟨p, vs, ds, hp, rfl, rfl, ed, d⟩ | ⟨p, vs, ds, rfl, hp, rfl, ed, d⟩
        · exact ⟨F2, Le.refl _, r2, Dn.mono l2 _ _ d⟩
        · obtain ⟨F3, l3, r3, d3⟩ := r2.tup hp (Dn.monoAll l2 _ _ d)
          exact ⟨F3, l3, r3, by rw [ed]; exact d3⟩
        · obtain ⟨F3, l3, r3, h3⟩ := r2.absorb hp
          exact ⟨F3, l3, r3, by rw [ed]; exact .tup (.of h3) (.inl h3) (Dn.monoAll (l2.trans l3) _ _ d)⟩
      obtain ⟨F3, l3, r3, dx⟩ := item
      refine ⟨C, F3, s2, xs[i], r3, dx, s3, ha, fun σ3 _ _ r4 => ⟨C, F3, s3, r4, ?_⟩⟩
      exact (PostS.up h4 l3).imp (fun _ _ ⟨G, s4, l, r, q⟩ => ⟨hlt, G, s4, l2.trans l, r, q⟩) fun _ _ q => q
  · have ei : i = xs.length := by omega
    rw [ei, List.drop_length] at h2
    exact .inl ⟨hW.2 (by omega), h2 F2 σ2 H2 (Le.refl _) r2⟩
end
end RD
set_option Elab.async false
set_option linter.all false
set_option maxRecDepth 100000
/-! RdIb: a slot's own dict. -/
namespace RD
open PySem L2
section
variable {K : PySem.W.Frag} {F : Hp}
theorem keys_dn : ∀ {ds : List PyData} {vs : List V} {k : List Key}, DnAll K F vs ds → keysOf ds = some k → vs = k.map kV
  | [], _, _, d, e => by
    cases e
    cases d
    rfl
  | x :: ds, _, k, d, e => by
    cases d with
    | cons d1 d2 =>
      have e' : ((key1 x).bind fun j => (keysOf ds).map (j :: ·)) = some k := e
      cases e1 : key1 x with
      | none => rw [e1] at e'; cases e'
      | some j =>
        rw [e1] at e'
        cases e2 : keysOf ds with
        | none => rw [e2] at e'; cases e'
        | some js =>
          rw [e2] at e'
          cases e'
          rw [List.map_cons, ← keys_dn d2 e2]
          congr 1
          cases x <;> cases e1 <;> cases d1 <;> rfl
theorem key_dn {x : PyData} {v : V} {k : List Key} (e : keyOf x = some k) (d : Dn K F v x) : ∃ b, v = .ref b ∧ F b = some (.tup (k.map kV)) := by
  cases x <;> first | cases e | skip
  rename_i ds
  have e' : (if constB (.tuple ds) = true then none else keysOf ds) = some k := e
  cases d with
  | tup q1 q0 q2 =>
    split at e'
    · cases e'
    · rename_i hc
      rcases q0 with q0 | q0 | ⟨_, q0⟩
      · refine ⟨_, rfl, ?_⟩
        rw [q0, keys_dn q2 e']
      · exact absurd q0 hc
      · rw [q0] at e'
        cases e'
theorem look_val (k : List Key) : ∀ {es : List (List Key × V)} {kvs : List (List Key × PyData)}, es.map (·.1) = kvs.map (·.1) → DnAll K F (es.map (·.2)) (kvs.map (·.2)) →
    match lookD kvs k with
    | none => valV es k = none
    | some x => ∃ v, valV es k = some v ∧ Dn K F v x
  | [], [], _, _ => rfl
  | [], _ :: _, h, _ => by cases h
  | _ :: _, [], h, _ => by cases h
  | (j, v) :: es, (j', x) :: kvs, h, d => by
    have hj : j = j' ∧ es.map (·.1) = kvs.map (·.1) := by simpa using h
    obtain ⟨rfl, ht⟩ := hj
    have d' : DnAll K F (v :: es.map (·.2)) (x :: kvs.map (·.2)) := d
    cases d' with
    | cons d1 d2 =>
      have ih := look_val k ht d2
      unfold lookD
      by_cases hk : j = k
      · rw [if_pos hk]
        exact ⟨v, valV_pos hk, d1⟩
      · rw [if_neg hk]
        rw [valV_neg (p := (j, v)) hk]
        exact ih
theorem any_keys (k : List Key) : ∀ {es : List (List Key × V)} {kvs : List (List Key × PyData)}, es.map (·.1) = kvs.map (·.1) → (es.any fun p => decide (p.1 = k)) = kvs.any fun p => decide (p.1 = k)
  | [], [], _ => rfl
  | [], _ :: _, h => by cases h
  | _ :: _, [], h => by cases h
  | p :: es, q :: kvs, h => by
    have hj : p.1 = q.1 ∧ es.map (·.1) = kvs.map (·.1) := by simpa using h
    rw [List.any_cons, List.any_cons, hj.1, any_keys k hj.2]
theorem map_val (k : List Key) {v : V} {y : PyData} (dv : Dn K F v y) : ∀ {es : List (List Key × V)} {kvs : List (List Key × PyData)}, es.map (·.1) = kvs.map (·.1) → DnAll K F (es.map (·.2)) (kvs.map (·.2)) →
    (es.map fun p => if p.1 = k then (p.1, v) else p).map (·.1) = (kvs.map fun p => if p.1 = k then (p.1, y) else p).map (·.1) ∧
    DnAll K F ((es.map fun p => if p.1 = k then (p.1, v) else p).map (·.2)) ((kvs.map fun p => if p.1 = k then (p.1, y) else p).map (·.2))
  | [], [], _, _ => ⟨rfl, .nil⟩
  | [], _ :: _, h, _ => by cases h
  | _ :: _, [], h, _ => by cases h
  | (j, u) :: es, (j', x) :: kvs, h, d => by
    have hj : j = j' ∧ es.map (·.1) = kvs.map (·.1) := by simpa using h
    obtain ⟨rfl, ht⟩ := hj
    have d' : DnAll K F (u :: es.map (·.2)) (x :: kvs.map (·.2)) := d
    cases d' with
    | cons d1 d2 =>
      obtain ⟨i1, i2⟩ := map_val k dv ht d2
      by_cases hk : j = k
      · simp only [List.map_cons, if_pos hk]
        exact ⟨by rw [i1], .cons dv i2⟩
      · simp only [List.map_cons, if_neg hk]
        exact ⟨by rw [i1], .cons d1 i2⟩
theorem put_val (k : List Key) {v : V} {y : PyData} (dv : Dn K F v y) {es : List (List Key × V)} {kvs : List (List Key × PyData)} (h : es.map (·.1) = kvs.map (·.1)) (d : DnAll K F (es.map (·.2)) (kvs.map (·.2))) : OwnIs K F (.d (putD kvs k y)) (.dT (putK es k v)) := by
  refine ⟨_, rfl, ?_⟩
  unfold putD putK
  rw [any_keys k h]
  split
  · exact map_val k dv h d
  · refine ⟨by rw [List.map_append, List.map_append, h]; rfl, ?_⟩
    rw [List.map_append, List.map_append]
    exact d.append (.cons dv .nil)
/-- a slot's own thing is replaced -/
theorem Rel.swap {C : Ct} {s : S} {σ : L2.St} {H : Hp} (r : Rel K C F s σ H) {i : Nat} {o o' : Own} {q : Addr} {u u' : HO} (e : s.rho[i]? = some (.ow o)) (hσ : σ[i]? = some (some (.ref q))) (hH : H q = some u) (dv : OwnIs K F o' u') :
    Rel K C F ⟨s.rho.set i (.ow o'), s.bag⟩ σ (upd H q u') := by
  obtain ⟨p, w, h1, h2, h3, h4, h5, h6⟩ := r.own i o e
  rw [hσ] at h1
  cases h1
  have hne : ∀ {a : Addr} {z : HO}, F a = some z → a ≠ q := fun e z => by
    subst z
    rw [h3] at e
    cases e
  have hi : i < s.rho.length := (List.getElem?_eq_some_iff.mp e).1
  have r0 := r.unset i
  have old : ∀ {j : Nat} {es : Own}, (s.rho.set i Slot.un)[j]? = some (.ow es) → i ≠ j ∧ s.rho[j]? = some (.ow es) := fun {j es} e' => by
    by_cases hj : i = j
    · subst hj
      rw [List.getElem?_set_self hi] at e'
      cases e'
    · rw [List.getElem?_set_ne hj] at e'
      exact ⟨hj, e'⟩
  have r1 : Rel K C F ⟨s.rho.set i .un, s.bag⟩ σ (upd H q u') := by
    refine ⟨fun a z h => ?_, r0.ge, r0.new, fun a z h n => ?_, r0.hbag, fun x y h => ?_, r0.len, r0.val, fun j es h => ?_, r0.apart⟩
    · rw [upd_ne (hne h)]
      exact r0.le a z h
    · have : a ≠ q := fun z => by
        subst z
        rw [h4] at h
        cases h
      rw [upd_ne this]
      exact r0.keep a z h n
    · obtain ⟨b1, b2⟩ := r0.bag x y h
      have : C.b ≠ q := fun z => by
        rcases h5 with w | w
        · have h7 := r.hbag
          have h' : s.bag = some (x, y) := h
          rw [h', w] at h7
          cases h7
        · exact w z.symm
      exact ⟨by rw [upd_ne this]; exact b1, b2⟩
    · obtain ⟨p', ws, g1, g2, g3⟩ := r0.own j es h
      obtain ⟨hj, h'⟩ := old h
      have : p' ≠ q := fun z => by
        subst z
        exact hj (r.apart i j o es p' e h' hσ g1)
      exact ⟨p', ws, g1, by rw [upd_ne this]; exact g2, g3⟩
  have r2 := r1.setO i (p := q) (ds := o') upd_same h3 h4 h5 dv fun j es hj e' z => by
    obtain ⟨_, h'⟩ := old e'
    exact hj (r.apart i j o es q e h' hσ z)
  have r3 : Rel K C F ⟨(s.rho.set i Slot.un).set i (.ow o'), s.bag⟩ (σ.set i (some (.ref q))) (upd H q u') := r2
  rw [List.set_set, set_same hσ] at r3
  exact r3
theorem dict_at {s : S} {i : Nat} {kvs : List (List Key × PyData)} (h : s.odict i = some kvs) : s.rho[i]? = some (.ow (.d kvs)) := by
  unfold S.odict at h
  split at h
  · rename_i e
    cases h
    exact e
  · cases h
theorem dict_st {C : Ct} {s : S} {σ : L2.St} {H : Hp} (r : Rel K C F s σ H) {i : Nat} {kvs : List (List Key × PyData)} (h : s.dict i = some kvs) :
    ∃ p es, σ[i]? = some (some (.ref p)) ∧ Rd H p (.dT es) ∧ es.map (·.1) = kvs.map (·.1) ∧ DnAll K F (es.map (·.2)) (kvs.map (·.2)) := by
  unfold S.dict at h
  split at h
  · rename_i e
    cases h
    obtain ⟨p, _, g1, g2, _, _, _, es, rfl, g6, g7⟩ := r.own i (.d kvs) e
    exact ⟨p, es, g1, .inl g2, g6, g7⟩
  · rename_i e
    obtain ⟨v, g1, g2⟩ := r.val i _ e
    obtain ⟨a, od, es, rfl, q1, q2, q3⟩ := undct_dn g2 h
    exact ⟨a, es, g1, .inr ⟨od, r.le _ _ q1⟩, q2, q3⟩
  · cases h
end
section
variable {X : Cx} {W : WX} {C : Ct} {F : Hp} {s : S} {σ : L2.St} {H : Hp} {a b v : T} {ea eb ev_ : Expr} {i : Nat} {x : Str} {px pos : Pos}
/-- the dict of a slot, a key, what is there -/
theorem at_key {K : PySem.W.Frag} (r : Rel K C F s σ H) {y : PyData} {w : V} {k : List Key} {kvs : List (List Key × PyData)} (d : Dn K F w y) (e : keyOf y = some k) (e2 : s.dict i = some kvs) :
    ∃ p q o, σ[i]? = some (some (.ref p)) ∧ w = .ref q ∧ Rd H p (.dT o) ∧ H q = some (.tup (k.map kV)) ∧ o.length = kvs.length ∧ o.map (·.1) = kvs.map (·.1) ∧ DnAll K F (o.map (·.2)) (kvs.map (·.2)) ∧
      match lookD kvs k with
      | none => valV o k = none
      | some x => ∃ v, valV o k = some v ∧ Dn K F v x := by
  obtain ⟨p, es, g1, g2, g6, g7⟩ := dict_st r e2
  obtain ⟨q, rfl, hq⟩ := key_dn e d
  refine ⟨p, q, es, g1, rfl, g2, r.le _ _ hq, ?_, g6, g7, look_val k g6 g7⟩
  have := congrArg List.length g6
  simpa using this
theorem DGet.rd {H : Hp} {a b : Addr} {kvs : List (List Key × V)} {k : List Key} (e : Rd H a (.dT kvs)) (eb : H b = some (.tup (k.map kV))) : DGet H a (.ref b) (valV kvs k) := .inr ⟨kvs, k, b, e, rfl, eb, rfl⟩
theorem in_at {K : PySem.W.Frag} {mg : Str → Option Value} {neg : Bool} (r : Rel K C F s σ H) {y : PyData} {w : V} (d : Dn K F w y) {Q : U → Hp → S → Hp → Prop}
    (h : Post K mg W C F σ (match keyOf y, s.dict i with
      | some k, some kvs => R.ok (.d (.bool (xor neg (lookD kvs k).isSome))) s
      | _, _ => .stuck) Q) : ∃ p o, σ[i]? = some (some (.ref p)) ∧ DGet H p w o ∧ Post K mg W C F σ (R.ok (.d (.bool (xor neg o.isSome))) s) Q := by
  cases e : keyOf y with
  | none => rw [e] at h; exact h.elim
  | some k =>
    cases e2 : s.dict i with
    | none => rw [e, e2] at h; exact h.elim
    | some kvs =>
      rw [e, e2] at h
      dsimp only at h
      obtain ⟨p, q, o, g1, rfl, g2, g3, _, _, _, g4⟩ := at_key r d e e2
      refine ⟨p, _, g1, DGet.rd g2 g3, ?_⟩
      cases lk : lookD kvs k with
      | none =>
        rw [lk] at g4
        rw [lk] at h
        rw [show valV o k = none from g4]
        exact h
      | some z =>
        rw [lk] at g4
        rw [lk] at h
        obtain ⟨u, e3, _⟩ := g4
        rw [e3]
        exact h
theorem sx_inD (hu : X.A.units + 1 < cLine) (neg : Bool) (hi : X.N[i]? = some x) (hv : Vis X.env.scope x) (hd : (x == ("__debug__" : Str)) = false) (hcd : (x == ("__classdict__" : Str)) = false) (ha : PE X ea (tX X.K X.mg W a)) :
    PE X (.Compare ea [if neg then .NotIn else .In] [.Name x px] pos) (tX X.K X.mg W (.inD neg i a)) := by
  cases neg with
  | false =>
    refine (pe_cmp (pc_din hu ha (pe_var hi hv hd hcd)) (by rfl)).weak fun σ H Q ⟨C, F, s, r, h⟩ => ⟨C, F, s, r, ?_⟩
    refine (Post.dat h).imp fun u F1 s1 H1 l1 r1 ⟨x, e, h1⟩ v d1 => ?_
    subst e
    obtain ⟨p, o, g1, g2, h2⟩ := in_at r1 d1 h1
    exact ⟨.ref p, g1, p, o, rfl, g2, by simpa using h2.fin r1 (.bl _)⟩
  | true =>
    refine (pe_cmp (pc_dnotin hu ha (pe_var hi hv hd hcd)) (by rfl)).weak fun σ H Q ⟨C, F, s, r, h⟩ => ⟨C, F, s, r, ?_⟩
    refine (Post.dat h).imp fun u F1 s1 H1 l1 r1 ⟨x, e, h1⟩ v d1 => ?_
    subst e
    obtain ⟨p, o, g1, g2, h2⟩ := in_at r1 d1 h1
    exact ⟨.ref p, g1, p, o, rfl, g2, by simpa using h2.fin r1 (.bl _)⟩
theorem st_inD (hu : X.A.units + 1 < cLine) (neg : Bool) (hi : X.N[i]? = some x) (hv : Vis X.env.scope x) (hd : (x == ("__debug__" : Str)) = false) (hcd : (x == ("__classdict__" : Str)) = false) (ha : PE X ea (tX X.K X.mg W a)) :
    PT X (.Compare ea [if neg then .NotIn else .In] [.Name x px] pos) (tXT X.K X.mg W (.inD neg i a)) := by
  cases neg with
  | false =>
    refine (pt_cmp (pc_din hu ha (pe_var hi hv hd hcd)) (by rfl)).weak fun σ H Q ⟨C, F, s, r, h⟩ => ⟨C, F, s, r, ?_⟩
    refine (Post.dat (Post.tst h)).imp fun u F1 s1 H1 l1 r1 ⟨x, e, h1⟩ v d1 => ?_
    subst e
    obtain ⟨p, o, g1, g2, h2⟩ := in_at r1 d1 h1
    obtain ⟨z, ez, h3⟩ := h2.here r1
    cases ez
    exact ⟨.ref p, g1, p, o, rfl, g2, _, rfl, by simpa using h3.here r1⟩
  | true =>
    refine (pt_cmp (pc_dnotin hu ha (pe_var hi hv hd hcd)) (by rfl)).weak fun σ H Q ⟨C, F, s, r, h⟩ => ⟨C, F, s, r, ?_⟩
    refine (Post.dat (Post.tst h)).imp fun u F1 s1 H1 l1 r1 ⟨x, e, h1⟩ v d1 => ?_
    subst e
    obtain ⟨p, o, g1, g2, h2⟩ := in_at r1 d1 h1
    obtain ⟨z, ez, h3⟩ := h2.here r1
    cases ez
    exact ⟨.ref p, g1, p, o, rfl, g2, _, rfl, by simpa using h3.here r1⟩
/-- d[k] -/
theorem sx_atD (hu : X.A.units + 1 < cLine) (hi : X.N[i]? = some x) (hv : Vis X.env.scope x) (hd : (x == ("__debug__" : Str)) = false) (hcd : (x == ("__classdict__" : Str)) = false) (ha : PE X ea (tX X.K X.mg W a)) (hs : NoSl ea) :
    PE X (.Subscript (.Name x px) ea pos) (tX X.K X.mg W (.atD i a)) := by
  refine (pe_dget hu (pe_var hi hv hd hcd) ha hs).weak fun σ H Q ⟨C, F, s, r, h⟩ => ?_
  have h' : Post X.K X.mg W C F σ (match s.dict i with
    | none => R.stuck
    | some _ => (ev a s).dat fun x s => match keyOf x, s.dict i with
      | some k, some kvs => match lookD kvs k with
        | some z => .ok (.d z) s
        | none => .stuck
      | _, _ => .stuck) (fun u F' _ H' => ∀ v, DenU X.K C.b F' u v → Q v H') := h
  cases e0 : s.dict i with
  | none => rw [e0] at h'; exact h'.elim
  | some kvs0 =>
    rw [e0] at h'
    obtain ⟨p, _, g1, _⟩ := dict_st r e0
    refine ⟨.ref p, g1, C, F, s, r, ?_⟩
    refine (Post.dat h').imp fun u F1 s1 H1 l1 r1 ⟨y, e, h1⟩ v d1 => ?_
    subst e
    cases e : keyOf y with
    | none => rw [e] at h1; exact h1.elim
    | some k =>
      cases e2 : s1.dict i with
      | none => rw [e, e2] at h1; exact h1.elim
      | some kvs =>
        rw [e, e2] at h1
        dsimp only at h1
        obtain ⟨p', q, o, f1, rfl, f2, f3, _, _, _, f4⟩ := at_key r1 d1 e e2
        rw [g1] at f1
        cases f1
        cases lk : lookD kvs k with
        | none => rw [lk] at h1; exact h1.elim
        | some z =>
          rw [lk] at h1 f4
          obtain ⟨w, e3, dw⟩ := f4
          exact ⟨p, w, rfl, by rw [← e3]; exact DGet.rd f2 f3, h1.fin r1 dw⟩
/-- d.get(k, z) -/
theorem sx_getD {eb : Expr} {apos cpos : Pos} (hu : X.A.units + 1 < cLine) (hi : X.N[i]? = some x) (hv : Vis X.env.scope x) (hd : (x == ("__debug__" : Str)) = false) (hcd : (x == ("__classdict__" : Str)) = false) (ha : PE X ea (tX X.K X.mg W a)) (hb : PE X eb (tX X.K X.mg W b))
    (m : M2 X (.Name x px) "get" apos ea eb cpos) : PE X (.Call (.Attribute (.Name x px) "get" apos) [ea, eb] [] cpos) (tX X.K X.mg W (.getD i a b)) := by
  refine (pe_dget2 hu (pe_var hi hv hd hcd) ha hb m).weak fun σ H Q ⟨C, F, s, r, h⟩ => ?_
  have h' : Post X.K X.mg W C F σ (match s.dict i with
    | none => R.stuck
    | some _ => (ev a s).dat fun x s => (ev b s).dat fun y s => match keyOf x, s.dict i with
      | some k, some kvs => .ok (.d ((lookD kvs k).getD y)) s
      | _, _ => .stuck) (fun u F' _ H' => ∀ v, DenU X.K C.b F' u v → Q v H') := h
  cases e0 : s.dict i with
  | none => rw [e0] at h'; exact h'.elim
  | some kvs0 =>
    rw [e0] at h'
    obtain ⟨p, es0, g1, g2, _⟩ := dict_st r e0
    refine ⟨.ref p, g1, p, rfl, .inr ⟨_, g2⟩, C, F, s, r, ?_⟩
    refine (Post.dat h').imp fun u F1 s1 H1 l1 r1 ⟨y, e, h1⟩ v d1 => ⟨C, F1, s1, r1, ?_⟩
    subst e
    refine (Post.dat h1).imp fun u F2 s2 H2 l2 r2 ⟨z, e, h2⟩ w d2 => ?_
    subst e
    cases e : keyOf y with
    | none => rw [e] at h2; exact h2.elim
    | some k =>
      cases e2 : s2.dict i with
      | none => rw [e, e2] at h2; exact h2.elim
      | some kvs =>
        rw [e, e2] at h2
        dsimp only at h2
        obtain ⟨p', q, o, f1, rfl, f2, f3, _, _, _, f4⟩ := at_key r2 (Dn.mono l2 _ _ d1) e e2
        rw [g1] at f1
        cases f1
        refine ⟨valV o k, DGet.rd f2 f3, ?_⟩
        cases lk : lookD kvs k with
        | none =>
          rw [lk] at h2 f4
          rw [show valV o k = none from f4]
          exact h2.fin r2 d2
        | some t =>
          rw [lk] at h2 f4
          obtain ⟨w', e3, dw⟩ := f4
          rw [e3]
          exact h2.fin r2 dw
/-- d = {} -/
theorem ss_newD {p1 : Pos} (hN : X.N.Nodup) (hi : X.N[i]? = some x) (hx : Loc X.env.scope x) (hf : X.fn x = true ∨ X.env.scope.names.lookup x = some .local) :
    PS X (.Assign [.Name x px] (.Dict [] [] p1) pos) (tS X.K X.mg W (.newD i)) := by
  refine (ps_set hN hi hx pe_dnewT rfl hf).weak fun D σ H ⟨C, F, s, r, h⟩ p hp => ?_
  have r1 := r.lay (.dT []) hp
  exact h F _ _ (Le.refl _) (r1.setO i (ds := .d []) upd_same (r.freeF hp) (r.fresh0 hp) (r.bne hp) ⟨[], rfl, rfl, .nil⟩ fun j es _ e z => r.ownNe hp j es e z)
/-- d[k] = v -/
theorem put_at {K : PySem.W.Frag} (r : Rel K C F s σ H) {y z : PyData} {w w2 : V} {k : List Key} {kvs : List (List Key × PyData)} {p : Addr} (d1 : Dn K F w z) (d2 : Dn K F w2 y) (e : keyOf y = some k) (e2 : s.odict i = some kvs) (g1 : σ[i]? = some (some (.ref p))) (hb : kvs.length < big) :
    ∃ H', DPut H p w2 w H' ∧ Rel K C F ⟨s.rho.set i (.ow (.d (putD kvs k z))), s.bag⟩ σ H' := by
  obtain ⟨p', _, f1, f2, _, _, _, o, rfl, f5, f6⟩ := r.own i (.d kvs) (dict_at e2)
  rw [g1] at f1
  cases f1
  obtain ⟨q, rfl, hq⟩ := key_dn e d2
  have f4 : o.length = kvs.length := by simpa using congrArg List.length f5
  exact ⟨_, DPut.t f2 (r.le _ _ hq) (by rw [f4]; exact Nat.lt_of_lt_of_le hb big_line), r.swap (dict_at e2) g1 f2 (put_val k d1 f5 f6)⟩
theorem ss_putD {pos' : Pos} (hu : X.A.units + 1 < cLine) (hi : X.N[i]? = some x) (hv : Vis X.env.scope x) (hd : (x == ("__debug__" : Str)) = false) (hcd : (x == ("__classdict__" : Str)) = false) (ha : PE X ea (tX X.K X.mg W a)) (hvv : PE X ev_ (tX X.K X.mg W v))
    (hs : swapsWith ev_ (some (.Subscript (.Name x px) ea pos')) pos.line X.env = pure false) :
    PS X (.Assign [.Subscript (.Name x px) ea pos'] ev_ pos) (tS X.K X.mg W (.putD i a v)) := by
  refine (ps_dput hu (pe_var hi hv hd hcd) ha hvv hs).weak fun D σ H ⟨C, F, s, r, h⟩ => ⟨C, F, s, r, ?_⟩
  refine (PostS.dat h).imp fun u F1 s1 H1 l1 r1 ⟨y, e, h1⟩ w d1 => ?_
  subst e
  have h' : PostS X.K X.mg W C F1 (match s1.odict i with
    | none => (R.stuck : R Out)
    | some _ => (ev a s1).dat fun x s => match keyOf x, s.odict i with
      | some k, some kvs => if kvs.length < big then .ok .nx ⟨s.rho.set i (.ow (.d (putD kvs k y))), s.bag⟩ else .stuck
      | _, _ => .stuck) D := h1
  cases e0 : s1.odict i with
  | none => rw [e0] at h'; exact h'.elim
  | some kvs0 =>
    rw [e0] at h'
    obtain ⟨p, _, g1, _⟩ := r1.own i (.d kvs0) (dict_at e0)
    refine ⟨.ref p, g1, C, F1, s1, r1, ?_⟩
    refine (PostS.dat h').imp fun u F2 s2 H2 l2 r2 ⟨z, e, h2⟩ w2 d2 => ?_
    subst e
    cases e : keyOf z with
    | none => rw [e] at h2; exact h2.elim
    | some k =>
      cases e2 : s2.odict i with
      | none => rw [e, e2] at h2; exact h2.elim
      | some kvs =>
        rw [e, e2] at h2
        have h3 : PostS X.K X.mg W C F2 (if kvs.length < big then R.ok Out.nx ⟨s2.rho.set i (.ow (.d (putD kvs k y))), s2.bag⟩ else .stuck) D := h2
        split at h3
        · rename_i hb
          obtain ⟨H3, q1, q2⟩ := put_at r2 (Dn.mono l2 _ _ d1) d2 e e2 g1 hb
          exact ⟨p, _, rfl, q1, h3 F2 σ _ (Le.refl _) q2⟩
        · exact h3.elim
end
end RD
set_option Elab.async false
set_option linter.all false
set_option maxRecDepth 100000
/-! RdIc: a slot's own list asked and popped; list(d), x.index(y), tuple(range(n)); new dicts beside other things. -/
namespace RD
open PySem L2
section
variable {K : PySem.W.Frag} {C : Ct} {F : Hp} {s : S} {σ : L2.St} {H : Hp}
/-- beside it stands a new object at D -/
abbrev Ct.put (C : Ct) (D : Addr) (o : HO) : Ct := { C with H0 := upd C.H0 D o }
theorem Rel.toPut (r : Rel K C F s σ H) {D : Addr} (hD : H D = none) (ob : HO) : Rel K (C.put D ob) F s σ (upd H D ob) := by
  have hF := r.freeF hD
  have h0 := r.fresh0 hD
  have r1 := r.lay ob hD
  refine ⟨r1.le, r1.ge, fun a o e n => ?_, fun a o e n => ?_, r1.hbag, r1.bag, r1.len, r1.val, fun i ds e => ?_, r1.apart⟩
  · rcases r1.new a o e n with q | q
    · exact .inl q
    · refine .inr ?_
      show upd C.H0 D ob a = none
      rw [upd_ne]
      · exact q
      · intro z
        subst z
        rw [hF] at e
        cases e
  · have e' : upd C.H0 D ob a = some o := e
    by_cases hp : a = D
    · subst hp
      rw [upd_same] at e' ⊢
      exact e'
    · rw [upd_ne hp] at e'
      exact r1.keep a o e' n
  · obtain ⟨p, vs, h1, h2, h3, h4, h5⟩ := r.own i ds e
    have hp : p ≠ D := by
      intro z
      subst z
      rw [hD] at h2
      cases h2
    exact ⟨p, vs, h1, by rw [upd_ne hp]; exact h2, h3, by show upd C.H0 D ob p = none; rw [upd_ne hp]; exact h4, h5⟩
/-- it is let go: it stands there, it is nobody's -/
theorem Rel.offPut {D : Addr} {ob : HO} (r : Rel K (C.put D ob) F s σ H) (h0 : C.H0 D = none) (hF0 : C.F0 D = none) (hbD : C.hb = false ∨ D ≠ C.b) (no : ∀ xs, ob ≠ .tup xs) :
    F D = none ∧ H D = some ob ∧ Rel K C F s σ H ∧ ∀ (i : Nat) (ds : Own), s.rho[i]? = some (.ow ds) → σ[i]? ≠ some (some (.ref D)) := by
  have hH : H D = some ob := r.keep D _ upd_same hbD
  have hF : F D = none := by
    cases e : F D with
    | none => rfl
    | some o =>
      rcases r.new D o e (fun xs z => by have h7 := r.le D o e; rw [hH, z] at h7; cases h7; exact no xs rfl) with q | q
      · rw [hF0] at q; cases q
      · have q' : upd C.H0 D ob D = none := q
        rw [upd_same] at q'
        cases q'
  have own0 : ∀ {i : Nat} {ds : Own}, s.rho[i]? = some (.ow ds) → ∃ p vs, σ[i]? = some (some (.ref p)) ∧ H p = some vs ∧ F p = none ∧ C.H0 p = none ∧ p ≠ D ∧ (C.hb = false ∨ p ≠ C.b) ∧ OwnIs K F ds vs := fun {i ds} e => by
    obtain ⟨p, vs, h1, h2, h3, h4, h5, h6⟩ := r.own i ds e
    have h4' : upd C.H0 D ob p = none := h4
    have hp : p ≠ D := by
      intro z
      subst z
      rw [upd_same] at h4'
      cases h4'
    rw [upd_ne hp] at h4'
    exact ⟨p, vs, h1, h2, h3, h4', hp, h5, h6⟩
  refine ⟨hF, hH, ⟨r.le, r.ge, fun a o e n => ?_, fun a o e n => ?_, r.hbag, r.bag, r.len, r.val, fun i ds e => ?_, r.apart⟩, fun i ds e z => ?_⟩
  · rcases r.new a o e n with q | q
    · exact .inl q
    · have q' : upd C.H0 D ob a = none := q
      by_cases hp : a = D
      · subst hp
        rw [upd_same] at q'
        cases q'
      · rw [upd_ne hp] at q'
        exact .inr q'
  · have hp : a ≠ D := by
      intro z
      subst z
      rw [h0] at e
      cases e
    exact r.keep a o (by show upd C.H0 D ob a = some o; rw [upd_ne hp]; exact e) n
  · obtain ⟨p, vs, h1, h2, h3, h4, _, h5, h6⟩ := own0 e
    exact ⟨p, vs, h1, h2, h3, h4, h5, h6⟩
  · obtain ⟨p, vs, h1, h2, h3, h4, hp, h5, h6⟩ := own0 e
    rw [z] at h1
    cases h1
    exact hp rfl
theorem Rel.f0 (r : Rel K C F s σ H) {p : Addr} (h : H p = none) : C.F0 p = none := by
  cases q : C.F0 p with
  | none => rfl
  | some o =>
    have := r.le _ _ (r.ge _ _ q)
    rw [h] at this
    cases this
theorem DnAll.last {K : PySem.W.Frag} {F : Hp} : ∀ {vs : List V} {ds : List PyData}, DnAll K F vs ds → DnAll K F vs.dropLast ds.dropLast
  | _, _, .nil => .nil
  | _, _, .cons _ .nil => .nil
  | _, _, .cons r (.cons r2 t) => .cons r (DnAll.last (.cons r2 t))
/-- a dict's keys come into what is tracked -/
theorem Rel.absorbs : ∀ {bs : List Addr} {kvs : List (List Key × V)} {F : Hp}, Rel K C F s σ H → IsKeys H kvs bs → ∃ F', Le F F' ∧ Rel K C F' s σ H ∧ DnAll K F' (bs.map V.ref) (kvs.map fun p => keyD p.1)
  | [], _, F, r, k => by
    cases k
    exact ⟨F, Le.refl F, r, .nil⟩
  | b :: bs, kvs, F, r, k => by
    cases k with
    | @cons p _ ps _ h t =>
      obtain ⟨F1, l1, r1, e1⟩ := r.absorb h
      obtain ⟨F2, l2, r2, d2⟩ := Rel.absorbs r1 t
      exact ⟨F2, l1.trans l2, r2, .cons (.tup (.of (l2 _ _ e1)) (.inl (l2 _ _ e1)) (keyD_dn p.1)) d2⟩
end
section
variable {X : Cx} {W : WX} {C : Ct} {F : Hp} {s : S} {σ : L2.St} {H : Hp} {a b v : T} {ea eb ev_ : Expr} {i : Nat} {x : Str} {px pos : Pos}
/-! ### k in e, e a dict that comes -/
theorem inX_at {K : PySem.W.Frag} {mg : Str → Option Value} {neg : Bool} (r : Rel K C F s σ H) {y z : PyData} {w u : V} (d : Dn K F w y) (d2 : Dn K F u z) {Q : U → Hp → S → Hp → Prop}
    (h : Post K mg W C F σ (match keyOf y, undct z with
      | some k, some kvs => R.ok (.d (.bool (xor neg (lookD kvs k).isSome))) s
      | _, _ => .stuck) Q) : ∃ p o, u = .ref p ∧ DGet H p w o ∧ Post K mg W C F σ (R.ok (.d (.bool (xor neg o.isSome))) s) Q := by
  cases e : keyOf y with
  | none => rw [e] at h; exact h.elim
  | some k =>
    cases e2 : undct z with
    | none => rw [e, e2] at h; exact h.elim
    | some kvs =>
      rw [e, e2] at h
      dsimp only at h
      obtain ⟨p, od, es, rfl, q1, q2, q3⟩ := undct_dn d2 e2
      obtain ⟨q, rfl, hq⟩ := key_dn e d
      have g4 := look_val k q2 q3
      refine ⟨p, _, rfl, DGet.rd (.inr ⟨od, r.le _ _ q1⟩) (r.le _ _ hq), ?_⟩
      cases lk : lookD kvs k with
      | none =>
        rw [lk] at g4 h
        rw [show valV es k = none from g4]
        exact h
      | some z =>
        rw [lk] at g4 h
        obtain ⟨u, e3, _⟩ := g4
        rw [e3]
        exact h
theorem sx_inX (hu : X.A.units + 1 < cLine) (neg : Bool) (ha : PE X ea (tX X.K X.mg W a)) (hb : PE X eb (tX X.K X.mg W b)) (hm : behindInMarks (if neg then .NotIn else .In) eb = false) :
    PE X (.Compare ea [if neg then .NotIn else .In] [eb] pos) (tX X.K X.mg W (.inX neg a b)) := by
  cases neg with
  | false =>
    refine (pe_cmp (pc_din hu ha hb) hm).weak fun σ H Q ⟨C, F, s, r, h⟩ => ⟨C, F, s, r, ?_⟩
    refine (Post.dat h).imp fun u F1 s1 H1 l1 r1 ⟨x, e, h1⟩ v d1 => ⟨C, F1, s1, r1, ?_⟩
    subst e
    refine (Post.dat h1).imp fun u F2 s2 H2 l2 r2 ⟨y, e, h2⟩ w d2 => ?_
    subst e
    obtain ⟨p, o, rfl, g2, h3⟩ := inX_at r2 (Dn.mono l2 _ _ d1) d2 h2
    exact ⟨p, o, rfl, g2, by simpa using h3.fin r2 (.bl _)⟩
  | true =>
    refine (pe_cmp (pc_dnotin hu ha hb) hm).weak fun σ H Q ⟨C, F, s, r, h⟩ => ⟨C, F, s, r, ?_⟩
    refine (Post.dat h).imp fun u F1 s1 H1 l1 r1 ⟨x, e, h1⟩ v d1 => ⟨C, F1, s1, r1, ?_⟩
    subst e
    refine (Post.dat h1).imp fun u F2 s2 H2 l2 r2 ⟨y, e, h2⟩ w d2 => ?_
    subst e
    obtain ⟨p, o, rfl, g2, h3⟩ := inX_at r2 (Dn.mono l2 _ _ d1) d2 h2
    exact ⟨p, o, rfl, g2, by simpa using h3.fin r2 (.bl _)⟩
theorem st_inX (hu : X.A.units + 1 < cLine) (neg : Bool) (ha : PE X ea (tX X.K X.mg W a)) (hb : PE X eb (tX X.K X.mg W b)) (hm : behindInMarks (if neg then .NotIn else .In) eb = false) :
    PT X (.Compare ea [if neg then .NotIn else .In] [eb] pos) (tXT X.K X.mg W (.inX neg a b)) := by
  cases neg with
  | false =>
    refine (pt_cmp (pc_din hu ha hb) hm).weak fun σ H Q ⟨C, F, s, r, h⟩ => ⟨C, F, s, r, ?_⟩
    refine (Post.dat (Post.tst h)).imp fun u F1 s1 H1 l1 r1 ⟨x, e, h1⟩ v d1 => ⟨C, F1, s1, r1, ?_⟩
    subst e
    refine (Post.dat h1).imp fun u F2 s2 H2 l2 r2 ⟨y, e, h2⟩ w d2 => ?_
    subst e
    obtain ⟨p, o, rfl, g2, h3⟩ := inX_at r2 (Dn.mono l2 _ _ d1) d2 h2
    obtain ⟨z, ez, h4⟩ := h3.here r2
    cases ez
    exact ⟨p, o, rfl, g2, _, rfl, by simpa using h4.here r2⟩
  | true =>
    refine (pt_cmp (pc_dnotin hu ha hb) hm).weak fun σ H Q ⟨C, F, s, r, h⟩ => ⟨C, F, s, r, ?_⟩
    refine (Post.dat (Post.tst h)).imp fun u F1 s1 H1 l1 r1 ⟨x, e, h1⟩ v d1 => ⟨C, F1, s1, r1, ?_⟩
    subst e
    refine (Post.dat h1).imp fun u F2 s2 H2 l2 r2 ⟨y, e, h2⟩ w d2 => ?_
    subst e
    obtain ⟨p, o, rfl, g2, h3⟩ := inX_at r2 (Dn.mono l2 _ _ d1) d2 h2
    obtain ⟨z, ez, h4⟩ := h3.here r2
    cases ez
    exact ⟨p, o, rfl, g2, _, rfl, by simpa using h4.here r2⟩
/-! ### pop, != [] -/
theorem sx_popO {apos : Pos} (hi : X.N[i]? = some x) (hv : Vis X.env.scope x) (hd : (x == ("__debug__" : Str)) = false) (hcd : (x == ("__classdict__" : Str)) = false) (hline : (apos.endLine == pos.line) = true) :
    PE X (.Call (.Attribute (.Name x px) "pop" apos) [] [] pos) (tX X.K X.mg W (.popO i)) := by
  refine (pe_bm0 PySem.F.plainAttrs_list PySem.F.slot_list_pop PySem.F.type_list_pop mt_pop (pe_var hi hv hd hcd) rfl hline).weak fun σ H Q ⟨C, F, s, r, h⟩ => ?_
  have h' : Post X.K X.mg W C F σ (match s.rho[i]? with
    | some (.ow (.l ds)) => match ds.getLast? with
      | some x => R.ok (.d x) ⟨s.rho.set i (.ol ds.dropLast), s.bag⟩
      | none => .stuck
    | _ => .stuck) (fun u F' _ H' => ∀ v, DenU X.K C.b F' u v → Q v H') := h
  split at h'
  · rename_i ds e
    split at h'
    · rename_i y ey
      obtain ⟨p, _, h1, h2, h3, _, _, vs, rfl, h6⟩ := r.own i (.l ds) e
      rw [List.getLast?_eq_getElem?] at ey
      obtain ⟨w, e1, e2⟩ := h6.get ey
      refine ⟨.ref p, h1, .inl ⟨rfl, _, .of h2⟩, p, vs, w, rfl, rfl, h2, by rw [h6.length]; exact e1, ?_⟩
      exact h' F _ (Le.refl F) (r.swap e h1 h2 ⟨_, rfl, DnAll.last h6⟩) w e2
    · exact h'.elim
  · exact h'.elim
theorem sx_pop0 {apos pz : Pos} {j} (hi : X.N[i]? = some x) (hv : Vis X.env.scope x) (hd : (x == ("__debug__" : Str)) = false) (hcd : (x == ("__classdict__" : Str)) = false) (hline : (apos.endLine == pos.line) = true) :
    PE X (.Call (.Attribute (.Name x px) "pop" apos) [.Constant (.int 0) j pz] [] pos) (tX X.K X.mg W (.pop0 i)) := by
  refine (pe_bm PySem.F.plainAttrs_list PySem.F.slot_list_pop PySem.F.type_list_pop mt_popAt (pe_var hi hv hd hcd) (pa_cons pe_int pa_nil) rfl rfl hline).weak fun σ H Q ⟨C, F, s, r, h⟩ => ?_
  have h' : Post X.K X.mg W C F σ (match s.rho[i]? with
    | some (.ow (.l (x :: ds))) => R.ok (.d x) ⟨s.rho.set i (.ol ds), s.bag⟩
    | _ => .stuck) (fun u F' _ H' => ∀ v, DenU X.K C.b F' u v → Q v H') := h
  split at h'
  · rename_i y ds e
    obtain ⟨p, _, h1, h2, h3, _, _, vs, rfl, h6⟩ := r.own i (.l (y :: ds)) e
    cases h6 with
    | @cons w vs _ _ d1 d2 =>
      refine ⟨.ref p, h1, .inl ⟨rfl, _, .of h2⟩, p, w :: vs, 0, 0, w, rfl, rfl, h2, by decide, by decide, ?_, rfl, ?_⟩
      · unfold seqIndex?
        simp
      · exact h' F _ (Le.refl F) (r.swap e h1 h2 ⟨_, rfl, d2⟩) w d1
  · exact h'.elim
theorem neO_leaf {K : PySem.W.Frag} {mg : Str → Option Value} (r : Rel K C F s σ H) {Q : U → Hp → S → Hp → Prop}
    (h : Post K mg W C F σ (match s.rho[i]? with
      | some (.ow (.l ds)) => if SeqAt.shaped (.list ds) = true then R.ok (.d (.bool (!ds.isEmpty))) s else .stuck
      | _ => .stuck) Q) : ∃ p ds, σ[i]? = some (some (.ref p)) ∧ Dp K H (.ref p) (.list ds) ∧ SeqAt.shaped (.list ds) = true ∧ Post K mg W C F σ (R.ok (.d (.bool (!PyData.eqv (.list ds) (.list [])))) s) Q := by
  split at h
  · rename_i ds e
    split at h
    · rename_i sh
      obtain ⟨p, _, h1, h2, h3, _, _, vs, rfl, h6⟩ := r.own i (.l ds) e
      refine ⟨p, ds, h1, .lst (.of h2) (Dn.dpAll _ _ (DnAll.mono0 r.le h6) (nds_lay ds ?_)), sh, ?_⟩
      · have := SeqAt.canLay_of_shaped sh
        simpa [PyData.canLay0] using this
      · have e2 : PyData.eqv (.list ds) (.list []) = ds.isEmpty := by cases ds <;> rfl
        rw [e2]
        exact h
    · exact h.elim
  · exact h.elim
theorem shaped_nilL : SeqAt.shaped (.list []) = true := by decide +kernel
theorem sx_neO {pl : Pos} (hu : X.A.units + 65 < cLine) (hi : X.N[i]? = some x) (hv : Vis X.env.scope x) (hd : (x == ("__debug__" : Str)) = false) (hcd : (x == ("__classdict__" : Str)) = false) :
    PE X (.Compare (.Name x px) [.NotEq] [.List [] pl] pos) (tX X.K X.mg W (.neO i)) := by
  refine (pe_cmpR (op_neD (by omega)) (pe_var hi hv hd hcd) (pe_lst pa_nil) (by rfl)).weak fun σ H Q ⟨C, F, s, r, h⟩ => ?_
  obtain ⟨p, ds, h1, h2, h3, h4⟩ := neO_leaf r h
  refine ⟨.ref p, h1, Nat.zero_le _, fun q hq => ?_⟩
  have r2 := r.lay (.lst []) hq
  obtain ⟨p', ds', g1, g2, g3, g4⟩ := neO_leaf r2 h
  rw [h1] at g1
  cases g1
  exact ⟨_, _, g2, .lst (.of upd_same) .nil, g3, shaped_nilL, g4.fin r2 (.bl _)⟩
theorem st_neO {pl : Pos} (hu : X.A.units + 65 < cLine) (hi : X.N[i]? = some x) (hv : Vis X.env.scope x) (hd : (x == ("__debug__" : Str)) = false) (hcd : (x == ("__classdict__" : Str)) = false) :
    PT X (.Compare (.Name x px) [.NotEq] [.List [] pl] pos) (tXT X.K X.mg W (.neO i)) := by
  refine (pt_cmpR (op_neD (by omega)) (pe_var hi hv hd hcd) (pe_lst pa_nil) (by rfl)).weak fun σ H Q ⟨C, F, s, r, h⟩ => ?_
  obtain ⟨p, ds, h1, h2, h3, h4⟩ := neO_leaf r (Post.tst h)
  refine ⟨.ref p, h1, Nat.zero_le _, fun q hq => ?_⟩
  have r2 := r.lay (.lst []) hq
  obtain ⟨p', ds', g1, g2, g3, g4⟩ := neO_leaf r2 (Post.tst h)
  rw [h1] at g1
  cases g1
  obtain ⟨z, ez, h5⟩ := g4.here r2
  cases ez
  exact ⟨_, _, g2, .lst (.of upd_same) .nil, g3, shaped_nilL, _, rfl, h5.here r2⟩
/-! ### list(d) -/
theorem sx_keysD {p : Pos} (hc : X.calm = true) (hB : BltOk X.mg) (hg : Gl X "list") (hi : X.N[i]? = some x) (hv : Vis X.env.scope x) (hd : (x == ("__debug__" : Str)) = false) (hcd : (x == ("__classdict__" : Str)) = false) :
    PE X (.Call (.Name "list" p) [.Name x px] [] pos) (tX X.K X.mg W (.keysD i)) := by
  refine (pe_callTy (call_list_dT hc) hg (hB _ (by decide +kernel)) bi_list (pa_cons (pe_var hi hv hd hcd) pa_nil) (by decide) (by decide) rfl rfl).weak fun σ H Q ⟨C, F, s, r, h⟩ => ?_
  have h' : Post X.K X.mg W C F σ (match s.dict i with
    | some kvs => if kvs.length ≤ big then R.ok (.d (.list (kvs.map fun p => keyD p.1))) s else .stuck
    | none => .stuck) (fun u F' _ H' => ∀ v, DenU X.K C.b F' u v → Q v H') := h
  split at h'
  · rename_i kvs e
    split at h'
    · obtain ⟨q, es, g1, g2, g3, g4⟩ := dict_st r e
      refine ⟨.ref q, g1, q, es, rfl, g2, fun l bs hl hk => ?_⟩
      obtain ⟨F1, l1, r1, d1⟩ := r.absorbs hk
      obtain ⟨F2, l2, r2, d2⟩ := r1.lst hl d1
      refine h' F2 _ (l1.trans l2) r2 _ ?_
      have e3 : (es.map fun p => keyD p.1) = kvs.map fun p => keyD p.1 := by
        have := congrArg (List.map keyD) g3
        rw [List.map_map, List.map_map] at this
        exact this
      rw [← e3]
      exact d2
    · exact h'.elim
  · exact h'.elim
/-! ### tuple(range(n)) -/
theorem sx_trg {p p2 pos2 : Pos} (hc : X.calm = true) (hB : BltOk X.mg) (hg : Gl X "tuple") (hg2 : Gl X "range") (ha : PE X ea (tX X.K X.mg W a)) (na : ∀ es, starEach (ea :: es) X.env = (false, eval ea X.env) :: starEach es X.env) :
    PE X (.Call (.Name "tuple" p) [.Call (.Name "range" p2) [ea] [] pos2] [] pos) (tX X.K X.mg W (.trg a)) := by
  refine (pe_tupRg hc hg (hB _ (by decide +kernel)) (prg_1 hg2 (hB _ (by decide +kernel)) ha (na [])) rfl).weak fun σ H Q ⟨C, F, s, r, h⟩ => ⟨C, F, s, r, ?_⟩
  refine (Post.dat h).imp fun u F1 s1 H1 l1 r1 ⟨x, e, h1⟩ v d1 => ?_
  subst e
  cases x with
  | int j =>
    cases d1
    dsimp only at h1
    split at h1
    · rename_i hj
      refine ⟨j, rfl, ⟨by omega, by omega, by omega, by omega, by omega⟩, fun q hq => ?_⟩
      have d := rg_dn (K := X.K) (F := F1) 0 j
      rw [Int.sub_zero] at d
      obtain ⟨F2, l2, r2, d2⟩ := r1.tup hq d
      exact h1 F2 _ l2 r2 _ d2
    · exact h1.elim
  | _ => exact h1.elim
/-! ### xs.index(y) -/
theorem findD_at : ∀ {ds : List PyData} {y : PyData} {j : Nat}, findD ds y = some j → ∃ z, ds[j]? = some z ∧ PyData.eqv z y = true ∧ ∀ (m : Nat) (z' : PyData), m < j → ds[m]? = some z' → PyData.eqv z' y = false
  | [], _, _, h => by cases h
  | x :: xs, y, j, h => by
    unfold findD at h
    split at h
    · rename_i c
      cases h
      exact ⟨x, rfl, c, fun m z' hm _ => absurd hm (Nat.not_lt_zero m)⟩
    · rename_i c
      cases e : findD xs y with
      | none => rw [e] at h; cases h
      | some k =>
        rw [e] at h
        cases h
        obtain ⟨z, h1, h2, h3⟩ := findD_at e
        refine ⟨z, by simpa using h1, h2, fun m z' hm hz => ?_⟩
        cases m with
        | zero =>
          cases (show some x = some z' from hz)
          simpa using c
        | succ m => exact h3 m z' (by have : m + 1 < k + 1 := hm; omega) (by simpa using hz)
theorem sx_idxOf {apos : Pos} (hu : X.A.units + 65 < cLine) (ha : PE X ea (tX X.K X.mg W a)) (hb : PE X eb (tX X.K X.mg W b)) (hs : starEach [eb] X.env = [(false, eval eb X.env)]) (hbase : attributeBase ea "index" X.env (eval ea X.env) = eval ea X.env) (hline : (apos.endLine == pos.line) = true) :
    PE X (.Call (.Attribute ea "index" apos) [eb] [] pos) (tX X.K X.mg W (.idxOf true a b)) := by
  refine (pe_bm PySem.F.plainAttrs_list PySem.F.slot_list_index PySem.F.type_list_index (mt_indexD hu) ha (pa_cons hb pa_nil (by rw [hs]; rfl)) hbase (by rw [hs]; rfl) hline (by rw [hs]; rfl) rfl).weak fun σ H Q ⟨C, F, s, r, h⟩ => ⟨C, F, s, r, ?_⟩
  refine (Post.dat h).imp fun u F1 s1 H1 l1 r1 ⟨x, e, h1⟩ v d1 => ?_
  subst e
  cases x with
  | list ds =>
    cases d1 with
    | @lst ad vs _ q1 q2 =>
      refine ⟨.inl ⟨rfl, vs, .of (r1.le _ _ q1)⟩, C, F1, s1, r1, ?_⟩
      refine (Post.dat h1).imp fun u F2 s2 H2 l2 r2 ⟨y, e, h2⟩ w d2 => ?_
      subst e
      obtain ⟨z, ez, h3⟩ := h2.lift
      simp only [idxofD] at ez
      split at ez
      · rename_i sh
        rw [Bool.and_eq_true] at sh
        cases ef : findD ds y with
        | none => rw [ef] at ez; cases ez
        | some j =>
          rw [ef] at ez
          cases ez
          obtain ⟨z, e1, e2, e3⟩ := findD_at ef
          have c1 := SeqAt.canLay_of_shaped sh.1
          have c2 := SeqAt.canLay_of_shaped sh.2
          have d1 : Dn X.K F2 (.ref ad) (.list ds) := .lst (l2 _ _ q1) (DnAll.mono0 l2 q2)
          exact ⟨ad, w, y, ds, j, z, rfl, rfl, Dn.dp _ _ (Dn.mono r2.le _ _ d1) (nd_lay _ c2), Dn.dp _ _ (Dn.mono r2.le _ _ d2) (nd_lay _ c1), sh.2, sh.1, e1, e2, e3, h3.fin r2 (.int _)⟩
      · cases ez
  | _ => exact h1.elim
end
end RD
set_option Elab.async false
set_option linter.all false
set_option maxRecDepth 100000
/-! RdId: statements with new dicts beside other things. -/
namespace L2
open PySem PySem.Spec PyProof.Rows
/-- {k: v}, the key a tuple; the new dict stands empty while the two are made -/
def tDisp1 (tk tv : TE) : TE := fun σ H Q => ∀ p, H p = none → tk σ (upd H p (.dT [])) fun x H1 => tv σ H1 fun y H2 => ∃ b ks, x = .ref b ∧ H2 p = some (.dT []) ∧ H2 b = some (.tup (ks.map kV)) ∧ Q (.ref p) (upd H2 p (.dT [(ks, y)]))
theorem pe_disp1 {X : Cx} {pos : Pos} {k v : Expr} {tk tv : TE} (hu : X.A.units + 1 < cLine) (hk : PE X k tk) (hv : PE X v tv) : PE X (.Dict [some k] [v] pos) (tDisp1 tk tv) := by
  refine ⟨fun pins s σ H Q I q => ?_⟩
  have hn := I.hok.fresh (Nat.le_refl s.heap.objs.size)
  have I1 := I.laid (a := s.heap.objs.size) (o := .dT []) (h' := s.heap.push { cls := .type "dict", data := .dict #[] }) (t' := s.toks) (fun _ _ q => Heap.get?_push_of_some _ q) (Nat.le_refl _) (dt_empty s.heap I.big)
  rw [arm_eval_Dict, zip_pairTrees [some k] [v] X.env pos rfl rfl, dictDisplay_pairs (pairTrees [some k] [v] X.env pos) (by intro z; cases z) (by show 1 < 17; decide)]
  refine wpAny_bind (wpAny_standAt (wpAny_bind ?_))
  unfold subDict
  refine wpAny_bind (wpAny_alloc ?_)
  refine wpAny_bind (wpAny_holding ?_)
  rw [if_pos (show (pairTrees [some k] [v] X.env pos).length ≤ 15 from (by show 1 ≤ 15; decide))]
  refine wpAny_bind (pairTrees_cons_walk (thn (hk.run pins _ σ _ _ I1 (q _ hn)) fun u s1 ⟨x, H1, I2, rx, q1⟩ => thn (hv.run pins s1 σ H1 _ I2 q1) fun w2 s2 ⟨y, H2, I3, ry, b, ks, ex, e, eb, q2⟩ => pairTrees_nil_walk ?_))
  subst ex
  cases (show u = Value.ref b from rx)
  obtain ⟨z, hd, xs, rel, dd⟩ := dt_of I3.hok e
  cases rel
  refine wpAny_holding ?_
  rw [List.forIn_cons]
  refine wpAny_bind (wpAny_bind (wpAny_bind (wpAny_dictSet_heap (hsz := Nat.zero_le _) (knd := tupleKind (mixKind X.prog X.w)) (show X.A.units < cLine by omega) (key_of I3.hok eb) dd fun h' dd' hs => wpAny_pure ?_)))
  simp only [List.forIn_nil]
  refine wpAny_pure (wpAny_pure (wpAny_pure (wpAny_pure ?_)))
  obtain ⟨o, es, ep, hq, h2, h3, h4, _, h5⟩ := dd'
  have kt : KT H2 [(ks, y)] (storedH [] ks b w2) := KT.put (Paired.nil : KT H2 [] []) ks eb ry
  have new : ObjOk X.prog X.w (upd H2 s.heap.objs.size (.dT [(ks, y)])) h' s.heap.objs.size (.dT [(ks, y)]) := by
    refine ⟨by show 1 ≤ sizeLine; decide, hd, _, KT.keeps kt fun c ys ec => ?_, o, es, ep, hq, h2, h3, h4, h5⟩
    rw [upd_ne (ne_of ec e (fun z => nomatch z))]
    exact ec
  exact ⟨.ref s.heap.objs.size, upd H2 s.heap.objs.size (.dT [(ks, y)]), d_write I3 (by rw [e]; exact True.intro) hs ⟨o, hq⟩ new, rfl, q2⟩
end L2
namespace RD
open PySem L2
section
variable {K : PySem.W.Frag} {mg : Str → Option Value} {W : WX} {C : Ct} {F : Hp} {s : S} {σ : L2.St} {H : Hp}
/-- a thing that is nobody's is held beside -/
theorem Rel.onPut (r : Rel K C F s σ H) {D : Addr} {ob : HO} (hH : H D = some ob) (hF : F D = none) (ho : ∀ (i : Nat) (ds : Own), s.rho[i]? = some (.ow ds) → σ[i]? ≠ some (some (.ref D))) : Rel K (C.put D ob) F s σ H := by
  refine ⟨r.le, r.ge, fun a o e n => ?_, fun a o e n => ?_, r.hbag, r.bag, r.len, r.val, fun i ds e => ?_, r.apart⟩
  · rcases r.new a o e n with q | q
    · exact .inl q
    · refine .inr ?_
      show upd C.H0 D ob a = none
      rw [upd_ne]
      · exact q
      · intro z
        subst z
        rw [hF] at e
        cases e
  · have e' : upd C.H0 D ob a = some o := e
    by_cases hp : a = D
    · subst hp
      rw [upd_same] at e'
      cases e'
      exact hH
    · rw [upd_ne hp] at e'
      exact r.keep a o e' n
  · obtain ⟨p, vs, h1, h2, h3, h4, h5⟩ := r.own i ds e
    have hp : p ≠ D := by
      intro z
      subst z
      exact ho i ds e h1
    exact ⟨p, vs, h1, h2, h3, by show upd C.H0 D ob p = none; rw [upd_ne hp]; exact h4, h5⟩
/-- what is read while a thing is held beside -/
theorem PostS.datPut {m : R U} {k : PyData → S → R Out} {D : Ends} {p : Addr} {ob : HO} (h0 : C.H0 p = none) (hF0 : C.F0 p = none) (hb : C.hb = false ∨ p ≠ C.b) (no : ∀ xs, ob ≠ .tup xs) (h : PostS K mg W C F (m.dat k) D) :
    Post K mg W (C.put p ob) F σ m fun u F' s _ => ∃ x, u = .d x ∧ PostS K mg W C F' (k x s) D := by
  cases m with
  | ok u s =>
    cases u with
    | d x => exact fun F' H' l r => ⟨x, rfl, PostS.up h l⟩
    | bag => exact h.elim
    | scr ns => exact h.elim
  | exn c q s => exact fun F' H' cls d l r e => h F' σ H' cls d l (r.offPut h0 hF0 hb no).2.2.1 e
  | stuck => exact h.elim
end
section
variable {X : Cx} {W : WX} {C : Ct} {F : Hp} {s : S} {σ : L2.St} {H : Hp} {a b c v w : T} {ea eb ec ev_ ew : Expr} {i j k l : Nat} {x y z t : Str} {px py pz ptt pt pos pt2 : Pos} {kt k2 : Nat}
/-- d[k], name = v, w -/
theorem ss_putDN {ps pe : Pos} {xe : Str} (hc : X.calm = true) (hu : X.A.units + 1 < cLine) (hN : X.N.Nodup) (hi : X.N[i]? = some x) (hv : Vis X.env.scope x) (hd : (x == ("__debug__" : Str)) = false) (hcd : (x == ("__classdict__" : Str)) = false)
    (hj : X.N[j]? = some y) (hy : L2.Loc X.env.scope y) (hf : X.fn y = true ∨ X.env.scope.names.lookup y = some .local) (ha : PE X (.Name xe pe) (tX X.K X.mg W a)) (hvv : PE X ev_ (tX X.K X.mg W v)) (hww : PE X ew (tX X.K X.mg W w))
    (n1 : starEach [ev_, ew] X.env = [(false, eval ev_ X.env), (false, eval ew X.env)]) (n2 : starEach [ew] X.env = [(false, eval ew X.env)])
    (hw : swappedStores [.Tuple [.Subscript (.Name x px) (.Name xe pe) ps, .Name y py] kt pt] (.Tuple [ev_, ew] k2 pt2) X.env = pure none) :
    PS X (.Assign [.Tuple [.Subscript (.Name x px) (.Name xe pe) ps, .Name y py] kt pt] (.Tuple [ev_, ew] k2 pt2) pos) (tS X.K X.mg W (.putDN i a j v w)) := by
  refine (ps_asg (pe_tup (pa_cons hvv (pa_cons hww pa_nil (by rw [n2]; rfl)) (by rw [n1, n2]))) (pg_tup hc (pgs_cons (pg_sub (pe_var hi hv hd hcd) ha (set_dict hu)) (pgs_cons (pg_name hN hj hy hf) pgs_nil))) rfl hw rfl).weak fun D σ H ⟨C, F, s, r, h⟩ => ⟨C, F, s, r, ?_⟩
  refine (PostS.dat h).imp fun u F1 s1 H1 l1 r1 ⟨yv, e, h1⟩ w1 d1 => ⟨C, F1, s1, r1, ?_⟩
  subst e
  refine (PostS.dat h1).imp fun u F2 s2 H2 l2 r2 ⟨zv, e, h2⟩ w2 d2 => ?_
  subst e
  refine ⟨by show 2 ≤ sizeLine; decide, fun q hq => ?_⟩
  have r3 := r2.lay (.tup [w1, w2]) hq
  refine ⟨q, [w1, w2], rfl, .of upd_same, rfl, w1, [w2], rfl, ?_⟩
  have h' : PostS X.K X.mg W C F2 (match s2.odict i with
    | none => (R.stuck : R Out)
    | some _ => (ev a s2).dat fun x s => match keyOf x, s.odict i with
      | some k, some kvs => if kvs.length < big then .ok .nx (S.set ⟨s.rho.set i (.ow (.d (putD kvs k yv))), s.bag⟩ j zv) else .stuck
      | _, _ => .stuck) D := h2
  cases e0 : s2.odict i with
  | none => rw [e0] at h'; exact h'.elim
  | some kvs0 =>
    rw [e0] at h'
    obtain ⟨p, _, g1, _⟩ := r3.own i (.d kvs0) (dict_at e0)
    refine ⟨.ref p, g1, C, F2, s2, r3, ?_⟩
    refine (PostS.dat h').imp fun u F3 s3 H3 l3 r4 ⟨kv, e, h3⟩ w3 d3 => ?_
    subst e
    cases e : keyOf kv with
    | none => rw [e] at h3; exact h3.elim
    | some kk =>
      cases e2 : s3.odict i with
      | none => rw [e, e2] at h3; exact h3.elim
      | some kvs =>
        rw [e, e2] at h3
        have h4 : PostS X.K X.mg W C F3 (if kvs.length < big then R.ok Out.nx (S.set ⟨s3.rho.set i (.ow (.d (putD kvs kk yv))), s3.bag⟩ j zv) else .stuck) D := h3
        split at h4
        · rename_i hb
          obtain ⟨H4, q1, q2⟩ := put_at r4 (Dn.mono (l2.trans l3) _ _ d1) d3 e e2 g1 hb
          exact ⟨p, H4, rfl, q1, w2, [], rfl, rfl, h4 F3 _ _ (Le.refl _) (q2.setD j (Dn.mono l3 _ _ d2))⟩
        · exact h4.elim
/-- x, y, z = a, b, {} -/
theorem ss_par3D {pd : Pos} (hc : X.calm = true) (hN : X.N.Nodup) (hi : X.N[i]? = some x) (hj : X.N[j]? = some y) (hk : X.N[k]? = some z) (hij : i ≠ j) (hik : i ≠ k) (hjk : j ≠ k)
    (hx : X.env.scope.names.lookup x = some .local) (hy : X.env.scope.names.lookup y = some .local) (hz : X.env.scope.names.lookup z = some .local) (ha : PE X ea (tX X.K X.mg W a)) (hb : PE X eb (tX X.K X.mg W b))
    (n1 : ∀ es, starEach (ea :: es) X.env = (false, eval ea X.env) :: starEach es X.env) (n2 : ∀ es, starEach (eb :: es) X.env = (false, eval eb X.env) :: starEach es X.env)
    (hw : swappedStores [.Tuple [.Name x px, .Name y py, .Name z pz] kt pt] (.Tuple [ea, eb, .Dict [] [] pd] k2 pt2) X.env = pure (some [x, y, z])) :
    PS X (.Assign [.Tuple [.Name x px, .Name y py, .Name z pz] kt pt] (.Tuple [ea, eb, .Dict [] [] pd] k2 pt2) pos) (tS X.K X.mg W (.par3D i j k a b)) := by
  refine (ps_par3 hc hN hi hj hk hij hik hjk hx hy hz (pa_cons ha (pa_cons hb (pa_cons pe_dnewT pa_nil rfl) (n2 _)) (n1 _)) hw).weak fun D σ H ⟨C, F, s, r, h⟩ => ⟨C, F, s, r, ?_⟩
  refine (PostS.dat h).imp fun u F1 s1 H1 l1 r1 ⟨yv, e, h1⟩ w1 d1 => ⟨C, F1, s1, r1, ?_⟩
  subst e
  refine (PostS.dat h1).imp fun u F2 s2 H2 l2 r2 ⟨zv, e, h2⟩ w2 d2 p hp => ⟨w1, w2, .ref p, rfl, ?_⟩
  subst e
  have r3 := (r2.setD i (Dn.mono l2 _ _ d1)).setD j d2
  exact h2 F2 _ _ (Le.refl _) ((r3.lay (.dT []) hp).setO k (ds := .d []) upd_same (r3.freeF hp) (r3.fresh0 hp) (r3.bne hp) ⟨[], rfl, rfl, .nil⟩ fun m es _ e w => r3.ownNe hp m es e w)
/-- x, y, z, t = a, b, c, {}: by a tuple -/
theorem ss_asg4D {pd : Pos} (hc : X.calm = true) (hN : X.N.Nodup) (hi : X.N[i]? = some x) (hj : X.N[j]? = some y) (hk : X.N[k]? = some z) (hl : X.N[l]? = some t)
    (hx : L2.Loc X.env.scope x ∧ (X.fn x = true ∨ X.env.scope.names.lookup x = some .local)) (hy : L2.Loc X.env.scope y ∧ (X.fn y = true ∨ X.env.scope.names.lookup y = some .local)) (hz : L2.Loc X.env.scope z ∧ (X.fn z = true ∨ X.env.scope.names.lookup z = some .local)) (ht : L2.Loc X.env.scope t ∧ (X.fn t = true ∨ X.env.scope.names.lookup t = some .local))
    (ha : PE X ea (tX X.K X.mg W a)) (hb : PE X eb (tX X.K X.mg W b)) (hcc : PE X ec (tX X.K X.mg W c))
    (n1 : ∀ es, starEach (ea :: es) X.env = (false, eval ea X.env) :: starEach es X.env) (n2 : ∀ es, starEach (eb :: es) X.env = (false, eval eb X.env) :: starEach es X.env) (n3 : ∀ es, starEach (ec :: es) X.env = (false, eval ec X.env) :: starEach es X.env)
    (hw : swappedStores [.Tuple [.Name x px, .Name y py, .Name z pz, .Name t ptt] kt pt] (.Tuple [ea, eb, ec, .Dict [] [] pd] k2 pt2) X.env = pure none) :
    PS X (.Assign [.Tuple [.Name x px, .Name y py, .Name z pz, .Name t ptt] kt pt] (.Tuple [ea, eb, ec, .Dict [] [] pd] k2 pt2) pos) (tS X.K X.mg W (.asg4D i j k l a b c)) := by
  refine (ps_asg (pe_tup (pa_cons ha (pa_cons hb (pa_cons hcc (pa_cons pe_dnewT pa_nil rfl) (n3 _)) (n2 _)) (n1 _))) (pg_tup hc (pgs_cons (pg_name hN hi hx.1 hx.2) (pgs_cons (pg_name hN hj hy.1 hy.2) (pgs_cons (pg_name hN hk hz.1 hz.2) (pgs_cons (pg_name hN hl ht.1 ht.2) pgs_nil))))) rfl hw rfl).weak fun D σ H ⟨C, F, s, r, h⟩ => ⟨C, F, s, r, ?_⟩
  refine (PostS.dat h).imp fun u F1 s1 H1 l1 r1 ⟨yv, e, h1⟩ w1 d1 => ⟨C, F1, s1, r1, ?_⟩
  subst e
  refine (PostS.dat h1).imp fun u F2 s2 H2 l2 r2 ⟨zv, e, h2⟩ w2 d2 => ⟨C, F2, s2, r2, ?_⟩
  subst e
  refine (PostS.dat h2).imp fun u F3 s3 H3 l3 r3 ⟨tv, e, h3⟩ w3 d3 p hp => ⟨by show 4 ≤ sizeLine; decide, fun q hq => ?_⟩
  subst e
  refine ⟨q, [w1, w2, w3, .ref p], rfl, .of upd_same, rfl, w1, _, rfl, w2, _, rfl, w3, _, rfl, .ref p, [], rfl, rfl, ?_⟩
  have r4 := ((r3.setD i (Dn.mono (l2.trans l3) _ _ d1)).setD j (Dn.mono l3 _ _ d2)).setD k d3
  have r5 := (r4.lay (.dT []) hp).setO l (ds := .d []) upd_same (r4.freeF hp) (r4.fresh0 hp) (r4.bne hp) ⟨[], rfl, rfl, .nil⟩ fun m es _ e w => r4.ownNe hp m es e w
  exact h3 F3 _ _ (Le.refl _) (r5.lay (.tup [w1, w2, w3, .ref p]) hq)
/-- x, y = [], e: the first a list that will grow -/
theorem ss_parR {pl : Pos} (hc : X.calm = true) (hN : X.N.Nodup) (hi : X.N[i]? = some x) (hj : X.N[j]? = some y) (hij : i ≠ j) (hx : X.env.scope.names.lookup x = some .local) (hy : X.env.scope.names.lookup y = some .local)
    (ha : PE X ea (tX X.K X.mg W a)) (n1 : starEach [ea] X.env = [(false, eval ea X.env)])
    (hw : swappedStores [.Tuple [.Name x px, .Name y py] kt pt] (.Tuple [.List [] pl, ea] k2 pt2) X.env = pure (some [x, y])) :
    PS X (.Assign [.Tuple [.Name x px, .Name y py] kt pt] (.Tuple [.List [] pl, ea] k2 pt2) pos) (tS X.K X.mg W (.parR i j a)) := by
  refine (ps_par hc hN hi hj hij hx hy (pa_cons (pe_lst pa_nil) (pa_cons ha pa_nil (by rw [n1]; rfl)) rfl) hw).weak fun D σ H ⟨C, F, s, r, h⟩ => ⟨Nat.zero_le _, fun p hp => ?_⟩
  have h0 := r.fresh0 hp
  have hF0 := r.f0 hp
  have hb := r.bne hp
  have noT : ∀ xs : List V, HO.lst [] ≠ .tup xs := fun xs z => nomatch z
  refine ⟨C.put p (.lst []), F, s, r.toPut hp _, ?_⟩
  refine (PostS.datPut h0 hF0 hb noT h).imp fun u F1 s1 H1 l1 r1 ⟨zv, e1, h1⟩ w1 d1 => ⟨.ref p, w1, rfl, ?_⟩
  subst e1
  obtain ⟨hF, hH, r2, ho⟩ := r1.offPut h0 hF0 hb noT
  have r3 := r2.setO i (ds := .l []) hH hF h0 hb ⟨_, rfl, .nil⟩ fun m es _ e w => ho m es e w
  exact h1 F1 _ _ (Le.refl _) (r3.setD j d1)
/-- x, y = {k: v}, [e] -/
theorem ss_parD1 {ek ee : Expr} {tk e : T} {own : Bool} {pd pl : Pos} (hc : X.calm = true) (hu : X.A.units + 1 < cLine) (hN : X.N.Nodup) (hi : X.N[i]? = some x) (hj : X.N[j]? = some y) (hij : i ≠ j) (hx : X.env.scope.names.lookup x = some .local) (hy : X.env.scope.names.lookup y = some .local)
    (hk : PE X ek (tX X.K X.mg W tk)) (hvv : PE X ev_ (tX X.K X.mg W v)) (he : PE X ee (tX X.K X.mg W e)) (n1 : starEach [ee] X.env = [(false, eval ee X.env)])
    (hw : swappedStores [.Tuple [.Name x px, .Name y py] kt pt] (.Tuple [.Dict [some ek] [ev_] pd, .List [ee] pl] k2 pt2) X.env = pure (some [x, y])) :
    PS X (.Assign [.Tuple [.Name x px, .Name y py] kt pt] (.Tuple [.Dict [some ek] [ev_] pd, .List [ee] pl] k2 pt2) pos) (tS X.K X.mg W (.parD1 i tk v j own e)) := by
  refine (ps_par hc hN hi hj hij hx hy (pa_cons (pe_disp1 hu hk hvv) (pa_cons (pe_lst (pa_cons he pa_nil (by rw [n1]; rfl))) pa_nil rfl) rfl) hw).weak fun D σ H ⟨C, F, s, r, h⟩ p hp => ?_
  have h0 := r.fresh0 hp
  have hF0 := r.f0 hp
  have hb := r.bne hp
  have noT : ∀ (l : List (List Key × V)) (xs : List V), HO.dT l ≠ .tup xs := fun l xs z => nomatch z
  refine ⟨C.put p (.dT []), F, s, r.toPut hp _, ?_⟩
  refine (PostS.datPut h0 hF0 hb (noT _) h).imp fun u F1 s1 H1 l1 r1 ⟨kv, e1, h1⟩ w1 d1 => ⟨C.put p (.dT []), F1, s1, r1, ?_⟩
  subst e1
  refine (PostS.datPut h0 hF0 hb (noT _) h1).imp fun u F2 s2 H2 l2 r2 ⟨yv, e2, h2⟩ w2 d2 => ?_
  subst e2
  have h2' : PostS X.K X.mg W C F2 (match keyOf kv with
    | some k => (ev e s2).dat fun z s => .ok .nx ⟨(s.rho.set i (.ow (.d [(k, yv)]))).set j (if own = true then .ol [z] else .val (.d (.list [z]))), s.bag⟩
    | none => (.stuck : R Out)) D := h2
  cases ek : keyOf kv with
  | none => rw [ek] at h2'; exact h2'.elim
  | some kk =>
    rw [ek] at h2'
    obtain ⟨b, rfl, hq⟩ := key_dn ek (Dn.mono l2 _ _ d1)
    obtain ⟨hF, hH, r3, ho⟩ := r2.offPut h0 hF0 hb (noT _)
    refine ⟨b, kk, rfl, hH, r2.le _ _ hq, ?_⟩
    have r4 := (r3.poke (.dT [(kk, w2)]) hF h0 hb ho).onPut upd_same hF ho
    refine ⟨C.put p (.dT [(kk, w2)]), F2, s2, r4, ?_⟩
    refine (PostS.datPut h0 hF0 hb (noT _) h2').imp fun u F3 s3 H3 l3 r5 ⟨zv, e3, h3⟩ w3 d3 => ?_
    subst e3
    refine ⟨by show 1 ≤ sizeLine; decide, fun q hq => ⟨.ref p, .ref q, rfl, ?_⟩⟩
    obtain ⟨hF3, hH3, r6, ho3⟩ := r5.offPut h0 hF0 hb (noT _)
    have r7 := r6.setO i (ds := .d [(kk, yv)]) hH3 hF3 h0 hb ⟨[(kk, w2)], rfl, rfl, .cons (Dn.mono l3 _ _ d2) .nil⟩ fun m es _ e w => ho3 m es e w
    cases own with
    | true =>
      have r8 := r7.lay (.lst [w3]) hq
      exact h3 F3 _ _ (Le.refl _) (r8.setO j (ds := .l [zv]) upd_same (r7.freeF hq) (r7.fresh0 hq) (r7.bne hq) ⟨_, rfl, .cons d3 .nil⟩ fun m es _ e w => r7.ownNe hq m es e w)
    | false =>
      obtain ⟨F4, l4, r8, d8⟩ := r7.lst hq (.cons d3 .nil)
      exact h3 F4 _ _ l4 (r8.setD j d8)
/-- x, y = {}, [.. for ..] -/
theorem ss_parDC {elt tgc iter : Expr} {ifs : List Expr} {scope : Scope} {own : List (Str × Nat)} {pd pl : Pos} {tt : TT} {g it c e : T} (hc : X.calm = true) (hN : X.N.Nodup) (hi : X.N[i]? = some x) (hj : X.N[j]? = some y) (hij : i ≠ j) (hx : X.env.scope.names.lookup x = some .local) (hy : X.env.scope.names.lookup y = some .local)
    (hit : PI X tgc iter (tXI X.K X.mg W it)) (ok : BlkOk X.N X.env.scope scope own)
    (hg : ∀ (s : Shared) (H : Hp) (C : Addr) (cl : List (Str × Addr)) (fp : List Addr), PG (X.blk s H scope (compEnvC scope cl C X.env) fp) tgc (tXG X.K g)) (ht : ∀ (s : Shared) (H : Hp) (C : Addr) (cl : List (Str × Addr)) (fp : List Addr), PTs (X.blk s H scope (compEnvC scope cl C X.env) fp) ifs tt)
    (he : ∀ (s : Shared) (H : Hp) (C : Addr) (cl : List (Str × Addr)) (fp : List Addr), PE (X.blk s H scope (compEnvC scope cl C X.env) fp) elt (tX X.K X.mg W0 e)) (hs : ∀ x, foldedSetIterable iter X.env x = pure x)
    (hsub : ∀ i ∈ slotsT g, i ∈ own.map (·.2)) (htt : ∀ σ H Q, tXT X.K X.mg W0 c σ H Q → tt σ H Q)
    (hw : swappedStores [.Tuple [.Name x px, .Name y py] kt pt] (.Tuple [.Dict [] [] pd, .ListComp elt [⟨tgc, iter, ifs, 0⟩] scope pl] k2 pt2) X.env = pure (some [x, y])) :
    PS X (.Assign [.Tuple [.Name x px, .Name y py] kt pt] (.Tuple [.Dict [] [] pd, .ListComp elt [⟨tgc, iter, ifs, 0⟩] scope pl] k2 pt2) pos) (tS X.K X.mg W (.parDC i j (.comp (own.map (·.2)) g it c e))) := by
  refine (ps_par hc hN hi hj hij hx hy (pa_cons pe_dnewT (pa_cons (pe_lc hc hN hit ok hg ht he hs) pa_nil rfl) rfl) hw).weak fun D σ H ⟨C, F, s, r, h⟩ p hp => ?_
  have h0 := r.fresh0 hp
  have hF0 := r.f0 hp
  have hb := r.bne hp
  have noT : ∀ xs : List V, HO.dT [] ≠ .tup xs := fun xs z => nomatch z
  have h' : PostS X.K X.mg W C F ((evI it s).bind fun xs s => match compR (compF (own.map (·.2)) g c e) [] xs s with
    | .ok ys s => .ok .nx ⟨((wipeS s.rho (own.map (·.2))).set i (.ow (.d []))).set j (.ol ys), s.bag⟩
    | _ => .stuck) D := by
    have h2 : PostS X.K X.mg W C F (((evI it s).bind fun xs s => match compR (compF (own.map (·.2)) g c e) [] xs s with
      | .ok ys s => .ok (.d (.list ys)) ⟨wipeS s.rho (own.map (·.2)), s.bag⟩
      | _ => (.stuck : R U)).dat fun x s => match x with
      | .list xs => .ok .nx ⟨(s.rho.set i (.ow (.d []))).set j (.ol xs), s.bag⟩
      | _ => .stuck) D := h
    revert h2
    cases evI it s with
    | ok xs s1 =>
      simp only [R.bind_ok]
      cases compR (compF (own.map (·.2)) g c e) [] xs s1 <;> exact id
    | _ => exact id
  have hP : Post X.K X.mg W (C.put p (.dT [])) F σ (evI it s) fun xs F' s' _ => PostS X.K X.mg W C F' (match compR (compF (own.map (·.2)) g c e) [] xs s' with
    | .ok ys s => .ok .nx ⟨((wipeS s.rho (own.map (·.2))).set i (.ow (.d []))).set j (.ol ys), s.bag⟩
    | _ => .stuck) D := by
    revert h'
    cases evI it s with
    | ok xs s1 => exact fun h' F' H' l r' => PostS.up h' l
    | exn c q s1 => exact fun h' F' H' cls d l r' e => h' F' σ H' cls d l (r'.offPut h0 hF0 hb noT).2.2.1 e
    | stuck => exact fun h' => h'.elim
  refine comp_core hsub htt (r.toPut hp (.dT [])) (hP.imp fun xs F1 s1 H1 l1 r1 q => ?_)
  cases hm : compR (compF (own.map (·.2)) g c e) [] xs s1 with
  | ok zs s2 =>
    rw [hm] at q
    refine ⟨zs, s2, rfl, fun E acc F2 H2 hE l2 hF hH d r2 h0' hb' r3 => ⟨.ref p, .ref E, rfl, ?_⟩⟩
    obtain ⟨hFp, hHp, r4, ho⟩ := r2.offPut h0 hF0 hb noT
    have hEp : E ≠ p := fun z => by
      subst z
      have h0'' : upd C.H0 E (.dT []) E = none := h0'
      rw [upd_same] at h0''
      cases h0''
    have h0E : C.H0 E = none := by
      have h0'' : upd C.H0 p (.dT []) E = none := h0'
      rw [upd_ne hEp] at h0''
      exact h0''
    have ownE : ∀ (m : Nat) (es : Own), (wipeS s2.rho (own.map (·.2)))[m]? = some (.ow es) → σ[m]? ≠ some (some (.ref E)) := fun m es e z => by
      obtain ⟨p', vs, g1, g2, g3, _⟩ := r3.own m es e
      rw [z] at g1
      cases g1
      rw [upd_same] at g3
      cases g3
    have r5 := r4.setO i (ds := .d []) hHp hFp h0 hb ⟨[], rfl, rfl, .nil⟩ fun m es _ e w => ho m es e w
    refine q F2 _ H2 l2 (r5.setO j (ds := .l zs) hH hF h0E hb' ⟨acc, rfl, d⟩ fun m es hm e z => ?_)
    by_cases hmi : i = m
    · subst hmi
      have hlen : i < σ.length := by
        have := (List.getElem?_eq_some_iff.mp z).1
        simpa using this
      rw [List.getElem?_set_self hlen] at z
      cases z
      exact hEp rfl
    · have e' : ((wipeS s2.rho (own.map (·.2))).set i (Slot.ow (.d [])))[m]? = some (.ow es) := e
      rw [List.getElem?_set_ne hmi] at e' z
      exact ownE m es e' z
  | exn c p s2 => rw [hm] at q; exact q.elim
  | stuck => rw [hm] at q; exact q.elim
/-- name = list(d), a list that will change -/
theorem ss_asgO_keys {p : Pos} (hc : X.calm = true) (hB : BltOk X.mg) (hg : Gl X "list") (hN : X.N.Nodup) (hj : X.N[j]? = some y) (hyl : L2.Loc X.env.scope y) (hf : X.fn y = true ∨ X.env.scope.names.lookup y = some .local)
    (hi : X.N[i]? = some x) (hv : Vis X.env.scope x) (hd : (x == ("__debug__" : Str)) = false) (hcd : (x == ("__classdict__" : Str)) = false) :
    PS X (.Assign [.Name y py] (.Call (.Name "list" p) [.Name x px] [] pt) pos) (tS X.K X.mg W (.asgO j (.keysD i))) := by
  refine (ps_set hN hj hyl (pe_callTy (call_list_dT hc) hg (hB _ (by decide +kernel)) bi_list (pa_cons (pe_var hi hv hd hcd) pa_nil) (by decide) (by decide) rfl rfl) rfl hf).weak fun D σ H ⟨C, F, s, r, h⟩ => ?_
  have h' : PostS X.K X.mg W C F ((match s.dict i with
    | some kvs => if kvs.length ≤ big then R.ok (U.d (.list (kvs.map fun (p : List Key × PyData) => keyD p.1))) s else .stuck
    | none => .stuck).dat fun x s => match x with
      | .list xs => .ok .nx ⟨s.rho.set j (.ol xs), s.bag⟩
      | _ => .stuck) D := h
  cases e : s.dict i with
  | none => rw [e] at h'; exact h'.elim
  | some kvs =>
    rw [e] at h'
    by_cases hb : kvs.length ≤ big
    · dsimp only at h'
      rw [if_pos hb] at h'
      obtain ⟨q, es, g1, g2, g3, g4⟩ := dict_st r e
      refine ⟨.ref q, g1, q, es, rfl, g2, fun l bs hl hk => ?_⟩
      obtain ⟨F1, l1, r1, d1⟩ := r.absorbs hk
      have e3 : (es.map fun (p : List Key × V) => keyD p.1) = kvs.map fun (p : List Key × PyData) => keyD p.1 := by
        have := congrArg (List.map keyD) g3
        rw [List.map_map, List.map_map] at this
        exact this
      rw [e3] at d1
      have r2 := r1.lay (.lst (bs.map V.ref)) hl
      exact h' F1 _ _ l1 (r2.setO j (ds := .l _) upd_same (r1.freeF hl) (r1.fresh0 hl) (r1.bne hl) ⟨_, rfl, d1⟩ fun m es _ e w => r1.ownNe hl m es e w)
    · dsimp only at h'
      rw [if_neg hb] at h'
      exact h'.elim
end
end RD
set_option Elab.async false
set_option linter.all false
set_option maxRecDepth 100000
set_option maxHeartbeats 4000000
/-! RdIe: tuples whose object is known: tuple(xs), t.index(y). -/
namespace L2
open PySem PySem.Spec PyProof.Rows RD
section
variable {X : Cx}
/-- tuple(xs), xs a list: the new tuple's object is known, it has no dict -/
def rTupK (K : PySem.W.Frag) : List V → Hp → VK → Prop := fun xs H Q => ∃ (p : Addr) (ys : List V), xs = [V.ref p] ∧ SqL K H p ys ∧ ∀ (l : Addr) (o : Obj), H l = none → o.dict = none → Q (V.ref l) (upd H l (.frz o (.tup ys)))
theorem cr_tupK : CallR X (.type "tuple") (rTupK X.K) := by
  intro pins s σ H xs us Q I r h
  obtain ⟨p, ys, e, hs, q⟩ := h
  subst e
  obtain ⟨u, eu, ru⟩ := vals1 r
  subst eu
  cases ru
  obtain ⟨its, rv, pl, hz⟩ := I.list hs
  have hn := rv.length
  refine call_tuple_list pl.isList (fun h' kp => ?_) (by rw [List.size_toArray] <;> omega)
  let ob : Obj := { cls := .type "tuple", data := .seq its.toArray }
  have J : Inv X pins σ H { s with heap := h' } := I.kept (t' := s.toks) kp
  have new : (h'.push ob).get? h'.objs.size = some ob := Heap.get?_push_size _ rfl
  have okT : ObjOk X.prog X.w (upd H h'.objs.size (.frz ob (.tup ys))) (h'.push ob) h'.objs.size (.frz ob (.tup ys)) := ⟨new, ⟨hz, its, rv, IsTup.new _ _⟩⟩
  have J2 : Inv X pins σ (upd H h'.objs.size (.frz ob (.tup ys))) { s with heap := h'.push ob } := J.laid (t' := s.toks) (fun b o e => Heap.get?_push_of_some _ e) (Nat.le_refl _) okT
  exact ⟨.ref h'.objs.size, _, J2, rfl, q _ ob (J.hok.fresh (Nat.le_refl _)) rfl⟩
/-- t.index(x), t a tuple whose object is known: the first place of an equal one -/
def rIdxK (K : PySem.W.Frag) : V → List V → Hp → VK → Prop := fun x xs H Q => ∃ (a : Addr) (y : V) (d : PyData) (vs : List V) (ds : List PyData) (ob : Obj) (j : Nat) (z : PyData), x = V.ref a ∧ xs = [y] ∧ H a = some (.frz ob (.tup vs)) ∧ DpAll K H vs ds ∧ Dp K H y d ∧
  PyData.canLayAll0 ds = true ∧ PyData.depthAll ds ≤ 63 ∧ d.canLay0 = true ∧ ds[j]? = some z ∧ PyData.eqv z d = true ∧ (∀ (m : Nat) (z' : PyData), m < j → ds[m]? = some z' → PyData.eqv z' d = false) ∧ Q (V.int (j : Nat)) H
theorem mt_idxK (hu : X.A.units + 65 < cLine) : MtR X "tuple.index" (rIdxK X.K) := by
  intro pins s σ H x xs v us Q I rx rxs h
  obtain ⟨a, y, d, vs, ds, ob, j, z, e1, e2, hl, ha, hy, hxs, hdep, sd, hz, hzj, hno, q⟩ := h
  subst e1 e2
  cases rx
  obtain ⟨uy, eu, ry⟩ := vals1 rxs
  subst eu
  obtain ⟨bs, r1⟩ := Dp.reads I d y uy hy ry
  have hroom : X.A.units + 1 + min (PyData.depthAll ds) d.depth < cLine := by
    have := Nat.min_le_left (PyData.depthAll ds) d.depth
    omega
  obtain ⟨its, rv, pl, hsz⟩ := I.tuple (Or.inl (Or.inr ⟨ob, hl⟩) : SqT X.K H a vs)
  obtain ⟨⟨cls, dd, dt, sl⟩, ho, hc, n, hd⟩ := pl
  dsimp only at hc hd
  subst hc hd
  obtain ⟨as, h4⟩ := Dp.readsAll I ds vs its ha rv
  have hn : its.length = ds.length := SeqAt.ReadsAll.length ds its as h4
  have hmap : its.map (SeqAt.readOf s.heap) = ds := SeqAt.readsAll_map ds its as hxs h4
  have hjd := (List.getElem?_eq_some_iff.mp hz).1
  have hj : j < its.toArray.size := by
    rw [List.size_toArray]
    omega
  have reads : ∀ (m : Nat) (hm : m < its.toArray.size) (z' : PyData), ds[m]? = some z' → SeqAt.readOf s.heap its.toArray[m] = z' := by
    intro m hm z' hz'
    have hml : m < its.length := by rwa [List.size_toArray] at hm
    have e3 := hz'
    rw [← hmap, List.getElem?_map, List.getElem?_eq_getElem hml] at e3
    have e4 : SeqAt.readOf s.heap its[m] = z' := Option.some.inj e3
    simpa using e4
  have eqs := SeqAt.items_eqAt (A := X.A) (vs := its.toArray) (show ReadsAll s.heap its.toArray.toList ds as from h4) r1 hxs sd hroom
  refine call_meets PySem.F.slot_tuple_index ⟨_, ho, rfl⟩ PySem.F.entry_tuple_index (PySem.F.args_tuple_index_2 _ _) (TI.tuple_indexAt a its.toArray n dd sl uy (fun w => PyData.eqv (SeqAt.readOf s.heap w) d) j hj ?_ ?_) ⟨ho, eqs, .int (j : Nat), H, I.tok _, ⟨_, rfl⟩, q⟩
  · show PyData.eqv (SeqAt.readOf s.heap its.toArray[j]) d = true
    rw [reads j hj z hz, hzj]
  · intro m hm hmj
    have hmd : m < ds.length := by omega
    have e5 : ds[m]? = some ds[m] := List.getElem?_eq_getElem hmd
    show PyData.eqv (SeqAt.readOf s.heap its.toArray[m]) d = false
    rw [reads m hm _ e5, hno m _ hmj e5]
end
/-- o.m(..), o a tuple whose object is known -/
def tMK (r : V → List V → Hp → VK → Prop) (to : TE) (t : TA) : TE := fun σ H Q => to σ H fun x H1 => (∃ (p : Addr) (ob : Obj) (vs : List V), x = .ref p ∧ H1 p = some (.frz ob (.tup vs)) ∧ ob.dict = none) ∧ t σ H1 fun xs H2 => r x xs H2 Q
section
variable {X : Cx} {o e : Expr} {es : List Expr} {to : TE} {t : TA} {name : Str} {apos cpos : Pos} {id : String} {r : V → List V → Hp → VK → Prop}
theorem pe_mK (slot : Slot "tuple" name id) (hty : typeOf (.builtin id) = pure (.type "method_descriptor")) (hm : MtR X id r) (ho : PE X o to) (ha : PA X (e :: es) t) (hbase : attributeBase o name X.env (eval o X.env) = eval o X.env)
    (hfew : ((backTo cpos (starEach (e :: es) X.env)).all (fun x => !x.1) && (backToKw cpos (keywordEach [] X.env)).all (fun x => x.1.isSome) && decide ((e :: es).length + ([] : List Keyword).length + (if ([] : List Keyword).isEmpty then 0 else 1) < 30)) = true)
    (hline : (apos.endLine == cpos.line) = true) (hs : starEach (e :: es) X.env = (false, eval e X.env) :: starEach es X.env) (hplain : (backTo cpos (starEach es X.env)).any (·.1) = false) : PE X (.Call (.Attribute o name apos) (e :: es) [] cpos) (tMK r to t) := by
  refine ⟨fun pins s σ H Q I h => wpAny_Call_method_late hbase hfew hline rfl (thn (ho.run pins s σ H _ I h) fun v s1 ⟨x, H1, I1, r1, ⟨p, ob, vs, ex, hp, hd⟩, q1⟩ => ?_)⟩
  subst ex
  cases r1
  have own := I1.hok p _ hp
  have got : s1.heap.get? p = some ob := own.1
  have tup : ob.cls = .type "tuple" := by
    obtain ⟨_, _, _, o', g, c, _⟩ := own.2
    rw [got] at g
    cases g
    exact c
  refine ⟨"tuple", id, PySem.F.plainAttrs_tuple, slot, hty, ⟨ob, got, tup⟩, fun b eb => ?_, ?_⟩
  · cases eb
    exact ⟨ob, got, hd⟩
  · have run := ha.run cpos pins s1 σ H1 _ I1 q1
    rw [hs] at run ⊢
    refine Calls.callWith_builtin ?_ (Calls.evalArgs_plain (thn run fun us s2 ⟨ws, H2, I2, r2, q2⟩ => hm pins s2 σ H2 (.ref p) ws (.ref p) us Q I2 rfl r2 q2))
    show (false || (backTo cpos (starEach es X.env)).any (·.1)) = false
    rw [hplain]
    rfl
end
end L2
namespace RD
open PySem L2
theorem kt_inv {K : PySem.W.Frag} {F : Hp} {v : V} {x : PyData} (d : Dn K F v x) : ∀ ds, unkt x = some ds → ∃ (a : Addr) (ob : Obj) (xs : List V), v = .ref a ∧ F a = some (.frz ob (.tup xs)) ∧ ob.dict = none ∧ keysOf ds = none ∧ DnAll K F xs ds := by
  cases d with
  | kt q1 q0 qn q2 =>
    intro ds e
    cases e
    exact ⟨_, _, _, rfl, q1, q0, qn, q2⟩
  | @dct a od es kvs q1 q2 q3 =>
    intro ds e
    exfalso
    cases kvs with
    | nil => cases e
    | cons p kvs => cases kvs <;> cases e
  | _ =>
    intro ds e
    cases e
theorem kt_tup {K : PySem.W.Frag} {F : Hp} {v : V} {x : PyData} (d : Dn K F v x) {ds : List PyData} (e : unkt x = some ds) : Dn K F v (.tuple ds) := by
  obtain ⟨a, ob, xs, rfl, q1, q0, qn, q2⟩ := kt_inv d ds e
  exact .tup (.inl (.inr ⟨ob, q1⟩)) (.inr (.inr ⟨⟨ob, q1⟩, qn⟩)) q2
theorem depth_of {ds : List PyData} (h : SeqAt.shaped (.list ds) = true) : PyData.depthAll ds ≤ 63 := by
  unfold SeqAt.shaped at h
  rw [Bool.and_eq_true] at h
  have := of_decide_eq_true h.2
  rw [PyData.depth] at this
  omega
section
variable {X : Cx} {W : WX} {a b l : T} {e ea eb : Expr} {es : List Expr} {i : Nat} {x : Str} {p px pos : Pos}
theorem sx_unV (hN : X.N[i]? = some x) (hv : Vis X.env.scope x) (hd : (x == ("__debug__" : Str)) = false) (hcd : (x == ("__classdict__" : Str)) = false) : PE X (.Name x pos) (tX X.K X.mg W (.unV i)) := by
  refine (sx_var (W := W) hN hv hd hcd).weak fun σ H Q ⟨C, F, s, r, h⟩ => ⟨C, F, s, r, ?_⟩
  refine (Post.dat h).imp fun u F1 s1 H1 l1 r1 ⟨y, ey, h1⟩ v d1 => ?_
  subst ey
  obtain ⟨z, ez, h2⟩ := h1.lift
  cases hk : unkt y with
  | none => rw [hk] at ez; cases ez
  | some ds =>
    rw [hk] at ez
    cases ez
    exact h2.fin r1 (kt_tup d1 hk)
theorem sx_tupK (hB : BltOk X.mg) (hg : Gl X "tuple") (ha : PA X (e :: es) (tXA X.K X.mg W l)) (he : starEach (e :: es) X.env = (false, eval e X.env) :: starEach es X.env) (hpl : (backTo pos (starEach es X.env)).any (·.1) = false) :
    PE X (.Call (.Name "tuple" p) (e :: es) [] pos) (tX X.K X.mg W (.tupK l)) := by
  refine (pe_callTy cr_tupK hg (hB _ (by decide +kernel)) bi_tuple ha (by decide) (by decide) he hpl).weak fun σ H Q ⟨C, F, s, r, h⟩ => ⟨C, F, s, r, ?_⟩
  refine (Post.bind h).imp fun us F1 s1 H1 l1 r1 h1 vs d1 => ?_
  match us, h1, d1 with
  | [.d (.list xs)], h2, d2 =>
    have h1 : Post X.K X.mg W C F1 σ (if (keysOf xs).isNone = true then R.ok (U.d (ktD xs)) s1 else .stuck) _ := h2
    split at h1
    · rename_i hk
      have hk' : keysOf xs = none := by simpa using hk
      cases d2 with
      | cons d3 dn =>
        cases dn
        have d4 : Dn X.K F1 _ (.list xs) := d3
        cases d4 with
        | @lst a vs _ q1 q2 =>
          refine ⟨a, vs, rfl, .of (r1.le _ _ q1), fun p o hp ho => ?_⟩
          have hF := r1.freeF hp
          exact h1 _ _ (Le.upd _ hF) (r1.alloc _ hp) _ (.kt upd_same ho hk' (Dn.monoAll (Le.upd _ hF) _ _ q2))
    · exact h1.elim
theorem sx_idxK {apos : Pos} (hu : X.A.units + 65 < cLine) (hN : X.N[i]? = some x) (hv : Vis X.env.scope x) (hd : (x == ("__debug__" : Str)) = false) (hcd : (x == ("__classdict__" : Str)) = false) (hb : PE X eb (tX X.K X.mg W b)) (hs : starEach [eb] X.env = [(false, eval eb X.env)]) (hline : (apos.endLine == pos.line) = true) :
    PE X (.Call (.Attribute (.Name x px) "index" apos) [eb] [] pos) (tX X.K X.mg W (.idxK i b)) := by
  refine (pe_mK PySem.F.slot_tuple_index PySem.F.type_tuple_index (mt_idxK hu) (sx_var (W := W) hN hv hd hcd) (pa_cons hb pa_nil (by rw [hs]; rfl)) rfl (by rw [hs]; rfl) hline (by rw [hs]; rfl) rfl).weak fun σ H Q ⟨C, F, s, r, h⟩ => ⟨C, F, s, r, ?_⟩
  refine (Post.dat h).imp fun u F1 s1 H1 l1 r1 ⟨y, ey, h1⟩ v d1 => ?_
  subst ey
  cases hk : unkt y with
  | none => rw [hk] at h1; exact h1.elim
  | some ds =>
    rw [hk] at h1
    obtain ⟨a, ob, vs, rfl, q1, q0, qn, q2⟩ := kt_inv d1 ds hk
    refine ⟨⟨a, ob, vs, rfl, r1.le _ _ q1, q0⟩, C, F1, s1, r1, ?_⟩
    refine (Post.dat h1).imp fun u F2 s2 H2 l2 r2 ⟨y2, ey, h2⟩ w d2 => ?_
    subst ey
    obtain ⟨z, ez, h3⟩ := h2.lift
    simp only [idxofD] at ez
    split at ez
    · rename_i sh
      rw [Bool.and_eq_true] at sh
      cases ef : findD ds y2 with
      | none => rw [ef] at ez; cases ez
      | some j =>
        rw [ef] at ez
        cases ez
        obtain ⟨z, e1, e2, e3⟩ := findD_at ef
        have c1 := SeqAt.canLay_of_shaped sh.1
        have c2 : PyData.canLayAll0 ds = true := by
          have := SeqAt.canLay_of_shaped sh.2
          rwa [PyData.canLay0] at this
        have e5 : DnAll X.K F2 vs ds := DnAll.mono0 l2 q2
        exact ⟨a, w, y2, vs, ds, ob, j, z, rfl, rfl, r2.le _ _ (l2 _ _ q1), Dn.dpAll _ _ (Dn.monoAll r2.le _ _ e5) (nds_lay _ c2), Dn.dp _ _ (Dn.mono r2.le _ _ d2) (nd_lay _ c1), c2, depth_of sh.2, c1, e1, e2, e3, h3.fin r2 (.int _)⟩
    · cases ez
end
end RD
set_option Elab.async false
set_option linter.all false
set_option maxRecDepth 100000
/-! RdJ: a tree is held against the program's own text. -/
namespace RD
open PySem L2
/-! ### the look -/
def okN (x : Str) : Bool := !(x == ("__debug__" : Str)) && !(x == ("__classdict__" : Str))
def glB (sc : Scope) (x : Str) : Bool := decide (sc.names.lookup x = some .globalImplicit) && okN x
def visB (sc : Scope) (x : Str) : Bool := (match sc.names.lookup x with | some .local => true | some .cell => true | some .free => true | _ => false) && okN x
def stB (raw : Scope) (x : Str) : Bool := match raw.names.lookup x with | some .local => true | some .cell => true | _ => false
def notStar : Expr → Bool
  | .Starred .. => false
  | _ => true
def notSlice : Expr → Bool
  | .Slice .. => false
  | _ => true
def notSet : Expr → Bool
  | .Set .. => false
  | _ => true
def notComp : Expr → Bool
  | .ListComp .. => false
  | .SetComp .. => false
  | .DictComp .. => false
  | _ => true
def plainT : Expr → Bool
  | .UnaryOp .. => false
  | .BoolOp .. => false
  | .IfExp .. => false
  | .Compare .. => false
  | _ => true
/-- a, b = x, y: the names that are stored from the right -/
def swapRes (sc : Scope) (ts vs : List Expr) : Option (Option (List Str)) :=
  if (!(ts.length == 2 || ts.length == 3) || vs.length != ts.length) = true then some none else
  if (vs.any fun | .Starred .. => true | _ => false) = true then some none else
  if ((ts.filterMap fun
      | .Name id pos => if (decide (sc.names.lookup id = some .local) && pos.line == (ts.head?.map (·.pos.line)).getD 0) = true then some id else none
      | _ => none).length != ts.length ||
      (ts.filterMap fun
      | .Name id pos => if (decide (sc.names.lookup id = some .local) && pos.line == (ts.head?.map (·.pos.line)).getD 0) = true then some id else none
      | _ => none).eraseDups.length != (ts.filterMap fun
      | .Name id pos => if (decide (sc.names.lookup id = some .local) && pos.line == (ts.head?.map (·.pos.line)).getD 0) = true then some id else none
      | _ => none).length) = true then some none else
  if vs.all (foldedForSure 8) = true then some none else
  if vs.all (constantsAlone 8) = true then none else
  some (some (ts.filterMap fun
      | .Name id pos => if (decide (sc.names.lookup id = some .local) && pos.line == (ts.head?.map (·.pos.line)).getD 0) = true then some id else none
      | _ => none))
theorem swapped_of {sc : Scope} {ts vs : List Expr} {r : Option (List Str)} {env : Env} {k k2 : Nat} {p p2 : Pos} (hs : env.scope = sc) (hk : env.scope.kind = .function) (h : swapRes sc ts vs = some r) : swappedStores [.Tuple ts k p] (.Tuple vs k2 p2) env = pure r := by
  have hb : env.blockKind = .function := by unfold Env.blockKind; rw [hk]; rfl
  have hkind : ∀ id, (env.kindOf id == some NameKind.local) = decide (sc.names.lookup id = some .local) := fun id => by
    unfold Env.kindOf
    rw [hs]
    rw [Bool.beq_eq_decide_eq]
  unfold swapRes at h
  simp only [swappedStores, hb, hkind]
  simp only [show (ScopeKind.function != ScopeKind.function) = false from rfl, Bool.or_false]
  split at h
  · rename_i c
    cases h
    exact if_pos c
  · rename_i c
    refine (if_neg c).trans ?_
    split at h
    · rename_i c2
      cases h
      try simp only [pure_bind]
      exact if_pos c2
    · rename_i c2
      try simp only [pure_bind]
      refine (if_neg c2).trans ?_
      split at h
      · rename_i c3
        cases h
        try simp only [pure_bind]
        exact if_pos c3
      · rename_i c3
        try simp only [pure_bind]
        refine (if_neg c3).trans ?_
        split at h
        · rename_i c4
          cases h
          try simp only [pure_bind]
          exact if_pos c4
        · rename_i c4
          try simp only [pure_bind]
          refine (if_neg c4).trans ?_
          split at h
          · cases h
          · rename_i c5
            cases h
            try simp only [pure_bind]
            refine (if_neg c5).trans ?_
            rfl
/-- an assignment to one target, stored as it stands -/
def asgOk (sc : Scope) : Expr → Expr → Bool
  | .Tuple ts _ _, .Tuple vs _ _ => decide (swapRes sc ts vs = some none)
  | .List _ _, .Tuple _ _ _ => false
  | .Starred _ _, _ => false
  | _, _ => true

def ownOf (N : List Str) (own : List Nat) : List (Str × Nat) := own.filterMap fun i => (N[i]?).map fun x => (x, i)

def MF.name : MF → Str
  | .join => "join"
  | .split => "split"
/-- what stands ahead of a method's dot -/
def isConstE : Expr → Bool
  | .Constant .. => true
  | .Name .. => true
  | _ => false
/-- what an expression of one's own may look like -/
def callE : Expr → Bool
  | .Call .. => true
  | .Attribute .. => true
  | .Subscript .. => true
  | .BinOp .. => true
  | .UnaryOp .. => true
  | .Compare .. => true
  | _ => false
/-- a target that the walk can serve -/
def tgOk : T → Expr → Bool
  | .extI true _ _ _ _ _, .Tuple .. => true
  | .extI true _ _ _ _ _, _ => false
  | .itz _ _, .Tuple .. => true
  | .itz _ _, _ => false
  | _, _ => true
mutual
/-- m: as a test -/
def chk (N : List Str) : Bool → Scope → Scope → T → Expr → Bool
  | _, sc, _, .var i, .Name x _ => decide (N[i]? = some x) && visB sc x
  | _, sc, _, .lenS i, .Call (.Name f _) [.Name x _] [] _ => (f == ("len" : Str)) && glB sc f && decide (N[i]? = some x) && visB sc x
  | _, sc, _, .bget i j, .Subscript (.Name x _) (.Constant (.int k) _ _) _ => decide (k = (j : Int)) && decide (j ≤ 1) && decide (N[i]? = some x) && visB sc x
  | _, sc, raw, .sat i a, .Subscript (.Name x _) ea _ => decide (N[i]? = some x) && visB sc x && notSlice ea && chk N false sc raw a ea
  | _, _, _, .cst (.int i), .Constant (.int j) _ _ => decide (i = j)
  | _, _, _, .cst (.bool i), .Constant (.bool j) _ _ => decide (i = j)
  | _, _, _, .cst .none, .Constant .none _ _ => true
  | _, _, _, .cst (.str i), .Constant (.str j) _ _ => decide (i = j)
  | _, sc, _, .glob x _, .Name y _ => decide (x = y) && glB sc y
  | _, sc, raw, .bin op a b, .BinOp ea o eb _ => decide (o = op.op) && chk N false sc raw a ea && chk N false sc raw b eb
  | m, sc, raw, .neg a, .UnaryOp .USub ea _ => !m && chk N false sc raw a ea
  | _, sc, raw, .cmp op a b, .Compare ea [o] [eb] _ => decide (o = op.op) && !behindInMarks o eb && chk N false sc raw a ea && chk N false sc raw b eb
  | _, sc, raw, .chain o p a b c, .Compare ea [o', p'] [eb, ec] _ => decide (o' = o.op) && decide (p' = p.op) && !lastMarks [o', p'] [eb, ec] && chk N false sc raw a ea && chk N false sc raw b eb && chk N false sc raw c ec
  | _, sc, raw, .isN a, .Compare ea [.Is] [.Constant .none _ _] _ => chk N false sc raw a ea
  | _, sc, raw, .notN a, .Compare ea [.IsNot] [.Constant .none _ _] _ => chk N false sc raw a ea
  | m, sc, raw, .not a, .UnaryOp .Not ea _ => chk N m sc raw a ea
  | m, sc, raw, .one a, .BoolOp _ [ea] _ => chk N m sc raw a ea
  | m, sc, raw, .and a b, .BoolOp .And (ea :: eb :: es) p => chk N m sc raw a ea && chk N m sc raw b (.BoolOp .And (eb :: es) p)
  | m, sc, raw, .or a b, .BoolOp .Or (ea :: eb :: es) p => chk N m sc raw a ea && chk N m sc raw b (.BoolOp .Or (eb :: es) p)
  | m, sc, raw, .ite c a b, .IfExp ec ea eb _ => !m && chk N true sc raw c ec && chk N false sc raw a ea && chk N false sc raw b eb
  | _, sc, raw, .tup l, .Tuple es _ _ => chkA N sc raw l es
  | _, sc, raw, .lst l, .List es _ => chkA N sc raw l es
  | _, sc, raw, .idx a b, .Subscript ea eb _ => notSlice eb && chk N false sc raw a ea && chk N false sc raw b eb
  | _, sc, raw, .slc a l h, .Subscript ea (.Slice lo hi none _) _ => chk N false sc raw a ea && chkO N sc raw l lo && chkO N sc raw h hi
  | _, sc, raw, .rev a, .Subscript ea (.Slice none none (some (.UnaryOp .USub (.Constant (.int 1) _ _) _)) _) _ => chk N false sc raw a ea
  | _, sc, raw, .dix ks vs a, .Subscript (.Dict keys es _) ea _ => keysOk ks keys && valsOk vs es && decide (ks.length = vs.length) && decide ks.Nodup && decide (ks ≠ []) && decide (ks.length ≤ 15) && notSlice ea && chk N false sc raw a ea
  | _, sc, raw, .lrg a b, .Call (.Name x _) [.Call (.Name y _) [ea, eb] [] _] [] _ => decide (x = "list") && glB sc x && decide (y = "range") && glB sc y && notStar ea && notStar eb && chk N false sc raw a ea && chk N false sc raw b eb
  | _, sc, raw, .lr1 a, .Call (.Name x _) [.Call (.Name y _) [ea] [] _] [] _ => decide (x = "list") && glB sc x && decide (y = "range") && glB sc y && notStar ea && chk N false sc raw a ea
  | _, sc, raw, .uniq a, .Call (.Name x _) [.Call (.Name y _) [ea] [] _] [] _ => decide (x = "sorted") && glB sc x && decide (y = "set") && glB sc y && notStar ea && chk N false sc raw a ea
  | _, sc, raw, .lenset a, .Call (.Name x _) [.Call (.Name y _) [ea] [] _] [] _ => decide (x = "len") && glB sc x && decide (y = "set") && glB sc y && notStar ea && chk N false sc raw a ea
  | _, sc, raw, .mth f a b, .Call (.Attribute ea at_ apos) [eb] [] pos => (at_ == f.name) && isConstE ea && (apos.endLine == pos.line) && notStar eb && chk N false sc raw a ea && chk N false sc raw b eb
  | _, sc, _, .call x _ .anil, .Call (.Name y _) [] [] _ => decide (x = y) && glB sc y
  | _, sc, raw, .call x _ l, .Call (.Name y _) (e :: es) [] _ => decide (x = y) && glB sc y && chkA N sc raw l (e :: es)
  | _, sc, raw, .blt f l, .Call (.Name y _) (e :: es) [] _ => decide (y = f.name) && glB sc y && !f.isI && chkA N sc raw l (e :: es)
  | _, sc, raw, .isi f a, .Call (.Name y _) [e, .Name cn _] [] _ => f.isI && decide (y = f.name) && glB sc y && decide (cn = Str.ofString f.cls) && glB sc cn && notStar e && chk N false sc raw a e
  | _, sc, raw, .inD neg i a, .Compare ea [o] [.Name x _] _ => decide (o = if neg then .NotIn else .In) && decide (N[i]? = some x) && visB sc x && chk N false sc raw a ea
  | _, sc, raw, .atD i a, .Subscript (.Name x _) ea _ => decide (N[i]? = some x) && visB sc x && notSlice ea && chk N false sc raw a ea
  | _, sc, raw, .getD i a b, .Call (.Attribute (.Name x _) at_ apos) [ea, eb] [] cpos => (at_ == ("get" : Str)) && decide (N[i]? = some x) && visB sc x && (apos.endLine == cpos.line) && notStar ea && notStar eb && chk N false sc raw a ea && chk N false sc raw b eb
  | _, sc, raw, .inX neg a b, .Compare ea [o] [eb] _ => decide (o = if neg then .NotIn else .In) && !behindInMarks o eb && chk N false sc raw a ea && chk N false sc raw b eb
  | _, sc, _, .popO i, .Call (.Attribute (.Name x _) at_ apos) [] [] pos => (at_ == ("pop" : Str)) && decide (N[i]? = some x) && visB sc x && (apos.endLine == pos.line)
  | _, sc, _, .pop0 i, .Call (.Attribute (.Name x _) at_ apos) [.Constant (.int k) _ _] [] pos => (at_ == ("pop" : Str)) && decide (k = 0) && decide (N[i]? = some x) && visB sc x && (apos.endLine == pos.line)
  | _, sc, _, .neO i, .Compare (.Name x _) [.NotEq] [.List [] _] _ => decide (N[i]? = some x) && visB sc x
  | _, sc, _, .keysD i, .Call (.Name f _) [.Name x _] [] _ => (f == ("list" : Str)) && glB sc f && decide (N[i]? = some x) && visB sc x
  | _, sc, raw, .trg a, .Call (.Name x _) [.Call (.Name y _) [ea] [] _] [] _ => decide (x = "tuple") && glB sc x && decide (y = "range") && glB sc y && notStar ea && chk N false sc raw a ea
  | _, sc, raw, .idxOf true a b, .Call (.Attribute ea at_ apos) [eb] [] pos => (at_ == ("index" : Str)) && isConstE ea && (apos.endLine == pos.line) && notStar eb && chk N false sc raw a ea && chk N false sc raw b eb
  | m, sc, raw, .ext ck _ a b l, e => callE e && (!m || plainT e) && (match ck N sc e with
    | some q => (match q.1 with
      | some ea => chk N false sc raw a ea
      | none => true) && (match q.2.1 with
      | some eb => chk N false sc raw b eb
      | none => true) && chkA N sc raw l q.2.2
    | none => false)
  | _, sc, _, .unV i, .Name x _ => decide (N[i]? = some x) && visB sc x
  | _, sc, raw, .tupK l, .Call (.Name y _) (e :: es) [] _ => decide (y = "tuple") && glB sc y && chkA N sc raw l (e :: es)
  | _, sc, raw, .idxK i b, .Call (.Attribute (.Name x _) at_ apos) [eb] [] pos => (at_ == ("index" : Str)) && decide (N[i]? = some x) && visB sc x && (apos.endLine == pos.line) && notStar eb && chk N false sc raw b eb
  | _, sc, raw, .comp own g it c e, .ListComp elt [⟨tg, iter, ifs, as⟩] scope _ => decide (as = 0) && blkC N sc scope (ownOf N own) && decide ((ownOf N own).map (·.2) = own) && decide (∀ i ∈ slotsT g, i ∈ own) && (notSet iter && tgOk it tg) && chkI N sc raw it iter &&
      chkG N (relS scope sc) scope g tg && chkC N (relS scope sc) scope c ifs && chk N false (relS scope sc) scope e elt
  | _, _, _, _, _ => false
def chkA (N : List Str) : Scope → Scope → T → List Expr → Bool
  | _, _, .anil, [] => true
  | sc, raw, .acons a l, e :: es => notStar e && chk N false sc raw a e && chkA N sc raw l es
  | _, _, _, _ => false
def chkO (N : List Str) : Scope → Scope → T → Option Expr → Bool
  | _, _, .nopart, none => true
  | sc, raw, .acons a .anil, some e => chk N false sc raw a e
  | _, _, _, _ => false
def chkI (N : List Str) : Scope → Scope → T → Expr → Bool
  | sc, raw, .itl a, e => chk N false sc raw a e
  | sc, raw, .itt a, e => chk N false sc raw a e
  | sc, raw, .itd a, e => chk N false sc raw a e
  | sc, raw, .extI _ ck _ a b l, e => callE e && (match ck N sc e with
    | some q => (match q.1 with
      | some ea => chk N false sc raw a ea
      | none => true) && (match q.2.1 with
      | some eb => chk N false sc raw b eb
      | none => true) && chkA N sc raw l q.2.2
    | none => false)
  | sc, raw, .itr1 a, .Call (.Name y _) [e] [] _ => (y == ("range" : Str)) && glB sc y && notStar e && chk N false sc raw a e
  | sc, raw, .itr2 a b, .Call (.Name y _) [e, e2] [] _ => (y == ("range" : Str)) && glB sc y && notStar e && notStar e2 && chk N false sc raw a e && chk N false sc raw b e2
  | sc, raw, .itz a b, .Call (.Name y _) [e, e2] [] _ => (y == ("zip" : Str)) && glB sc y && notStar e && notStar e2 && chk N false sc raw a e && chk N false sc raw b e2
  | _, _, _, _ => false
def chkG (N : List Str) : Scope → Scope → T → Expr → Bool
  | _, raw, .tname i, .Name x _ => decide (N[i]? = some x) && stB raw x
  | sc, raw, .ttup l, .Tuple es _ _ => chkGs N sc raw l es
  | _, _, _, _ => false
def chkGs (N : List Str) : Scope → Scope → T → List Expr → Bool
  | _, _, .anil, [] => true
  | sc, raw, .acons a l, e :: es => notStar e && chkG N sc raw a e && chkGs N sc raw l es
  | _, _, _, _ => false
/-- a clause's tests -/
def chkC (N : List Str) : Scope → Scope → T → List Expr → Bool
  | _, _, .yes, [] => true
  | sc, raw, .one c, [e] => chk N true sc raw c e
  | _, _, _, _ => false
end
def chk_putDN (N : List Str) (sc : Scope) : Nat → T → Nat → T → T → Stmt → Bool
  | i, a, j, v, w, .Assign [.Tuple [.Subscript (.Name x px) (.Name z pz) ps, .Name y py] _ _] (.Tuple [e1, e2] _ _) _ => decide (N[i]? = some x) && visB sc x && decide (N[j]? = some y) && stB sc y && notStar e1 && notStar e2 &&
      decide (swapRes sc [.Subscript (.Name x px) (.Name z pz) ps, .Name y py] [e1, e2] = some none) && chk N false sc sc a (.Name z pz) && chk N false sc sc v e1 && chk N false sc sc w e2
  | _, _, _, _, _, _ => false
def chk_par3D (N : List Str) (sc : Scope) : Nat → Nat → Nat → T → T → Stmt → Bool
  | i, j, k, a, b, .Assign [.Tuple [.Name x px, .Name y py, .Name z pz] _ _] (.Tuple [ea, eb, .Dict [] [] pd] _ _) _ => decide (i ≠ j) && decide (i ≠ k) && decide (j ≠ k) && decide (N[i]? = some x) && decide (N[j]? = some y) && decide (N[k]? = some z) &&
      decide (sc.names.lookup x = some .local) && decide (sc.names.lookup y = some .local) && decide (sc.names.lookup z = some .local) && decide (swapRes sc [.Name x px, .Name y py, .Name z pz] [ea, eb, .Dict [] [] pd] = some (some [x, y, z])) &&
      notStar ea && notStar eb && chk N false sc sc a ea && chk N false sc sc b eb
  | _, _, _, _, _, _ => false
def chk_asg4D (N : List Str) (sc : Scope) : Nat → Nat → Nat → Nat → T → T → T → Stmt → Bool
  | i, j, k, l, a, b, c, .Assign [.Tuple [.Name x px, .Name y py, .Name z pz, .Name u pu] _ _] (.Tuple [ea, eb, ec, .Dict [] [] pd] _ _) _ => decide (N[i]? = some x) && stB sc x && decide (N[j]? = some y) && stB sc y && decide (N[k]? = some z) && stB sc z && decide (N[l]? = some u) && stB sc u &&
      decide (swapRes sc [.Name x px, .Name y py, .Name z pz, .Name u pu] [ea, eb, ec, .Dict [] [] pd] = some none) && notStar ea && notStar eb && notStar ec && chk N false sc sc a ea && chk N false sc sc b eb && chk N false sc sc c ec
  | _, _, _, _, _, _, _, _ => false
def chk_parD1 (N : List Str) (sc : Scope) : Nat → T → T → Nat → Bool → T → Stmt → Bool
  | i, k, v, j, _, e, .Assign [.Tuple [.Name x px, .Name y py] _ _] (.Tuple [.Dict [some ek] [ev] pd, .List [ee] pl] _ _) _ => decide (i ≠ j) && decide (N[i]? = some x) && decide (N[j]? = some y) && decide (sc.names.lookup x = some .local) && decide (sc.names.lookup y = some .local) &&
      decide (swapRes sc [.Name x px, .Name y py] [.Dict [some ek] [ev] pd, .List [ee] pl] = some (some [x, y])) && notStar ee && chk N false sc sc k ek && chk N false sc sc v ev && chk N false sc sc e ee
  | _, _, _, _, _, _, _ => false
def chk_parDC (N : List Str) (sc : Scope) : Nat → Nat → T → Stmt → Bool
  | i, j, (.comp own g it c e), .Assign [.Tuple [.Name x px, .Name y py] _ _] (.Tuple [.Dict [] [] pd, .ListComp elt gs scope pl] _ _) _ => decide (i ≠ j) && decide (N[i]? = some x) && decide (N[j]? = some y) && decide (sc.names.lookup x = some .local) && decide (sc.names.lookup y = some .local) &&
      decide (swapRes sc [.Name x px, .Name y py] [.Dict [] [] pd, .ListComp elt gs scope pl] = some (some [x, y])) && chk N false sc sc (.comp own g it c e) (.ListComp elt gs scope pl)
  | _, _, _, _ => false
def chk_par (N : List Str) (sc : Scope) : List Nat → T → Stmt → Bool
  | [i, j], l, .Assign [.Tuple [.Name x px, .Name y py] _ _] (.Tuple [a, b] _ _) _ => decide (i ≠ j) && decide (N[i]? = some x) && decide (N[j]? = some y) && decide (sc.names.lookup x = some .local) && decide (sc.names.lookup y = some .local) &&
      decide (swapRes sc [.Name x px, .Name y py] [a, b] = some (some [x, y])) && chkA N sc sc l [a, b]
  | [i, j, k], l, .Assign [.Tuple [.Name x px, .Name y py, .Name z pz] _ _] (.Tuple [a, b, c] _ _) _ => decide (i ≠ j) && decide (i ≠ k) && decide (j ≠ k) && decide (N[i]? = some x) && decide (N[j]? = some y) && decide (N[k]? = some z) &&
      decide (sc.names.lookup x = some .local) && decide (sc.names.lookup y = some .local) && decide (sc.names.lookup z = some .local) && decide (swapRes sc [.Name x px, .Name y py, .Name z pz] [a, b, c] = some (some [x, y, z])) && chkA N sc sc l [a, b, c]
  | _, _, _ => false
def chk_parL (N : List Str) (sc : Scope) : Nat → Nat → T → Stmt → Bool
  | i, j, a, .Assign [.Tuple [.Name x px, .Name y py] _ _] (.Tuple [ea, .List [] pl] _ _) _ => decide (i ≠ j) && decide (N[i]? = some x) && decide (N[j]? = some y) && decide (sc.names.lookup x = some .local) && decide (sc.names.lookup y = some .local) &&
      decide (swapRes sc [.Name x px, .Name y py] [ea, .List [] pl] = some (some [x, y])) && notStar ea && chk N false sc sc a ea
  | _, _, _, _ => false
def chk_parR (N : List Str) (sc : Scope) : Nat → Nat → T → Stmt → Bool
  | i, j, a, .Assign [.Tuple [.Name x px, .Name y py] _ _] (.Tuple [.List [] pl, ea] _ _) _ => decide (i ≠ j) && decide (N[i]? = some x) && decide (N[j]? = some y) && decide (sc.names.lookup x = some .local) && decide (sc.names.lookup y = some .local) &&
      decide (swapRes sc [.Name x px, .Name y py] [.List [] pl, ea] = some (some [x, y])) && notStar ea && chk N false sc sc a ea
  | _, _, _, _ => false
def chk_parDL (N : List Str) (sc : Scope) : Nat → Nat → Stmt → Bool
  | i, j, .Assign [.Tuple [.Name x px, .Name y py] _ _] (.Tuple [.Dict [] [] pd, .List [] pl] _ _) _ => decide (i ≠ j) && decide (N[i]? = some x) && decide (N[j]? = some y) && decide (sc.names.lookup x = some .local) && decide (sc.names.lookup y = some .local) &&
      decide (swapRes sc [.Name x px, .Name y py] [.Dict [] [] pd, .List [] pl] = some (some [x, y]))
  | _, _, _ => false
def chk_raise (N : List Str) (sc : Scope) : Str → T → Stmt → Bool
  | x, _, .Raise (some (.Call (.Name y _) [.Constant (.str _) _ _] [] _)) none _ => decide (x = y) && glB sc y
  | _, _, _ => false
def chk_tryR (N : List Str) (sc : Scope) : Str → T → Str → Stmt → Bool
  | x, a, z, .Try [.Return (some e) _] [.ExceptHandler (some (.Name y _)) none [.Return (some (.Constant (.str z') _ _)) _] _] [] [] _ => decide (x = y) && glB sc y && decide (z = z') && chk N false sc sc a e

  | _, _, _, _ => false

mutual
def chkS (N : List Str) (sc : Scope) : T → Stmt → Bool
  | .asg g e, .Assign [tg] v _ => asgOk sc tg v && notStar tg && chkG N sc sc g tg && chk N false sc sc e v
  | .asgO i (.lst l), .Assign [.Name y _] (.List es _) _ => decide (N[i]? = some y) && stB sc y && chkA N sc sc l es
  | .asgO i (.comp own g it c e), .Assign [.Name y _] (.ListComp elt gs scope p) _ => decide (N[i]? = some y) && stB sc y && chk N false sc sc (.comp own g it c e) (.ListComp elt gs scope p)
  | .asgO i (.bin .add a b), .Assign [.Name y _] (.BinOp ea .Add eb _) _ => decide (N[i]? = some y) && stB sc y && chk N false sc sc a ea && chk N false sc sc b eb
  | .asgO i (.keysD j), .Assign [.Name y _] (.Call (.Name f _) [.Name x _] [] _) _ => decide (N[i]? = some y) && stB sc y && (f == ("list" : Str)) && glB sc f && decide (N[j]? = some x) && visB sc x
  | .putDN i a j v w, st => chk_putDN N sc i a j v w st
  | .par3D i j k a b, st => chk_par3D N sc i j k a b st
  | .asg4D i j k l a b c, st => chk_asg4D N sc i j k l a b c st
  | .parD1 i k v j own e, st => chk_parD1 N sc i k v j own e st
  | .parDC i j c, st => chk_parDC N sc i j c st
  | .par is l, st => chk_par N sc is l st
  | .parL i j a, st => chk_parL N sc i j a st
  | .parR i j a, st => chk_parR N sc i j a st
  | .app i e, .Expr (.Call (.Attribute (.Name y _) at_ apos) [v] [] cpos) _ => (at_ == ("append" : Str)) && decide (N[i]? = some y) && visB sc y && (apos.endLine == cpos.line) && notStar v && chk N false sc sc e v
  | .parDL i j, st => chk_parDL N sc i j st
  | .newD i, .Assign [.Name y _] (.Dict [] [] _) _ => decide (N[i]? = some y) && stB sc y
  | .putD i a v, .Assign [.Subscript (.Name y _) ea _] e _ => decide (N[i]? = some y) && visB sc y && notComp e && chk N false sc sc a ea && chk N false sc sc v e
  | .bset i j a, .Assign [.Subscript (.Name y _) (.Constant (.int k) _ _) _] e _ => decide (k = (j : Int)) && decide (j ≤ 1) && decide (N[i]? = some y) && visB sc y && notComp e && chk N false sc sc a e
  | .iff c a b, .If ec sa sb _ => chk N true sc sc c ec && chkB N sc a sa && chkB N sc b sb
  | .loop g it b, .For tg iter body [] _ => (notSet iter && tgOk it tg) && chkI N sc sc it iter && chkG N sc sc g tg && chkB N sc b body
  | .while _ c b, .While ec body [] _ => chk N true sc sc c ec && chkB N sc b body
  | .ret e, .Return (some v) _ => chk N false sc sc e v
  | .drop e, .Expr v _ => notComp v && chk N false sc sc e v
  | .exs ck _ a l b c, st => match ck N sc st with
    | some q => (match q.1 with
      | some ea => chk N false sc sc a ea
      | none => true) && chkA N sc sc l q.2.1 && chkB N sc b q.2.2.1 && chkB N sc c q.2.2.2
    | none => false
  | .raise x a, st => chk_raise N sc x a st
  | .tryR x a z, st => chk_tryR N sc x a z st
  | .yes, _ => true
  | _, _ => false
def chkB (N : List Str) (sc : Scope) : T → List Stmt → Bool
  | .nil, [] => true
  | .yes, _ => true
  | .seq a r, s :: ss => chkS N sc a s && chkB N sc r ss
  | .bagged i x _ a r, .Assign [.Name y _] (.Call (.Name f _) (e :: es) [] _) _ :: ss => decide (N[i]? = some y) && stB sc y && decide (x = f) && glB sc f && chkA N sc sc a (e :: es) && chkB N sc r ss
  | _, _ => false
end
end RD
set_option Elab.async false
set_option linter.all false
set_option maxRecDepth 100000
/-! RdK: what passes the look does what it says. -/
namespace RD
open PySem L2
/-! ### small facts about the text -/
section
variable {e : Expr} {es : List Expr} {env : Env} {pos : Pos}
theorem star_of (h : notStar e = true) : starEach (e :: es) env = (false, eval e env) :: starEach es env := by cases e <;> first | rfl | cases h
theorem back_of : ∀ {es : List Expr}, es.all notStar = true → (backTo pos (starEach es env)).any (·.1) = false
  | [], _ => rfl
  | e :: es, h => by
    rw [List.all_cons, Bool.and_eq_true] at h
    rw [star_of h.1]
    show (false || (backTo pos (starEach es env)).any (·.1)) = false
    rw [back_of h.2]
    rfl
theorem plainIx_of (h : notSlice e = true) : PlainIx e := fun o i => by cases e <;> first | rfl | cases h
theorem isTrue_of (h : plainT e = true) (whole : Sem Value) : isTrue e env whole = (do let v ← whole; standAt e.pos; holding [v] (truthy v)) := by cases e <;> first | rfl | cases h
theorem folded_of (h : notSet e = true) (x : Value) : foldedSetIterable e env x = pure x := by cases e <;> first | rfl | cases h
theorem asgEach_of (h : notStar e = true) : (assignEach (e :: es) env).map (·.2) = assign e env :: (assignEach es env).map (·.2) := by cases e <;> first | rfl | cases h
theorem asgEach_len : ∀ {es : List Expr}, es.all notStar = true → (assignEach es env).length = es.length ∧ (assignEach es env).findIdx? (·.1) = none
  | [], _ => ⟨rfl, rfl⟩
  | e :: es, h => by
    rw [List.all_cons, Bool.and_eq_true] at h
    obtain ⟨h1, h2⟩ := asgEach_len (es := es) h.2
    have e1 : assignEach (e :: es) env = (false, assign e env) :: assignEach es env := by
      have := h.1
      cases e <;> first | rfl | cases this
    rw [e1]
    refine ⟨by rw [List.length_cons, List.length_cons, h1], ?_⟩
    rw [List.findIdx?_cons]
    simp [h2]
theorem swaps_of {tg : Option Expr} {l : Nat} (h : notComp e = true) : swapsWith e tg l env = pure false := by cases e <;> first | rfl | cases h
theorem stores_of {sc : Scope} {tg : Expr} (hs : env.scope = sc) (hk : env.scope.kind = .function) (h : asgOk sc tg e = true) : swappedStores [tg] e env = pure none := by
  cases tg with
  | Tuple ts k p =>
    cases e with
    | Tuple vs k2 p2 => exact swapped_of hs hk (of_decide_eq_true h)
    | _ => rfl
  | List ts p => cases e <;> first | rfl | cases h
  | _ => rfl
end
theorem okN_db {x : Str} (h : okN x = true) : (x == ("__debug__" : Str)) = false ∧ (x == ("__classdict__" : Str)) = false := by
  unfold okN at h
  rw [Bool.and_eq_true] at h
  exact ⟨by simpa using h.1, by simpa using h.2⟩
theorem gl_of {sc : Scope} {x : Str} (h : glB sc x = true) : sc.names.lookup x = some .globalImplicit ∧ (x == ("__debug__" : Str)) = false := by
  unfold glB at h
  rw [Bool.and_eq_true] at h
  exact ⟨of_decide_eq_true h.1, (okN_db h.2).1⟩
theorem vis_of {sc : Scope} {x : Str} (h : visB sc x = true) : Vis sc x ∧ (x == ("__debug__" : Str)) = false ∧ (x == ("__classdict__" : Str)) = false := by
  unfold visB at h
  rw [Bool.and_eq_true] at h
  refine ⟨?_, okN_db h.2⟩
  have h1 := h.1
  split at h1
  · exact .inl ‹_›
  · exact .inr (.inl ‹_›)
  · exact .inr (.inr ‹_›)
  · cases h1
theorem st_of {raw : Scope} {x : Str} (h : stB raw x = true) : raw.names.lookup x = some .local ∨ raw.names.lookup x = some .cell := by
  unfold stB at h
  split at h
  · exact .inl ‹_›
  · exact .inr ‹_›
  · cases h
theorem evA_len : ∀ (l : T) (s : S) (us : List U) (s' : S), evA l s = .ok us s' → us.length = lenT l := by
  intro l
  induction l with
  | anil => intro s us s' h; cases h; rfl
  | acons a r _ ih =>
    intro s us s' h
    obtain ⟨u, s1, h1, h2⟩ := bind_ok (show (ev a s).bind (fun u s => (evA r s).bind fun us s => .ok (u :: us) s) = .ok us s' from h)
    obtain ⟨us', s2, h3, h4⟩ := bind_ok h2
    cases h4
    show us'.length + 1 = lenT r + 1
    rw [ih _ _ _ h3]
  | _ => intro s us s' h; cases h
theorem chkA_all {N : List Str} {sc raw : Scope} : ∀ (l : T) (es : List Expr), chkA N sc raw l es = true → es.all notStar = true ∧ es.length = lenT l := by
  intro l
  induction l with
  | anil =>
    intro es h
    cases es with
    | nil => exact ⟨rfl, rfl⟩
    | cons e es => cases h
  | acons a r _ ih =>
    intro es h
    cases es with
    | nil => cases h
    | cons e es =>
      have h' : (notStar e && chk N false sc raw a e && chkA N sc raw r es) = true := h
      rw [Bool.and_eq_true, Bool.and_eq_true] at h'
      obtain ⟨h1, h2⟩ := ih es h'.2
      refine ⟨?_, ?_⟩
      · rw [List.all_cons, h'.1.1, h1]
        rfl
      · show es.length + 1 = lenT r + 1
        rw [h2]
  | _ => intro es h; cases es <;> cases h
theorem chkGs_all {N : List Str} {sc raw : Scope} : ∀ (l : T) (es : List Expr), chkGs N sc raw l es = true → es.all notStar = true ∧ es.length = lenT l := by
  intro l
  induction l with
  | anil =>
    intro es h
    cases es with
    | nil => exact ⟨rfl, rfl⟩
    | cons e es => cases h
  | acons a r _ ih =>
    intro es h
    cases es with
    | nil => cases h
    | cons e es =>
      have h' : (notStar e && chkG N sc raw a e && chkGs N sc raw r es) = true := h
      rw [Bool.and_eq_true, Bool.and_eq_true] at h'
      obtain ⟨h1, h2⟩ := ih es h'.2
      refine ⟨?_, ?_⟩
      · rw [List.all_cons, h'.1.1, h1]
        rfl
      · show es.length + 1 = lenT r + 1
        rw [h2]
  | _ => intro es h; cases es <;> cases h

/-! ### the context -/
structure XOk (X : Cx) (N : List Str) (sc raw : Scope) (lv : Nat) : Prop where
  hN : X.N = N
  hsc : X.env.scope = sc
  kind : X.env.scope.kind = .function
  nd : N.Nodup
  calm : X.calm = true
  room : Room lv X.A
  blt : BltOk X.mg
  st : ∀ x, (raw.names.lookup x = some .local ∨ raw.names.lookup x = some .cell) → L2.Loc sc x ∧ (X.fn x = true ∨ sc.names.lookup x = some .local)
section
variable {X : Cx} {N : List Str} {sc raw : Scope} {lv : Nat}
theorem XOk.u65 (o : XOk X N sc raw lv) : X.A.units + 65 < cLine := by have := o.room.un; omega
theorem XOk.gl (o : XOk X N sc raw lv) {x : Str} (h : glB sc x = true) : Gl X x ∧ (x == ("__debug__" : Str)) = false := by
  obtain ⟨h1, h2⟩ := gl_of h
  refine ⟨?_, h2⟩
  show X.env.scope.names.lookup x = _
  rw [o.hsc]
  exact h1
theorem XOk.ix (o : XOk X N sc raw lv) {i : Nat} {x : Str} (h : decide (N[i]? = some x) = true) : X.N[i]? = some x := by
  rw [o.hN]
  exact of_decide_eq_true h
theorem XOk.loc (o : XOk X N sc raw lv) {x : Str} (h : stB raw x = true) : L2.Loc X.env.scope x ∧ (X.fn x = true ∨ X.env.scope.names.lookup x = some .local) := by
  rw [o.hsc]
  exact o.st x (st_of h)
theorem XOk.blk (o : XOk X N sc raw lv) {scope : Scope} {own : List (Str × Nat)} (ok : BlkOk N sc scope own) (s : Shared) (H : Hp) (C : Addr) (cl : List (Str × Addr)) (fp : List Addr) : XOk (X.blk s H scope (compEnvC scope cl C X.env) fp) N (relS scope sc) scope lv where
  hN := o.hN
  hsc := by
    show relS scope X.env.scope = _
    rw [o.hsc]
  kind := ok.kind
  nd := o.nd
  calm := o.calm
  room := o.room
  blt := o.blt
  st := fun x h => by
    have hk : ∀ k : NameKind, k ≠ .free → scope.names.lookup x = some k → (relS scope sc).names.lookup x = some k := fun k hk e => lookup_relS_keep (sc := sc) hk e
    rcases h with h | h
    · exact ⟨.inl (hk _ (by decide) h), .inr (hk _ (by decide) h)⟩
    · refine ⟨.inr (hk _ (by decide) h), .inl ?_⟩
      show (scope.names.lookup x == some NameKind.cell) = true
      rw [h]
      rfl
end
/-- what the calls of a tree lean on -/
def spB (K : PySem.W.Frag) (n : Nat) (g : G) : Sp := fun vs H Q _ => ∃ (F : Hp) (b : Addr) (us : List U) (x y : Int), Le F H ∧ us.length = n ∧ Paired (DenU K b F) us vs ∧ g us none = .ok (.d (.list [.int x, .int y])) none ∧
  ∀ p H', H p = none → (∀ a o, H a = some o → H' a = some o) → H' p = some (.lst [.int x, .int y]) → Q (.ref p) H'
def GB (P : Program) (w : World) (K : PySem.W.Frag) (mg : Str → Option Value) (base : Heap) (lv n : Nat) (x : Str) (g : G) : Prop := ∃ (f : Addr) (fd : FuncData) (ps : List Str) (k : Nat), k ≤ lv ∧ ps.length = n ∧ mg x = some (.ref f) ∧ PySem.W.keepIn K (.ref f) = true ∧ Binds K fd ps [] ∧
  FnOk P w K mg base (L2.CX P w) k f fd ps (spB K ps.length g)
/-- what a def's own frame has -/
structure StX (X : Cx) : Prop where
  pass : PassesOwn (model X.prog X.w) X.A X.env X.xe
  stk : X.stack = X.env :: X.outer
  frm : X.env.frame = some X.env.locals
/-- the context of a tree's promise -/
structure Isx (P : Program) (w : World) (K : PySem.W.Frag) (mg : Str → Option Value) (base : Heap) (X : Cx) : Prop where
  prog : X.prog = P
  w : X.w = w
  K : X.K = K
  mg : X.mg = mg
  base : X.base = base
/-- an expression of one's own is walked rightly -/
def ExtOk (P : Program) (w : World) (K : PySem.W.Frag) (mg : Str → Option Value) (base : Heap) (lv : Nat) (ck : CkE) (f : FnE) (a b l : T) : Prop :=
  ∀ {N : List Str} {sc raw : Scope} {X : Cx} {W : WX} {e : Expr} {oa ob : Option Expr} {es : List Expr}, Isx P w K mg base X → XOk X N sc raw lv → Takes X W → ck N sc e = some (oa, ob, es) → (∀ ea, oa = some ea → PE X ea (tX X.K X.mg W a)) → (∀ eb, ob = some eb → PE X eb (tX X.K X.mg W b)) →
    PA X es (tXA X.K X.mg W l) → es.all notStar = true → PE X e (tX X.K X.mg W (.ext ck f a b l))
def ExtIOk (P : Program) (w : World) (K : PySem.W.Frag) (mg : Str → Option Value) (base : Heap) (lv : Nat) (tp : Bool) (ck : CkE) (f : FnI) (a b l : T) : Prop :=
  ∀ {N : List Str} {sc raw : Scope} {X : Cx} {W : WX} {e tg : Expr} {oa ob : Option Expr} {es : List Expr}, Isx P w K mg base X → XOk X N sc raw lv → Takes X W → ck N sc e = some (oa, ob, es) → (∀ ea, oa = some ea → PE X ea (tX X.K X.mg W a)) → (∀ eb, ob = some eb → PE X eb (tX X.K X.mg W b)) →
    PA X es (tXA X.K X.mg W l) → es.all notStar = true → tgOk (.extI tp ck f a b l) tg = true → PI X tg e (tXI X.K X.mg W (.extI tp ck f a b l))
/-- a statement of one's own is walked rightly; its parts may be walked in other contexts of the frame -/
def ExsOk (P : Program) (w : World) (K : PySem.W.Frag) (mg : Str → Option Value) (base : Heap) (lv : Nat) (ck : CkS) (f : FnS) (a l b c : T) : Prop :=
  ∀ {N : List Str} {sc : Scope} {X : Cx} {W : WX} {st : Stmt} {oa : Option Expr} {es : List Expr} {bs cs : List Stmt}, Isx P w K mg base X → XOk X N sc sc lv → Takes X W → StX X → ck N sc st = some (oa, es, bs, cs) →
    (∀ {X' : Cx} {W' : WX}, Isx P w K mg base X' → XOk X' N sc sc lv → Takes X' W' → ∀ ea, oa = some ea → PE X' ea (tX X'.K X'.mg W' a)) →
    (∀ {X' : Cx} {W' : WX}, Isx P w K mg base X' → XOk X' N sc sc lv → Takes X' W' → PA X' es (tXA X'.K X'.mg W' l)) → es.all notStar = true →
    (∀ {X' : Cx} {W' : WX}, Isx P w K mg base X' → XOk X' N sc sc lv → Takes X' W' → StX X' → PSs X' bs (tS X'.K X'.mg W' b)) →
    (∀ {X' : Cx} {W' : WX}, Isx P w K mg base X' → XOk X' N sc sc lv → Takes X' W' → StX X' → PSs X' cs (tS X'.K X'.mg W' c)) → PS X st (tS X.K X.mg W (.exs ck f a l b c))
def Good (P : Program) (w : World) (K : PySem.W.Frag) (mg : Str → Option Value) (base : Heap) (lv : Nat) : T → Prop
  | .glob x d => GlobOk K mg x d
  | .call x g a => GF P w K mg base lv (lenT a) x g ∧ Good P w K mg base lv a
  | .bagged _ x g a r => GB P w K mg base lv (lenT a) x g ∧ Good P w K mg base lv a ∧ Good P w K mg base lv r
  | .bin _ a b => Good P w K mg base lv a ∧ Good P w K mg base lv b
  | .dix _ _ a => Good P w K mg base lv a
  | .lrg a b => Good P w K mg base lv a ∧ Good P w K mg base lv b
  | .lr1 a => Good P w K mg base lv a
  | .uniq a => Good P w K mg base lv a
  | .lenset a => Good P w K mg base lv a
  | .itz a b => Good P w K mg base lv a ∧ Good P w K mg base lv b
  | .raise x _ => ExcOk K mg x
  | .tryR x a _ => ExcOk K mg x ∧ Good P w K mg base lv a
  | .sat _ a => Good P w K mg base lv a
  | .bset _ _ a => Good P w K mg base lv a
  | .neg a => Good P w K mg base lv a
  | .cmp _ a b => Good P w K mg base lv a ∧ Good P w K mg base lv b
  | .chain _ _ a b c => Good P w K mg base lv a ∧ Good P w K mg base lv b ∧ Good P w K mg base lv c
  | .isN a => Good P w K mg base lv a
  | .notN a => Good P w K mg base lv a
  | .not a => Good P w K mg base lv a
  | .one a => Good P w K mg base lv a
  | .and a b => Good P w K mg base lv a ∧ Good P w K mg base lv b
  | .or a b => Good P w K mg base lv a ∧ Good P w K mg base lv b
  | .ite c a b => Good P w K mg base lv c ∧ Good P w K mg base lv a ∧ Good P w K mg base lv b
  | .tup a => Good P w K mg base lv a
  | .lst a => Good P w K mg base lv a
  | .acons a b => Good P w K mg base lv a ∧ Good P w K mg base lv b
  | .idx a b => Good P w K mg base lv a ∧ Good P w K mg base lv b
  | .slc a b c => Good P w K mg base lv a ∧ Good P w K mg base lv b ∧ Good P w K mg base lv c
  | .rev a => Good P w K mg base lv a
  | .mth _ a b => Good P w K mg base lv a ∧ Good P w K mg base lv b
  | .blt _ a => Good P w K mg base lv a
  | .isi _ a => Good P w K mg base lv a
  | .comp _ _ it c e => Good P w K mg base lv it ∧ Good P w K mg base lv c ∧ Good P w K mg base lv e
  | .itl a => Good P w K mg base lv a
  | .itt a => Good P w K mg base lv a
  | .itr1 a => Good P w K mg base lv a
  | .itr2 a b => Good P w K mg base lv a ∧ Good P w K mg base lv b
  | .seq a b => Good P w K mg base lv a ∧ Good P w K mg base lv b
  | .asg _ e => Good P w K mg base lv e
  | .asgO _ e => Good P w K mg base lv e
  | .par _ e => Good P w K mg base lv e
  | .parL _ _ e => Good P w K mg base lv e
  | .parR _ _ e => Good P w K mg base lv e
  | .inD _ _ a => Good P w K mg base lv a
  | .atD _ a => Good P w K mg base lv a
  | .getD _ a b => Good P w K mg base lv a ∧ Good P w K mg base lv b
  | .putD _ a v => Good P w K mg base lv a ∧ Good P w K mg base lv v
  | .app _ e => Good P w K mg base lv e
  | .inX _ a b => Good P w K mg base lv a ∧ Good P w K mg base lv b
  | .itd a => Good P w K mg base lv a
  | .trg a => Good P w K mg base lv a
  | .unV _ => True
  | .ext ck f a b l => ExtOk P w K mg base lv ck f a b l ∧ Good P w K mg base lv a ∧ Good P w K mg base lv b ∧ Good P w K mg base lv l
  | .extI tp ck f a b l => ExtIOk P w K mg base lv tp ck f a b l ∧ Good P w K mg base lv a ∧ Good P w K mg base lv b ∧ Good P w K mg base lv l
  | .exs ck f a l b c => ExsOk P w K mg base lv ck f a l b c ∧ Good P w K mg base lv a ∧ Good P w K mg base lv l ∧ Good P w K mg base lv b ∧ Good P w K mg base lv c
  | .tupK l => Good P w K mg base lv l
  | .idxK _ b => Good P w K mg base lv b
  | .idxOf _ a b => Good P w K mg base lv a ∧ Good P w K mg base lv b
  | .putDN _ a _ v w' => Good P w K mg base lv a ∧ Good P w K mg base lv v ∧ Good P w K mg base lv w'
  | .par3D _ _ _ a b => Good P w K mg base lv a ∧ Good P w K mg base lv b
  | .asg4D _ _ _ _ a b c => Good P w K mg base lv a ∧ Good P w K mg base lv b ∧ Good P w K mg base lv c
  | .parD1 _ k v _ _ e => Good P w K mg base lv k ∧ Good P w K mg base lv v ∧ Good P w K mg base lv e
  | .parDC _ _ c => Good P w K mg base lv c
  | .iff c a b => Good P w K mg base lv c ∧ Good P w K mg base lv a ∧ Good P w K mg base lv b
  | .loop _ it b => Good P w K mg base lv it ∧ Good P w K mg base lv b
  | .while _ c b => Good P w K mg base lv c ∧ Good P w K mg base lv b
  | .ret e => Good P w K mg base lv e
  | .drop e => Good P w K mg base lv e
  | _ => True

abbrev GoodX (X : Cx) (lv : Nat) (t : T) : Prop := Good X.prog X.w X.K X.mg X.base lv t
/-- one expression node's promises -/
structure SndE (N : List Str) (lv : Nat) (t : T) : Prop where
  he : ∀ {sc raw : Scope} {X : Cx} {W : WX} {e : Expr}, XOk X N sc raw lv → GoodX X lv t → Takes X W → chk N false sc raw t e = true → PE X e (tX X.K X.mg W t)
  ht : ∀ {sc raw : Scope} {X : Cx} {W : WX} {e : Expr}, XOk X N sc raw lv → GoodX X lv t → Takes X W → chk N true sc raw t e = true → (∃ op es p, e = .BoolOp op es p) ∨ PT X e (tXT X.K X.mg W t)
  hw : ∀ {sc raw : Scope} {X : Cx} {W : WX} {op : BoolOp} {es : List Expr} {p : Pos}, XOk X N sc raw lv → GoodX X lv t → Takes X W → chk N true sc raw t (.BoolOp op es p) = true → PW X (.BoolOp op es p) (tXT X.K X.mg W t)
  ha : ∀ {sc raw : Scope} {X : Cx} {W : WX} {es : List Expr}, XOk X N sc raw lv → GoodX X lv t → Takes X W → chkA N sc raw t es = true → PA X es (tXA X.K X.mg W t)
  ho : ∀ {sc raw : Scope} {X : Cx} {W : WX} {e : Option Expr}, XOk X N sc raw lv → GoodX X lv t → Takes X W → chkO N sc raw t e = true → PO X e (tXO X.K X.mg W t)
  hi : ∀ {sc raw : Scope} {X : Cx} {W : WX} {e tg : Expr}, XOk X N sc raw lv → GoodX X lv t → Takes X W → chkI N sc raw t e = true → tgOk t tg = true → PI X tg e (tXI X.K X.mg W t)
  hg : ∀ {sc raw : Scope} {X : Cx} {e : Expr}, XOk X N sc raw lv → chkG N sc raw t e = true → PG X e (tXG X.K t)
  hgs : ∀ {sc raw : Scope} {X : Cx} {es : List Expr}, XOk X N sc raw lv → chkGs N sc raw t es = true → PGs X es (tXGs X.K t)
  hc : ∀ {sc raw : Scope} {X : Cx} {W : WX} {es : List Expr}, XOk X N sc raw lv → GoodX X lv t → Takes X W → chkC N sc raw t es = true → PTs X es (tXT X.K X.mg W t)
theorem SndE.pt {N : List Str} {lv : Nat} {t : T} (S : SndE N lv t) {sc raw : Scope} {X : Cx} {W : WX} {e : Expr} (o : XOk X N sc raw lv) (h1 : GoodX X lv t) (tk : Takes X W) (h : chk N true sc raw t e = true) : PT X e (tXT X.K X.mg W t) := by
  rcases S.ht o h1 tk h with ⟨op, es, p, rfl⟩ | q
  · exact (S.hw o h1 tk h).pt
  · exact q
/-- a method call with two arguments -/
theorem m2_of {X : Cx} {x m : Str} {px apos cpos : Pos} {ea eb : Expr} (h1 : notStar ea = true) (h2 : notStar eb = true) (hl : (apos.endLine == cpos.line) = true) : M2 X (.Name x px) m apos ea eb cpos := by
  have hs : starEach [ea, eb] X.env = [(false, eval ea X.env), (false, eval eb X.env)] := (star_of h1).trans (congrArg _ (star_of h2))
  refine ⟨rfl, ?_, hl, ?_⟩
  · rw [hs]
    rfl
  · rw [hs]
    rfl
end RD
set_option Elab.async false
set_option linter.all false
set_option maxRecDepth 100000
set_option maxHeartbeats 4000000
/-! RdL: what passes the look does what it says: expressions. -/
namespace RD
open PySem L2
section
variable {N : List Str} {lv : Nat}
theorem takesF {X : Cx} : Takes X W0 := takes0
/-- nodes that are no expression, no argument list, .. -/
theorem SndE.none {t : T} (h1 : ∀ m sc raw e, chk N m sc raw t e ≠ true) (h2 : ∀ sc raw es, chkA N sc raw t es ≠ true) (h3 : ∀ sc raw e, chkO N sc raw t e ≠ true) (h4 : ∀ sc raw e, chkI N sc raw t e ≠ true) (h5 : ∀ sc raw e, chkG N sc raw t e ≠ true) (h6 : ∀ sc raw es, chkGs N sc raw t es ≠ true) (h7 : ∀ sc raw es, chkC N sc raw t es ≠ true) : SndE N lv t :=
  ⟨fun _ _ _ h => absurd h (h1 _ _ _ _), fun _ _ _ h => absurd h (h1 _ _ _ _), fun _ _ _ h => absurd h (h1 _ _ _ _), fun _ _ _ h => absurd h (h2 _ _ _), fun _ _ _ h => absurd h (h3 _ _ _), fun _ _ _ h => absurd h (h4 _ _ _), fun _ h => absurd h (h5 _ _ _), fun _ h => absurd h (h6 _ _ _), fun _ _ _ h => absurd h (h7 _ _ _)⟩
theorem plainT_no {op : BoolOp} {es : List Expr} {p : Pos} {A : Prop} (h : plainT (.BoolOp op es p) = true) : A := by cases h
/-- nodes that are expressions; as a test, a value that is a bool -/
theorem SndE.val {t : T} (he : ∀ {sc raw : Scope} {X : Cx} {W : WX} {e : Expr}, XOk X N sc raw lv → GoodX X lv t → Takes X W → chk N false sc raw t e = true → PE X e (tX X.K X.mg W t))
    (hm : ∀ sc raw e, chk N true sc raw t e = true → chk N false sc raw t e = true ∧ plainT e = true) (h2 : ∀ sc raw es, chkA N sc raw t es ≠ true) (h3 : ∀ sc raw e, chkO N sc raw t e ≠ true) (h4 : ∀ sc raw e, chkI N sc raw t e ≠ true) (h5 : ∀ sc raw e, chkG N sc raw t e ≠ true) (h6 : ∀ sc raw es, chkGs N sc raw t es ≠ true) (h7 : ∀ sc raw es, chkC N sc raw t es ≠ true) : SndE N lv t :=
  ⟨he, fun o g tk h => .inr (st_val (he o g tk (hm _ _ _ h).1) (isTrue_of (hm _ _ _ h).2)), fun o g tk h => plainT_no (hm _ _ _ h).2, fun _ _ _ h => absurd h (h2 _ _ _), fun _ _ _ h => absurd h (h3 _ _ _), fun _ _ _ h => absurd h (h4 _ _ _), fun _ h => absurd h (h5 _ _ _), fun _ h => absurd h (h6 _ _ _), fun _ _ _ h => absurd h (h7 _ _ _)⟩
theorem SndE.valM {t : T} (he : ∀ {m : Bool} {sc raw : Scope} {X : Cx} {W : WX} {e : Expr}, XOk X N sc raw lv → GoodX X lv t → Takes X W → chk N m sc raw t e = true → PE X e (tX X.K X.mg W t))
    (hm : ∀ sc raw e, chk N true sc raw t e = true → plainT e = true) (h2 : ∀ sc raw es, chkA N sc raw t es ≠ true) (h3 : ∀ sc raw e, chkO N sc raw t e ≠ true) (h4 : ∀ sc raw e, chkI N sc raw t e ≠ true) (h5 : ∀ sc raw e, chkG N sc raw t e ≠ true) (h6 : ∀ sc raw es, chkGs N sc raw t es ≠ true) (h7 : ∀ sc raw es, chkC N sc raw t es ≠ true) : SndE N lv t :=
  ⟨he, fun o g tk h => .inr (st_val (he o g tk h) (isTrue_of (hm _ _ _ h))), fun o g tk h => plainT_no (hm _ _ _ h), fun _ _ _ h => absurd h (h2 _ _ _), fun _ _ _ h => absurd h (h3 _ _ _), fun _ _ _ h => absurd h (h4 _ _ _), fun _ h => absurd h (h5 _ _ _), fun _ h => absurd h (h6 _ _ _), fun _ _ _ h => absurd h (h7 _ _ _)⟩
/-- nodes that have a rule of their own as a test -/
theorem SndE.tst {t : T} (he : ∀ {sc raw : Scope} {X : Cx} {W : WX} {e : Expr}, XOk X N sc raw lv → GoodX X lv t → Takes X W → chk N false sc raw t e = true → PE X e (tX X.K X.mg W t))
    (ht : ∀ {sc raw : Scope} {X : Cx} {W : WX} {e : Expr}, XOk X N sc raw lv → GoodX X lv t → Takes X W → chk N true sc raw t e = true → PT X e (tXT X.K X.mg W t)) (hw : ∀ m sc raw op es p, chk N m sc raw t (.BoolOp op es p) ≠ true)
    (h2 : ∀ sc raw es, chkA N sc raw t es ≠ true) (h3 : ∀ sc raw e, chkO N sc raw t e ≠ true) (h4 : ∀ sc raw e, chkI N sc raw t e ≠ true) (h5 : ∀ sc raw e, chkG N sc raw t e ≠ true) (h6 : ∀ sc raw es, chkGs N sc raw t es ≠ true) (h7 : ∀ sc raw es, chkC N sc raw t es ≠ true) : SndE N lv t :=
  ⟨he, fun o g tk h => .inr (ht o g tk h), fun o g tk h => absurd h (hw _ _ _ _ _ _), fun _ _ _ h => absurd h (h2 _ _ _), fun _ _ _ h => absurd h (h3 _ _ _), fun _ _ _ h => absurd h (h4 _ _ _), fun _ h => absurd h (h5 _ _ _), fun _ h => absurd h (h6 _ _ _), fun _ _ _ h => absurd h (h7 _ _ _)⟩
theorem snd_var (i : Nat)  : SndE N lv (.var i) := by
  exact SndE.val (by
      intro sc raw X W e o _ tk h
      cases e <;> first | cases h | skip
      rename_i x p
      have h' : (decide (N[i]? = some x) && visB sc x) = true := h
      rw [Bool.and_eq_true] at h'
      obtain ⟨v1, v2, v3⟩ := vis_of h'.2
      exact sx_var (o.ix h'.1) (by rw [o.hsc]; exact v1) v2 v3) (fun _ _ x h => by cases x <;> first | exact ⟨h, rfl⟩ | cases h) (fun _ _ x h => by cases x <;> cases h) (fun _ _ x h => by cases x <;> cases h) (fun _ _ x h => by cases x <;> cases h) (fun _ _ x h => by cases x <;> cases h) (fun _ _ x h => by cases x <;> cases h) (fun _ _ x h => by cases x <;> cases h)
theorem snd_lenS (i : Nat) : SndE N lv (.lenS i) := by
  have key : ∀ (m : Bool) (sc raw : Scope) (e : Expr), chk N m sc raw (.lenS i) e = true → ∃ p x xp pos, e = .Call (.Name "len" p) [.Name x xp] [] pos ∧ glB sc "len" = true ∧ decide (N[i]? = some x) = true ∧ visB sc x = true := by
    intro m sc raw e h
    cases e <;> first | cases h | skip
    rename_i fe args kws p
    cases fe <;> first | cases h | skip
    rename_i fn fp
    match args, kws, h with
    | [.Name x xp], [], h =>
      have h' : ((fn == ("len" : Str)) && glB sc fn && decide (N[i]? = some x) && visB sc x) = true := h
      simp only [Bool.and_eq_true] at h'
      obtain ⟨⟨⟨q1, q2⟩, q3⟩, q4⟩ := h'
      have q1' : fn = "len" := eq_of_beq q1
      subst q1'
      exact ⟨_, _, _, _, rfl, q2, q3, q4⟩
  exact SndE.val (by
      intro sc raw X W e o g tk h
      obtain ⟨p, x, xp, pos, rfl, q2, q3, q4⟩ := key _ _ _ _ h
      obtain ⟨v1, v2, v3⟩ := vis_of q4
      exact sx_lenS o.blt (o.gl q2).1 (o.ix q3) (by rw [o.hsc]; exact v1) v2 v3) (fun sc raw x h => by
      obtain ⟨p, x, xp, pos, rfl, q2, q3, q4⟩ := key _ _ _ _ h
      exact ⟨h, rfl⟩) (fun _ _ x h => by cases x <;> cases h) (fun _ _ x h => by cases x <;> cases h) (fun _ _ x h => by cases x <;> cases h) (fun _ _ x h => by cases x <;> cases h) (fun _ _ x h => by cases x <;> cases h) (fun _ _ x h => by cases x <;> cases h)
theorem snd_cst (d : PyData)  : SndE N lv (.cst d) := by
  exact SndE.val (by
      intro sc raw X W e o _ tk h
      cases d with
      | int i =>
        cases e <;> first | cases h | skip
        rename_i c k p
        cases c <;> first | cases h | skip
        rename_i j
        have h' : i = j := of_decide_eq_true h
        subst h'
        exact sx_int
      | bool i =>
        cases e <;> first | cases h | skip
        rename_i c k p
        cases c <;> first | cases h | skip
        rename_i j
        have h' : i = j := of_decide_eq_true h
        subst h'
        exact sx_bl
      | none =>
        cases e <;> first | cases h | skip
        rename_i c k p
        cases c <;> first | cases h | skip
        exact sx_non
      | str i =>
        cases e <;> first | cases h | skip
        rename_i c k p
        cases c <;> first | cases h | skip
        rename_i j
        have h' : i = j := of_decide_eq_true h
        subst h'
        exact sx_str
      | _ => cases e <;> cases h) (fun _ _ x h => by cases d <;> (cases x <;> first | cases h | (rename_i c _ _; cases c <;> first | exact ⟨h, rfl⟩ | cases h))) (fun _ _ x h => by cases x <;> cases h) (fun _ _ x h => by cases x <;> cases h) (fun _ _ x h => by cases x <;> cases h) (fun _ _ x h => by cases x <;> cases h) (fun _ _ x h => by cases x <;> cases h) (fun _ _ x h => by cases x <;> cases h)
theorem snd_glob (x : Str) (d : PyData)  : SndE N lv (.glob x d) := by
  exact SndE.val (by
      intro sc raw X W e o g tk h
      cases e <;> first | cases h | skip
      rename_i y p
      have h' : (decide (x = y) && glB sc y) = true := h
      rw [Bool.and_eq_true] at h'
      have hx : x = y := of_decide_eq_true h'.1
      subst hx
      exact sx_glob (o.gl h'.2).1 g (o.gl h'.2).2) (fun _ _ x h => by cases x <;> first | exact ⟨h, rfl⟩ | cases h) (fun _ _ x h => by cases x <;> cases h) (fun _ _ x h => by cases x <;> cases h) (fun _ _ x h => by cases x <;> cases h) (fun _ _ x h => by cases x <;> cases h) (fun _ _ x h => by cases x <;> cases h) (fun _ _ x h => by cases x <;> cases h)
theorem snd_bin (op : BOp) (a : T) (b : T) (iha : SndE N lv a) (ihb : SndE N lv b) : SndE N lv (.bin op a b) := by
  exact SndE.val (by
      intro sc raw X W e o g tk h
      cases e <;> first | cases h | skip
      rename_i ea oo eb p
      have h' : (decide (oo = op.op) && chk N false sc raw a ea && chk N false sc raw b eb) = true := h
      rw [Bool.and_eq_true, Bool.and_eq_true] at h'
      have hx : oo = op.op := of_decide_eq_true h'.1.1
      subst hx
      exact sx_bin op (iha.he o g.1 tk h'.1.2) (ihb.he o g.2 tk h'.2)) (fun _ _ x h => by cases x <;> first | exact ⟨h, rfl⟩ | cases h) (fun _ _ x h => by cases x <;> cases h) (fun _ _ x h => by cases x <;> cases h) (fun _ _ x h => by cases x <;> cases h) (fun _ _ x h => by cases x <;> cases h) (fun _ _ x h => by cases x <;> cases h) (fun _ _ x h => by cases x <;> cases h)
theorem snd_neg (a : T) (iha : SndE N lv a) : SndE N lv (.neg a) := by
  exact SndE.val (by
      intro sc raw X W e o g tk h
      cases e <;> first | cases h | skip
      rename_i oo ea p
      cases oo <;> first | cases h | skip
      exact sx_neg (iha.he o g tk (by simpa using (show (!false && chk N false sc raw a ea) = true from h)))) (fun _ _ x h => by cases x <;> first | cases h | (rename_i oo _ _; cases oo <;> cases h)) (fun _ _ x h => by cases x <;> cases h) (fun _ _ x h => by cases x <;> cases h) (fun _ _ x h => by cases x <;> cases h) (fun _ _ x h => by cases x <;> cases h) (fun _ _ x h => by cases x <;> cases h) (fun _ _ x h => by cases x <;> cases h)
theorem snd_cmp (op : COp) (a : T) (b : T) (iha : SndE N lv a) (ihb : SndE N lv b) : SndE N lv (.cmp op a b) := by
  exact SndE.tst (by
      intro sc raw X W e o g tk h
      cases e <;> first | cases h | skip
      rename_i ea ops cs p
      cases ops with
      | nil => cases h
      | cons oo ops =>
        cases ops with
        | cons _ _ => cases oo <;> cases h
        | nil =>
          cases cs with
          | nil => cases oo <;> cases h
          | cons eb cs =>
            cases cs with
            | cons _ _ => cases oo <;> cases h
            | nil =>
              have h' : (decide (oo = op.op) && !behindInMarks oo eb && chk N false sc raw a ea && chk N false sc raw b eb) = true := h
              rw [Bool.and_eq_true, Bool.and_eq_true, Bool.and_eq_true] at h'
              have hx : oo = op.op := of_decide_eq_true h'.1.1.1
              subst hx
              have hb : behindInMarks op.op eb = false := by simpa using h'.1.1.2
              exact sx_cmp o.u65 op (iha.he o g.1 tk h'.1.2) (ihb.he o g.2 tk h'.2) hb) (by
      intro sc raw X W e o g tk h
      cases e <;> first | cases h | skip
      rename_i ea ops cs p
      cases ops with
      | nil => cases h
      | cons oo ops =>
        cases ops with
        | cons _ _ => cases oo <;> cases h
        | nil =>
          cases cs with
          | nil => cases oo <;> cases h
          | cons eb cs =>
            cases cs with
            | cons _ _ => cases oo <;> cases h
            | nil =>
              have h' : (decide (oo = op.op) && !behindInMarks oo eb && chk N false sc raw a ea && chk N false sc raw b eb) = true := h
              rw [Bool.and_eq_true, Bool.and_eq_true, Bool.and_eq_true] at h'
              have hx : oo = op.op := of_decide_eq_true h'.1.1.1
              subst hx
              have hb : behindInMarks op.op eb = false := by simpa using h'.1.1.2
              exact st_cmp o.u65 op (iha.he o g.1 tk h'.1.2) (ihb.he o g.2 tk h'.2) hb) (fun m _ _ _ _ _ h => by cases h) (fun _ _ x h => by cases x <;> cases h) (fun _ _ x h => by cases x <;> cases h) (fun _ _ x h => by cases x <;> cases h) (fun _ _ x h => by cases x <;> cases h) (fun _ _ x h => by cases x <;> cases h) (fun _ _ x h => by cases x <;> cases h)
theorem snd_chain (q : COp) (p : COp) (a : T) (b : T) (c : T) (iha : SndE N lv a) (ihb : SndE N lv b) (ihc : SndE N lv c) : SndE N lv (.chain q p a b c) := by
  exact SndE.tst (by
      intro sc raw X W e o g tk h
      cases e <;> first | cases h | skip
      rename_i ea ops cs pp
      match ops, cs, h with
      | [o', p'], [eb, ec], h =>
        have h' : (decide (o' = q.op) && decide (p' = p.op) && !lastMarks [o', p'] [eb, ec] && chk N false sc raw a ea && chk N false sc raw b eb && chk N false sc raw c ec) = true := h
        simp only [Bool.and_eq_true] at h'
        obtain ⟨⟨⟨⟨⟨h1, h2⟩, h3⟩, h4⟩, h5⟩, h6⟩ := h'
        have e1 : o' = q.op := of_decide_eq_true h1
        have e2 : p' = p.op := of_decide_eq_true h2
        subst e1
        subst e2
        exact sx_chain o.u65 q p (iha.he o g.1 tk h4) (ihb.he o g.2.1 tk h5) (ihc.he o g.2.2 tk h6) (by simpa using h3)) (by
      intro sc raw X W e o g tk h
      cases e <;> first | cases h | skip
      rename_i ea ops cs pp
      match ops, cs, h with
      | [o', p'], [eb, ec], h =>
        have h' : (decide (o' = q.op) && decide (p' = p.op) && !lastMarks [o', p'] [eb, ec] && chk N false sc raw a ea && chk N false sc raw b eb && chk N false sc raw c ec) = true := h
        simp only [Bool.and_eq_true] at h'
        obtain ⟨⟨⟨⟨⟨h1, h2⟩, h3⟩, h4⟩, h5⟩, h6⟩ := h'
        have e1 : o' = q.op := of_decide_eq_true h1
        have e2 : p' = p.op := of_decide_eq_true h2
        subst e1
        subst e2
        exact st_chain o.u65 q p (iha.he o g.1 tk h4) (ihb.he o g.2.1 tk h5) (ihc.he o g.2.2 tk h6) (by simpa using h3)) (fun m _ _ _ _ _ h => by cases h) (fun _ _ x h => by cases x <;> cases h) (fun _ _ x h => by cases x <;> cases h) (fun _ _ x h => by cases x <;> cases h) (fun _ _ x h => by cases x <;> cases h) (fun _ _ x h => by cases x <;> cases h) (fun _ _ x h => by cases x <;> cases h)
theorem snd_isN (a : T) (iha : SndE N lv a) : SndE N lv (.isN a) := by
  exact SndE.tst (by
      intro sc raw X W e o g tk h
      cases e <;> first | cases h | skip
      rename_i ea ops cs pp
      match ops, cs, h with
      | [.Is], [.Constant .none _ _], h => exact sx_isN (iha.he o g tk h)) (by
      intro sc raw X W e o g tk h
      cases e <;> first | cases h | skip
      rename_i ea ops cs pp
      match ops, cs, h with
      | [.Is], [.Constant .none _ _], h => exact st_isN (iha.he o g tk h)) (fun m _ _ _ _ _ h => by cases h) (fun _ _ x h => by cases x <;> cases h) (fun _ _ x h => by cases x <;> cases h) (fun _ _ x h => by cases x <;> cases h) (fun _ _ x h => by cases x <;> cases h) (fun _ _ x h => by cases x <;> cases h) (fun _ _ x h => by cases x <;> cases h)
theorem snd_notN (a : T) (iha : SndE N lv a) : SndE N lv (.notN a) := by
  exact SndE.tst (by
      intro sc raw X W e o g tk h
      cases e <;> first | cases h | skip
      rename_i ea ops cs pp
      match ops, cs, h with
      | [.IsNot], [.Constant .none _ _], h => exact sx_notN (iha.he o g tk h)) (by
      intro sc raw X W e o g tk h
      cases e <;> first | cases h | skip
      rename_i ea ops cs pp
      match ops, cs, h with
      | [.IsNot], [.Constant .none _ _], h => exact st_notN (iha.he o g tk h)) (fun m _ _ _ _ _ h => by cases h) (fun _ _ x h => by cases x <;> cases h) (fun _ _ x h => by cases x <;> cases h) (fun _ _ x h => by cases x <;> cases h) (fun _ _ x h => by cases x <;> cases h) (fun _ _ x h => by cases x <;> cases h) (fun _ _ x h => by cases x <;> cases h)
theorem snd_not (a : T) (iha : SndE N lv a) : SndE N lv (.not a) := by
  exact SndE.tst (by
      intro sc raw X W e o g tk h
      cases e <;> first | cases h | skip
      rename_i oo ea p
      cases oo <;> first | cases h | skip
      exact sx_not (iha.he o g tk h)) (by
      intro sc raw X W e o g tk h
      cases e <;> first | cases h | skip
      rename_i oo ea p
      cases oo <;> first | cases h | skip
      exact st_not (iha.pt o g tk h)) (fun m _ _ _ _ _ h => by cases h) (fun _ _ x h => by cases x <;> cases h) (fun _ _ x h => by cases x <;> cases h) (fun _ _ x h => by cases x <;> cases h) (fun _ _ x h => by cases x <;> cases h) (fun _ _ x h => by cases x <;> cases h) (fun _ _ x h => by cases x <;> cases h)
theorem snd_one (a : T) (iha : SndE N lv a) : SndE N lv (.one a) := by
  refine ⟨?_, ?_, ?_, ?_, ?_, ?_, ?_, ?_, ?_⟩
  · intro sc raw X W e o g tk h
    cases e <;> first | cases h | skip
    rename_i op es p
    match es, h with
    | [ea], h => exact sx_one (iha.he o g tk h)
  · intro sc raw X W e o g tk h
    cases e <;> first | cases h | skip
    exact .inl ⟨_, _, _, rfl⟩
  · intro sc raw X W op es p o g tk h
    match es, op, h with
    | [ea], .And, h => exact sw_and1 (iha.pt o g tk h)
    | [ea], .Or, h => exact sw_or1 (iha.pt o g tk h)
  · intro sc raw X W es _ _ _ h; cases es <;> cases h
  · intro sc raw X W es _ _ _ h; cases es <;> cases h
  · intro sc raw X W es tg _ _ _ h; cases es <;> cases h
  · intro sc raw X es _ h; cases es <;> cases h
  · intro sc raw X es _ h; cases es <;> cases h
  · intro sc raw X W es o g tk h
    match es, h with
    | [e], h => exact pts_one (iha.pt o g tk h)
theorem snd_and (a : T) (b : T) (iha : SndE N lv a) (ihb : SndE N lv b) : SndE N lv (.and a b) := by
  refine ⟨?_, ?_, ?_, ?_, ?_, ?_, ?_, ?_, ?_⟩
  · intro sc raw X W e o g tk h
    cases e <;> first | cases h | skip
    rename_i op es p
    match op, es, h with
    | .And, ea :: eb :: es, h =>
      have h' : (chk N false sc raw a ea && chk N false sc raw b (.BoolOp .And (eb :: es) p)) = true := h
      rw [Bool.and_eq_true] at h'
      exact sx_and (iha.he o g.1 tk h'.1) (ihb.he o g.2 tk h'.2)
  · intro sc raw X W e o g tk h
    cases e <;> first | cases h | skip
    exact .inl ⟨_, _, _, rfl⟩
  · intro sc raw X W op es p o g tk h
    match op, es, h with
    | .And, ea :: eb :: es, h =>
      have h' : (chk N true sc raw a ea && chk N true sc raw b (.BoolOp .And (eb :: es) p)) = true := h
      rw [Bool.and_eq_true] at h'
      exact sw_and (iha.pt o g.1 tk h'.1) (ihb.hw o g.2 tk h'.2)
  · intro sc raw X W es _ _ _ h; cases es <;> cases h
  · intro sc raw X W es _ _ _ h; cases es <;> cases h
  · intro sc raw X W es tg _ _ _ h; cases es <;> cases h
  · intro sc raw X es _ h; cases es <;> cases h
  · intro sc raw X es _ h; cases es <;> cases h
  · intro sc raw X W es _ _ _ h; cases es <;> cases h
theorem snd_or (a : T) (b : T) (iha : SndE N lv a) (ihb : SndE N lv b) : SndE N lv (.or a b) := by
  refine ⟨?_, ?_, ?_, ?_, ?_, ?_, ?_, ?_, ?_⟩
  · intro sc raw X W e o g tk h
    cases e <;> first | cases h | skip
    rename_i op es p
    match op, es, h with
    | .Or, ea :: eb :: es, h =>
      have h' : (chk N false sc raw a ea && chk N false sc raw b (.BoolOp .Or (eb :: es) p)) = true := h
      rw [Bool.and_eq_true] at h'
      exact sx_or (iha.he o g.1 tk h'.1) (ihb.he o g.2 tk h'.2)
  · intro sc raw X W e o g tk h
    cases e <;> first | cases h | skip
    exact .inl ⟨_, _, _, rfl⟩
  · intro sc raw X W op es p o g tk h
    match op, es, h with
    | .Or, ea :: eb :: es, h =>
      have h' : (chk N true sc raw a ea && chk N true sc raw b (.BoolOp .Or (eb :: es) p)) = true := h
      rw [Bool.and_eq_true] at h'
      exact sw_or (iha.pt o g.1 tk h'.1) (ihb.hw o g.2 tk h'.2)
  · intro sc raw X W es _ _ _ h; cases es <;> cases h
  · intro sc raw X W es _ _ _ h; cases es <;> cases h
  · intro sc raw X W es tg _ _ _ h; cases es <;> cases h
  · intro sc raw X es _ h; cases es <;> cases h
  · intro sc raw X es _ h; cases es <;> cases h
  · intro sc raw X W es _ _ _ h; cases es <;> cases h
theorem snd_ite (c : T) (a : T) (b : T) (ihc : SndE N lv c) (iha : SndE N lv a) (ihb : SndE N lv b) : SndE N lv (.ite c a b) := by
  exact SndE.val (by
      intro sc raw X W e o g tk h
      cases e <;> first | cases h | skip
      rename_i ec ea eb p
      have h' : (!false && chk N true sc raw c ec && chk N false sc raw a ea && chk N false sc raw b eb) = true := h
      simp only [Bool.and_eq_true] at h'
      exact sx_ite (ihc.pt o g.1 tk h'.1.1.2) (iha.he o g.2.1 tk h'.1.2) (ihb.he o g.2.2 tk h'.2)) (fun sc raw x h => by cases x <;> cases h) (fun _ _ x h => by cases x <;> cases h) (fun _ _ x h => by cases x <;> cases h) (fun _ _ x h => by cases x <;> cases h) (fun _ _ x h => by cases x <;> cases h) (fun _ _ x h => by cases x <;> cases h) (fun _ _ x h => by cases x <;> cases h)
theorem snd_tup (l : T) (ih : SndE N lv l) : SndE N lv (.tup l) := by
  exact SndE.val (by
      intro sc raw X W e o g tk h
      cases e <;> first | cases h | skip
      exact sx_tup (ih.ha o g tk h)) (fun _ _ x h => by cases x <;> first | exact ⟨h, rfl⟩ | cases h) (fun _ _ x h => by cases x <;> cases h) (fun _ _ x h => by cases x <;> cases h) (fun _ _ x h => by cases x <;> cases h) (fun _ _ x h => by cases x <;> cases h) (fun _ _ x h => by cases x <;> cases h) (fun _ _ x h => by cases x <;> cases h)
theorem snd_lst (l : T) (ih : SndE N lv l) : SndE N lv (.lst l) := by
  exact SndE.val (by
      intro sc raw X W e o g tk h
      cases e <;> first | cases h | skip
      exact sx_lst (ih.ha o g tk h)) (fun _ _ x h => by cases x <;> first | exact ⟨h, rfl⟩ | cases h) (fun _ _ x h => by cases x <;> cases h) (fun _ _ x h => by cases x <;> cases h) (fun _ _ x h => by cases x <;> cases h) (fun _ _ x h => by cases x <;> cases h) (fun _ _ x h => by cases x <;> cases h) (fun _ _ x h => by cases x <;> cases h)
theorem snd_anil   : SndE N lv (.anil ) := by
  refine ⟨?_, ?_, ?_, ?_, ?_, ?_, ?_, ?_, ?_⟩
  · intro sc raw X W e _ _ _ h; cases e <;> cases h
  · intro sc raw X W e _ _ _ h; cases e <;> cases h
  · intro sc raw X W op es p _ _ _ h; cases h
  · intro sc raw X W es o g tk h
    cases es with
    | nil => exact sa_nil
    | cons _ _ => cases h
  · intro sc raw X W es _ _ _ h; cases es <;> cases h
  · intro sc raw X W es tg _ _ _ h; cases es <;> cases h
  · intro sc raw X es _ h; cases es <;> cases h
  · intro sc raw X es o h
    cases es with
    | nil => exact sgs_nil
    | cons _ _ => cases h
  · intro sc raw X W es _ _ _ h; cases es <;> cases h
theorem snd_acons (a : T) (r : T) (iha : SndE N lv a) (ihr : SndE N lv r) : SndE N lv (.acons a r) := by
  refine ⟨?_, ?_, ?_, ?_, ?_, ?_, ?_, ?_, ?_⟩
  · intro sc raw X W e _ _ _ h; cases e <;> cases h
  · intro sc raw X W e _ _ _ h; cases e <;> cases h
  · intro sc raw X W op es p _ _ _ h; cases h
  · intro sc raw X W es o g tk h
    cases es with
    | nil => cases h
    | cons e es =>
      have h' : (notStar e && chk N false sc raw a e && chkA N sc raw r es) = true := h
      simp only [Bool.and_eq_true] at h'
      exact sa_cons (iha.he o g.1 tk h'.1.2) (ihr.ha o g.2 tk h'.2) (star_of h'.1.1)
  · intro sc raw X W e o g tk h
    cases e with
    | none => cases r <;> cases h
    | some e =>
      cases r <;> first | cases h | skip
      exact so_some (iha.he o g.1 tk h)
  · intro sc raw X W es tg _ _ _ h; cases es <;> cases h
  · intro sc raw X es _ h; cases es <;> cases h
  · intro sc raw X es o h
    cases es with
    | nil => cases h
    | cons e es =>
      have h' : (notStar e && chkG N sc raw a e && chkGs N sc raw r es) = true := h
      simp only [Bool.and_eq_true] at h'
      exact sgs_cons (iha.hg o h'.1.2) (ihr.hgs o h'.2) (asgEach_of h'.1.1)
  · intro sc raw X W es _ _ _ h; cases es <;> cases h
theorem base_of {ea : Expr} {env : Env} {n : Str} (h : isConstE ea = true) : attributeBase ea n env (eval ea env) = eval ea env := by
  cases ea <;> first | rfl | cases h
theorem snd_mth (f : MF) (a : T) (b : T) (iha : SndE N lv a) (ihb : SndE N lv b) : SndE N lv (.mth f a b) := by
  have key : ∀ (m : Bool) (sc raw : Scope) (e : Expr), chk N m sc raw (.mth f a b) e = true → ∃ ea apos eb pos, e = .Call (.Attribute ea f.name apos) [eb] [] pos ∧ isConstE ea = true ∧ (apos.endLine == pos.line) = true ∧ notStar eb = true ∧ chk N false sc raw a ea = true ∧ chk N false sc raw b eb = true := by
    intro m sc raw e h
    cases e <;> first | cases h | skip
    rename_i fn args kws pos
    cases fn <;> first | cases h | skip
    rename_i ea at_ apos
    match args, kws, h with
    | [eb], [], h =>
      have h' : ((at_ == f.name) && isConstE ea && (apos.endLine == pos.line) && notStar eb && chk N false sc raw a ea && chk N false sc raw b eb) = true := h
      simp only [Bool.and_eq_true] at h'
      obtain ⟨⟨⟨⟨⟨h1, h2⟩, h3⟩, h4⟩, h5⟩, h6⟩ := h'
      have e1 : at_ = f.name := eq_of_beq h1
      subst e1
      exact ⟨_, _, _, _, rfl, h2, h3, h4, h5, h6⟩
  exact SndE.valM (by
      intro m sc raw X W e o g tk h
      obtain ⟨ea, apos, eb, pos, rfl, h2, h3, h4, h5, h6⟩ := key _ _ _ _ h
      cases f with
      | join => exact sx_join (iha.he o g.1 tk h5) (ihb.he o g.2 tk h6) (star_of h4) (base_of h2) h3
      | split => exact sx_split (iha.he o g.1 tk h5) (ihb.he o g.2 tk h6) (star_of h4) (base_of h2) h3) (fun sc raw x h => by
      obtain ⟨ea, apos, eb, pos, rfl, h2, h3, h4, h5, h6⟩ := key _ _ _ _ h
      rfl) (fun _ _ x h => by cases x <;> cases h) (fun _ _ x h => by cases x <;> cases h) (fun _ _ x h => by cases x <;> cases h) (fun _ _ x h => by cases x <;> cases h) (fun _ _ x h => by cases x <;> cases h) (fun _ _ x h => by cases x <;> cases h)
theorem snd_bget (i j : Nat) : SndE N lv (.bget i j) := by
  have key : ∀ (m : Bool) (sc raw : Scope) (e : Expr), chk N m sc raw (.bget i j) e = true → ∃ x p n p2 pos, e = .Subscript (.Name x p) (.Constant (.int (j : Int)) n p2) pos ∧ j ≤ 1 ∧ decide (N[i]? = some x) = true ∧ visB sc x = true := by
    intro m sc raw e h
    cases e with
    | Subscript en ix pos =>
      cases en with
      | Name x p =>
        cases ix with
        | Constant c n p2 =>
          cases c with
          | int k =>
            have h' : (decide (k = (j : Int)) && decide (j ≤ 1) && decide (N[i]? = some x) && visB sc x) = true := h
            simp only [Bool.and_eq_true] at h'
            obtain ⟨⟨⟨h1, h2⟩, h3⟩, h4⟩ := h'
            have e1 := of_decide_eq_true h1
            subst e1
            exact ⟨_, _, _, _, _, rfl, of_decide_eq_true h2, h3, h4⟩
          | _ => cases h
        | _ => cases h
      | _ => cases h
    | _ => cases h
  exact SndE.valM (by
      intro m sc raw X W e o g tk h
      obtain ⟨x, p, n, p2, pos, rfl, h1, h2, h3⟩ := key _ _ _ _ h
      obtain ⟨v1, v2, v3⟩ := vis_of h3
      exact sx_bget h1 (o.ix h2) (by rw [o.hsc]; exact v1) v2 v3) (fun sc raw x h => by
      obtain ⟨x, p, n, p2, pos, rfl, h1, h2, h3⟩ := key _ _ _ _ h
      rfl) (fun _ _ x h => by cases x <;> cases h) (fun _ _ x h => by cases x <;> cases h) (fun _ _ x h => by cases x <;> cases h) (fun _ _ x h => by cases x <;> cases h) (fun _ _ x h => by cases x <;> cases h) (fun _ _ x h => by cases x <;> cases h)
theorem snd_sat (i : Nat) (a : T) (iha : SndE N lv a) : SndE N lv (.sat i a) := by
  have key : ∀ (m : Bool) (sc raw : Scope) (e : Expr), chk N m sc raw (.sat i a) e = true → ∃ x p ea pos, e = .Subscript (.Name x p) ea pos ∧ decide (N[i]? = some x) = true ∧ visB sc x = true ∧ notSlice ea = true ∧ chk N false sc raw a ea = true := by
    intro m sc raw e h
    cases e <;> first | cases h | skip
    rename_i en ea pos
    cases en <;> first | cases h | skip
    rename_i x p
    have h' : (decide (N[i]? = some x) && visB sc x && notSlice ea && chk N false sc raw a ea) = true := h
    simp only [Bool.and_eq_true] at h'
    obtain ⟨⟨⟨h1, h2⟩, h3⟩, h4⟩ := h'
    exact ⟨_, _, _, _, rfl, h1, h2, h3, h4⟩
  exact SndE.valM (by
      intro m sc raw X W e o g tk h
      obtain ⟨x, p, ea, pos, rfl, h1, h2, h3, h4⟩ := key _ _ _ _ h
      obtain ⟨v1, v2, v3⟩ := vis_of h2
      exact sx_sat (o.ix h1) (by rw [o.hsc]; exact v1) v2 v3 (iha.he o g tk h4) (plainIx_of h3)) (fun sc raw x h => by
      obtain ⟨x, p, ea, pos, rfl, h1, h2, h3, h4⟩ := key _ _ _ _ h
      rfl) (fun _ _ x h => by cases x <;> cases h) (fun _ _ x h => by cases x <;> cases h) (fun _ _ x h => by cases x <;> cases h) (fun _ _ x h => by cases x <;> cases h) (fun _ _ x h => by cases x <;> cases h) (fun _ _ x h => by cases x <;> cases h)
theorem snd_inD (neg : Bool) (i : Nat) (a : T) (iha : SndE N lv a) : SndE N lv (.inD neg i a) := by
  have key : ∀ (m : Bool) (sc raw : Scope) (e : Expr), chk N m sc raw (.inD neg i a) e = true → ∃ ea x p pos, e = .Compare ea [if neg then .NotIn else .In] [.Name x p] pos ∧ decide (N[i]? = some x) = true ∧ visB sc x = true ∧ chk N false sc raw a ea = true := by
    intro m sc raw e h
    cases e <;> first | cases h | skip
    rename_i ea ops cs pp
    match ops, cs, h with
    | [op], [.Name x p], h =>
      have h' : (decide (op = if neg then .NotIn else .In) && decide (N[i]? = some x) && visB sc x && chk N false sc raw a ea) = true := h
      simp only [Bool.and_eq_true] at h'
      obtain ⟨⟨⟨h1, h2⟩, h3⟩, h4⟩ := h'
      have e1 := of_decide_eq_true h1
      subst e1
      exact ⟨_, _, _, _, rfl, h2, h3, h4⟩
  exact SndE.tst (by
      intro sc raw X W e o g tk h
      obtain ⟨ea, x, p, pos, rfl, h1, h2, h3⟩ := key _ _ _ _ h
      obtain ⟨v1, v2, v3⟩ := vis_of h2
      exact sx_inD (by have := o.u65; omega) neg (o.ix h1) (by rw [o.hsc]; exact v1) v2 v3 (iha.he o g tk h3)) (by
      intro sc raw X W e o g tk h
      obtain ⟨ea, x, p, pos, rfl, h1, h2, h3⟩ := key _ _ _ _ h
      obtain ⟨v1, v2, v3⟩ := vis_of h2
      exact st_inD (by have := o.u65; omega) neg (o.ix h1) (by rw [o.hsc]; exact v1) v2 v3 (iha.he o g tk h3)) (fun m _ _ _ _ _ h => by cases h) (fun _ _ x h => by cases x <;> cases h) (fun _ _ x h => by cases x <;> cases h) (fun _ _ x h => by cases x <;> cases h) (fun _ _ x h => by cases x <;> cases h) (fun _ _ x h => by cases x <;> cases h) (fun _ _ x h => by cases x <;> cases h)
theorem snd_atD (i : Nat) (a : T) (iha : SndE N lv a) : SndE N lv (.atD i a) := by
  have key : ∀ (m : Bool) (sc raw : Scope) (e : Expr), chk N m sc raw (.atD i a) e = true → ∃ x p ea pos, e = .Subscript (.Name x p) ea pos ∧ decide (N[i]? = some x) = true ∧ visB sc x = true ∧ notSlice ea = true ∧ chk N false sc raw a ea = true := by
    intro m sc raw e h
    cases e <;> first | cases h | skip
    rename_i en ea pos
    cases en <;> first | cases h | skip
    rename_i x p
    have h' : (decide (N[i]? = some x) && visB sc x && notSlice ea && chk N false sc raw a ea) = true := h
    simp only [Bool.and_eq_true] at h'
    obtain ⟨⟨⟨h1, h2⟩, h3⟩, h4⟩ := h'
    exact ⟨_, _, _, _, rfl, h1, h2, h3, h4⟩
  exact SndE.valM (by
      intro m sc raw X W e o g tk h
      obtain ⟨x, p, ea, pos, rfl, h1, h2, h3, h4⟩ := key _ _ _ _ h
      obtain ⟨v1, v2, v3⟩ := vis_of h2
      exact sx_atD (by have := o.u65; omega) (o.ix h1) (by rw [o.hsc]; exact v1) v2 v3 (iha.he o g tk h4) (plainIx_of h3)) (fun sc raw x h => by
      obtain ⟨x, p, ea, pos, rfl, h1, h2, h3, h4⟩ := key _ _ _ _ h
      rfl) (fun _ _ x h => by cases x <;> cases h) (fun _ _ x h => by cases x <;> cases h) (fun _ _ x h => by cases x <;> cases h) (fun _ _ x h => by cases x <;> cases h) (fun _ _ x h => by cases x <;> cases h) (fun _ _ x h => by cases x <;> cases h)
theorem snd_getD (i : Nat) (a : T) (b : T) (iha : SndE N lv a) (ihb : SndE N lv b) : SndE N lv (.getD i a b) := by
  have key : ∀ (m : Bool) (sc raw : Scope) (e : Expr), chk N m sc raw (.getD i a b) e = true → ∃ x px apos ea eb pos, e = .Call (.Attribute (.Name x px) "get" apos) [ea, eb] [] pos ∧ decide (N[i]? = some x) = true ∧ visB sc x = true ∧ (apos.endLine == pos.line) = true ∧ notStar ea = true ∧ notStar eb = true ∧ chk N false sc raw a ea = true ∧ chk N false sc raw b eb = true := by
    intro m sc raw e h
    cases e <;> first | cases h | skip
    rename_i fn args kws pos
    cases fn <;> first | cases h | skip
    rename_i en at_ apos
    cases en <;> first | cases h | skip
    rename_i x px
    match args, kws, h with
    | [ea, eb], [], h =>
      have h' : ((at_ == ("get" : Str)) && decide (N[i]? = some x) && visB sc x && (apos.endLine == pos.line) && notStar ea && notStar eb && chk N false sc raw a ea && chk N false sc raw b eb) = true := h
      simp only [Bool.and_eq_true] at h'
      obtain ⟨⟨⟨⟨⟨⟨⟨h1, h2⟩, h3⟩, h4⟩, h5⟩, h6⟩, h7⟩, h8⟩ := h'
      have e1 : at_ = ("get" : Str) := eq_of_beq h1
      subst e1
      exact ⟨_, _, _, _, _, _, rfl, h2, h3, h4, h5, h6, h7, h8⟩
  exact SndE.valM (by
      intro m sc raw X W e o g tk h
      obtain ⟨x, px, apos, ea, eb, pos, rfl, h2, h3, h4, h5, h6, h7, h8⟩ := key _ _ _ _ h
      obtain ⟨v1, v2, v3⟩ := vis_of h3
      exact sx_getD (by have := o.u65; omega) (o.ix h2) (by rw [o.hsc]; exact v1) v2 v3 (iha.he o g.1 tk h7) (ihb.he o g.2 tk h8) (m2_of h5 h6 h4)) (fun sc raw x h => by
      obtain ⟨x, px, apos, ea, eb, pos, rfl, h2, h3, h4, h5, h6, h7, h8⟩ := key _ _ _ _ h
      rfl) (fun _ _ x h => by cases x <;> cases h) (fun _ _ x h => by cases x <;> cases h) (fun _ _ x h => by cases x <;> cases h) (fun _ _ x h => by cases x <;> cases h) (fun _ _ x h => by cases x <;> cases h) (fun _ _ x h => by cases x <;> cases h)
theorem snd_dix (ks : List Str) (vs : List Int) (a : T) (iha : SndE N lv a) : SndE N lv (.dix ks vs a) := by
  have key : ∀ (m : Bool) (sc raw : Scope) (e : Expr), chk N m sc raw (.dix ks vs a) e = true → ∃ keys es dp ea pos, e = .Subscript (.Dict keys es dp) ea pos ∧ keysOk ks keys = true ∧ valsOk vs es = true ∧ ks.length = vs.length ∧ ks.Nodup ∧ ks ≠ [] ∧ ks.length ≤ 15 ∧ notSlice ea = true ∧ chk N false sc raw a ea = true := by
    intro m sc raw e h
    cases e <;> first | cases h | skip
    rename_i en ea pos
    cases en <;> first | cases h | skip
    rename_i keys es dp
    have h' : (keysOk ks keys && valsOk vs es && decide (ks.length = vs.length) && decide ks.Nodup && decide (ks ≠ []) && decide (ks.length ≤ 15) && notSlice ea && chk N false sc raw a ea) = true := h
    simp only [Bool.and_eq_true] at h'
    obtain ⟨⟨⟨⟨⟨⟨⟨h1, h2⟩, h3⟩, h4⟩, h5⟩, h6⟩, h7⟩, h8⟩ := h'
    exact ⟨_, _, _, _, _, rfl, h1, h2, of_decide_eq_true h3, of_decide_eq_true h4, of_decide_eq_true h5, of_decide_eq_true h6, h7, h8⟩
  exact SndE.valM (by
      intro m sc raw X W e o g tk h
      obtain ⟨keys, es, dp, ea, pos, rfl, h1, h2, h3, h4, h5, h6, h7, h8⟩ := key _ _ _ _ h
      exact sx_dix (by have := o.u65; omega) h1 h2 h3 h4 h5 h6 (iha.he o g tk h8) (plainIx_of h7)) (fun sc raw x h => by
      obtain ⟨keys, es, dp, ea, pos, rfl, h1, h2, h3, h4, h5, h6, h7, h8⟩ := key _ _ _ _ h
      rfl) (fun _ _ x h => by cases x <;> cases h) (fun _ _ x h => by cases x <;> cases h) (fun _ _ x h => by cases x <;> cases h) (fun _ _ x h => by cases x <;> cases h) (fun _ _ x h => by cases x <;> cases h) (fun _ _ x h => by cases x <;> cases h)
theorem snd_lrg (a b : T) (iha : SndE N lv a) (ihb : SndE N lv b) : SndE N lv (.lrg a b) := by
  have key : ∀ (m : Bool) (sc raw : Scope) (e : Expr), chk N m sc raw (.lrg a b) e = true → ∃ p p2 ea eb pos2 pos, e = .Call (.Name "list" p) [.Call (.Name "range" p2) [ea, eb] [] pos2] [] pos ∧ glB sc "list" = true ∧ glB sc "range" = true ∧ notStar ea = true ∧ notStar eb = true ∧ chk N false sc raw a ea = true ∧ chk N false sc raw b eb = true := by
    intro m sc raw e h
    cases e <;> first | cases h | skip
    rename_i fe args kws pos
    cases fe <;> first | cases h | skip
    rename_i x p
    cases args with
    | nil => cases h
    | cons c r =>
      cases c <;> first | (cases r <;> cases h; done) | skip
      rename_i fe args2 kws2 pos2
      cases fe <;> first | (cases r <;> cases h; done) | skip
      rename_i y p2
      match args2, kws2, r, kws, h with
      | [ea, eb], [], [], [], h =>
        have h' : (decide (x = "list") && glB sc x && decide (y = "range") && glB sc y && notStar ea && notStar eb && chk N false sc raw a ea && chk N false sc raw b eb) = true := h
        simp only [Bool.and_eq_true] at h'
        obtain ⟨⟨⟨⟨⟨⟨⟨h1, h2⟩, h3⟩, h4⟩, h5⟩, h6⟩, h7⟩, h8⟩ := h'
        have e1 := of_decide_eq_true h1
        have e2 := of_decide_eq_true h3
        subst e1 e2
        exact ⟨_, _, _, _, _, _, rfl, h2, h4, h5, h6, h7, h8⟩
  exact SndE.valM (by
      intro m sc raw X W e o g tk h
      obtain ⟨p, p2, ea, eb, pos2, pos, rfl, h2, h4, h5, h6, h7, h8⟩ := key _ _ _ _ h
      exact sx_lrg o.calm (o.gl h2).1 (o.blt _ (by decide +kernel)) (o.gl h4).1 (o.blt _ (by decide +kernel)) (iha.he o g.1 tk h7) (ihb.he o g.2 tk h8) (fun es => star_of h5) (fun es => star_of h6)) (fun sc raw x h => by
      obtain ⟨p, p2, ea, eb, pos2, pos, rfl, h2, h4, h5, h6, h7, h8⟩ := key _ _ _ _ h
      rfl) (fun _ _ x h => by cases x <;> cases h) (fun _ _ x h => by cases x <;> cases h) (fun _ _ x h => by cases x <;> cases h) (fun _ _ x h => by cases x <;> cases h) (fun _ _ x h => by cases x <;> cases h) (fun _ _ x h => by cases x <;> cases h)
theorem snd_lr1 (a : T) (iha : SndE N lv a) : SndE N lv (.lr1 a) := by
  have key : ∀ (m : Bool) (sc raw : Scope) (e : Expr), chk N m sc raw (.lr1 a) e = true → ∃ p p2 ea pos2 pos, e = .Call (.Name "list" p) [.Call (.Name "range" p2) [ea] [] pos2] [] pos ∧ glB sc "list" = true ∧ glB sc "range" = true ∧ notStar ea = true ∧ chk N false sc raw a ea = true := by
    intro m sc raw e h
    cases e <;> first | cases h | skip
    rename_i fe args kws pos
    cases fe <;> first | cases h | skip
    rename_i x p
    cases args with
    | nil => cases h
    | cons c r =>
      cases c <;> first | (cases r <;> cases h; done) | skip
      rename_i fe args2 kws2 pos2
      cases fe <;> first | (cases r <;> cases h; done) | skip
      rename_i y p2
      match args2, kws2, r, kws, h with
      | [ea], [], [], [], h =>
        have h' : (decide (x = "list") && glB sc x && decide (y = "range") && glB sc y && notStar ea && chk N false sc raw a ea) = true := h
        simp only [Bool.and_eq_true] at h'
        obtain ⟨⟨⟨⟨⟨h1, h2⟩, h3⟩, h4⟩, h5⟩, h6⟩ := h'
        have e1 := of_decide_eq_true h1
        have e2 := of_decide_eq_true h3
        subst e1 e2
        exact ⟨_, _, _, _, _, rfl, h2, h4, h5, h6⟩
  exact SndE.valM (by
      intro m sc raw X W e o g tk h
      obtain ⟨p, p2, ea, pos2, pos, rfl, h2, h4, h5, h6⟩ := key _ _ _ _ h
      exact sx_lr1 o.calm (o.gl h2).1 (o.blt _ (by decide +kernel)) (o.gl h4).1 (o.blt _ (by decide +kernel)) (iha.he o g tk h6) (fun es => star_of h5)) (fun sc raw x h => by
      obtain ⟨p, p2, ea, pos2, pos, rfl, h2, h4, h5, h6⟩ := key _ _ _ _ h
      rfl) (fun _ _ x h => by cases x <;> cases h) (fun _ _ x h => by cases x <;> cases h) (fun _ _ x h => by cases x <;> cases h) (fun _ _ x h => by cases x <;> cases h) (fun _ _ x h => by cases x <;> cases h) (fun _ _ x h => by cases x <;> cases h) 
theorem snd_uniq (a : T) (iha : SndE N lv a) : SndE N lv (.uniq a) := by
  have key : ∀ (m : Bool) (sc raw : Scope) (e : Expr), chk N m sc raw (.uniq a) e = true → ∃ p p2 ea pos2 pos, e = .Call (.Name "sorted" p) [.Call (.Name "set" p2) [ea] [] pos2] [] pos ∧ glB sc "sorted" = true ∧ glB sc "set" = true ∧ notStar ea = true ∧ chk N false sc raw a ea = true := by
    intro m sc raw e h
    cases e <;> first | cases h | skip
    rename_i fe args kws pos
    cases fe <;> first | cases h | skip
    rename_i x p
    cases args with
    | nil => cases h
    | cons c r =>
      cases c <;> first | (cases r <;> cases h; done) | skip
      rename_i fe args2 kws2 pos2
      cases fe <;> first | (cases r <;> cases h; done) | skip
      rename_i y p2
      match args2, kws2, r, kws, h with
      | [ea], [], [], [], h =>
        have h' : (decide (x = "sorted") && glB sc x && decide (y = "set") && glB sc y && notStar ea && chk N false sc raw a ea) = true := h
        simp only [Bool.and_eq_true] at h'
        obtain ⟨⟨⟨⟨⟨h1, h2⟩, h3⟩, h4⟩, h5⟩, h6⟩ := h'
        have e1 := of_decide_eq_true h1
        have e2 := of_decide_eq_true h3
        subst e1 e2
        exact ⟨_, _, _, _, _, rfl, h2, h4, h5, h6⟩
  exact SndE.valM (by
      intro m sc raw X W e o g tk h
      obtain ⟨p, p2, ea, pos2, pos, rfl, h2, h4, h5, h6⟩ := key _ _ _ _ h
      exact sx_uniq o.calm o.u65 o.blt (o.gl h2).1 (o.gl h4).1 (iha.he o g tk h6) (star_of h5)) (fun sc raw x h => by
      obtain ⟨p, p2, ea, pos2, pos, rfl, h2, h4, h5, h6⟩ := key _ _ _ _ h
      rfl) (fun _ _ x h => by cases x <;> cases h) (fun _ _ x h => by cases x <;> cases h) (fun _ _ x h => by cases x <;> cases h) (fun _ _ x h => by cases x <;> cases h) (fun _ _ x h => by cases x <;> cases h) (fun _ _ x h => by cases x <;> cases h) 
theorem snd_lenset (a : T) (iha : SndE N lv a) : SndE N lv (.lenset a) := by
  have key : ∀ (m : Bool) (sc raw : Scope) (e : Expr), chk N m sc raw (.lenset a) e = true → ∃ p p2 ea pos2 pos, e = .Call (.Name "len" p) [.Call (.Name "set" p2) [ea] [] pos2] [] pos ∧ glB sc "len" = true ∧ glB sc "set" = true ∧ notStar ea = true ∧ chk N false sc raw a ea = true := by
    intro m sc raw e h
    cases e <;> first | cases h | skip
    rename_i fe args kws pos
    cases fe <;> first | cases h | skip
    rename_i x p
    cases args with
    | nil => cases h
    | cons c r =>
      cases c <;> first | (cases r <;> cases h; done) | skip
      rename_i fe args2 kws2 pos2
      cases fe <;> first | (cases r <;> cases h; done) | skip
      rename_i y p2
      match args2, kws2, r, kws, h with
      | [ea], [], [], [], h =>
        have h' : (decide (x = "len") && glB sc x && decide (y = "set") && glB sc y && notStar ea && chk N false sc raw a ea) = true := h
        simp only [Bool.and_eq_true] at h'
        obtain ⟨⟨⟨⟨⟨h1, h2⟩, h3⟩, h4⟩, h5⟩, h6⟩ := h'
        have e1 := of_decide_eq_true h1
        have e2 := of_decide_eq_true h3
        subst e1 e2
        exact ⟨_, _, _, _, _, rfl, h2, h4, h5, h6⟩
  exact SndE.valM (by
      intro m sc raw X W e o g tk h
      obtain ⟨p, p2, ea, pos2, pos, rfl, h2, h4, h5, h6⟩ := key _ _ _ _ h
      exact sx_lenset o.calm o.u65 o.blt (o.gl h2).1 (o.gl h4).1 (iha.he o g tk h6) (star_of h5)) (fun sc raw x h => by
      obtain ⟨p, p2, ea, pos2, pos, rfl, h2, h4, h5, h6⟩ := key _ _ _ _ h
      rfl) (fun _ _ x h => by cases x <;> cases h) (fun _ _ x h => by cases x <;> cases h) (fun _ _ x h => by cases x <;> cases h) (fun _ _ x h => by cases x <;> cases h) (fun _ _ x h => by cases x <;> cases h) (fun _ _ x h => by cases x <;> cases h) 
theorem snd_idx (a : T) (b : T) (iha : SndE N lv a) (ihb : SndE N lv b) : SndE N lv (.idx a b) := by
  exact SndE.val (by
      intro sc raw X W e o g tk h
      cases e <;> first | cases h | skip
      rename_i ea eb p
      have h' : (notSlice eb && chk N false sc raw a ea && chk N false sc raw b eb) = true := h
      simp only [Bool.and_eq_true] at h'
      exact sx_idx (iha.he o g.1 tk h'.1.2) (ihb.he o g.2 tk h'.2) (plainIx_of h'.1.1)) (fun _ _ x h => by cases x <;> first | exact ⟨h, rfl⟩ | cases h) (fun _ _ x h => by cases x <;> cases h) (fun _ _ x h => by cases x <;> cases h) (fun _ _ x h => by cases x <;> cases h) (fun _ _ x h => by cases x <;> cases h) (fun _ _ x h => by cases x <;> cases h) (fun _ _ x h => by cases x <;> cases h)
theorem snd_slc (a : T) (l : T) (hh : T) (iha : SndE N lv a) (ihl : SndE N lv l) (ihh : SndE N lv hh) : SndE N lv (.slc a l hh) := by
  exact SndE.val (by
      intro sc raw X W e o g tk h
      cases e <;> first | cases h | skip
      rename_i ea es p
      cases es <;> first | cases h | skip
      rename_i lo hi st p2
      cases st <;> first | cases h | skip
      have h' : (chk N false sc raw a ea && chkO N sc raw l lo && chkO N sc raw hh hi) = true := h
      simp only [Bool.and_eq_true] at h'
      exact sx_slc (iha.he o g.1 tk h'.1.1) (ihl.ho o g.2.1 tk h'.1.2) (ihh.ho o g.2.2 tk h'.2)) (fun _ _ x h => by
      cases x <;> first | cases h | skip
      rename_i ea es p
      cases es <;> first | cases h | skip
      rename_i lo hi st p2
      cases st <;> first | cases h | exact ⟨h, rfl⟩) (fun _ _ x h => by cases x <;> cases h) (fun _ _ x h => by cases x <;> cases h) (fun _ _ x h => by cases x <;> cases h) (fun _ _ x h => by cases x <;> cases h) (fun _ _ x h => by cases x <;> cases h) (fun _ _ x h => by cases x <;> cases h)
theorem snd_nopart   : SndE N lv (.nopart ) := by
  refine ⟨?_, ?_, ?_, ?_, ?_, ?_, ?_, ?_, ?_⟩
  · intro sc raw X W e _ _ _ h; cases e <;> cases h
  · intro sc raw X W e _ _ _ h; cases e <;> cases h
  · intro sc raw X W op es p _ _ _ h; cases h
  · intro sc raw X W es _ _ _ h; cases es <;> cases h
  · intro sc raw X W e o g tk h
    cases e with
    | none => exact so_none
    | some _ => cases h
  · intro sc raw X W es tg _ _ _ h; cases es <;> cases h
  · intro sc raw X es _ h; cases es <;> cases h
  · intro sc raw X es _ h; cases es <;> cases h
  · intro sc raw X W es _ _ _ h; cases es <;> cases h
theorem snd_rev (a : T) (iha : SndE N lv a) : SndE N lv (.rev a) := by
  have key : ∀ (m : Bool) (sc raw : Scope) (x : Expr), chk N m sc raw (.rev a) x = true → ∃ ea k p1 p2 p3 p, x = .Subscript ea (.Slice Option.none Option.none (some (.UnaryOp .USub (.Constant (.int 1) k p1) p2)) p3) p ∧ chk N false sc raw a ea = true := by
    intro m sc raw x h
    cases x <;> first | cases h | skip
    rename_i ea es p
    cases es <;> first | cases h | skip
    rename_i lo hi st p2
    match lo, hi, st, h with
    | Option.none, Option.none, some (.UnaryOp .USub (.Constant (.int 1) k p1) p3), h => exact ⟨_, _, _, _, _, _, rfl, h⟩
  exact SndE.val (by
    intro sc raw X W e o g tk h
    obtain ⟨ea, k, p1, p2, p3, p, rfl, h'⟩ := key _ _ _ _ h
    exact sx_rev (iha.he o g tk h')) (fun sc raw x h => by
    obtain ⟨ea, k, p1, p2, p3, p, rfl, h'⟩ := key _ _ _ _ h
    exact ⟨h', rfl⟩) (fun _ _ x h => by cases x <;> cases h) (fun _ _ x h => by cases x <;> cases h) (fun _ _ x h => by cases x <;> cases h) (fun _ _ x h => by cases x <;> cases h) (fun _ _ x h => by cases x <;> cases h) (fun _ _ x h => by cases x <;> cases h)
theorem snd_call (x : Str) (g : G) (l : T) (ihl : SndE N lv l) : SndE N lv (.call x g l) := by
  have key : ∀ (m : Bool) (sc raw : Scope) (e : Expr), chk N m sc raw (.call x g l) e = true → (∃ p a es pos, e = .Call (.Name x p) (a :: es) [] pos ∧ glB sc x = true ∧ chkA N sc raw l (a :: es) = true) ∨ ∃ p pos, e = .Call (.Name x p) [] [] pos ∧ l = .anil ∧ glB sc x = true := by
    intro m sc raw e h
    cases e <;> first | (cases l <;> cases h; done) | skip
    rename_i f args kws p
    cases f <;> first | (cases l <;> cases h; done) | skip
    rename_i fn fp
    cases kws with
    | cons _ _ => cases l <;> (cases args <;> cases h)
    | nil =>
      cases args with
      | nil =>
        cases l <;> first | cases h | skip
        have h' : (decide (x = fn) && glB sc fn) = true := h
        rw [Bool.and_eq_true] at h'
        have e1 : x = fn := of_decide_eq_true h'.1
        subst e1
        exact .inr ⟨_, _, rfl, rfl, h'.2⟩
      | cons a es =>
        have h' : (decide (x = fn) && glB sc fn && chkA N sc raw l (a :: es)) = true := by
          cases l <;> exact h
        simp only [Bool.and_eq_true] at h'
        have e1 : x = fn := of_decide_eq_true h'.1.1
        subst e1
        exact .inl ⟨_, _, _, _, rfl, h'.1.2, h'.2⟩
  exact SndE.val (by
    intro sc raw X W e o gd tk h
    obtain ⟨⟨f, fd, ps, k, hk, hn, hm, hkp, hb, F⟩, gd2⟩ := gd
    rcases key _ _ _ _ h with ⟨p, a, es, pos, rfl, hg, hl⟩ | ⟨p, pos, rfl, rfl, hg⟩
    · obtain ⟨q1, q2⟩ := chkA_all _ _ hl
      rw [List.all_cons, Bool.and_eq_true] at q1
      exact sx_call F (o.room.mono hk) (o.gl hg).1 hm hkp hb tk (ihl.ha o gd2 tk hl) (o.gl hg).2 (star_of q1.1) (back_of q1.2) (by rw [q2, hn]) fun s us s' hs => by rw [evA_len l s us s' hs, q2]
    · exact sx_call0 F (o.room.mono hk) (o.gl hg).1 hm hkp hb tk (o.gl hg).2 hn) (fun sc raw x0 h => by
    rcases key _ _ _ _ h with ⟨p, a, es, pos, rfl, hg, hl⟩ | ⟨p, pos, rfl, rfl, hg⟩
    · exact ⟨by cases l <;> exact h, rfl⟩
    · exact ⟨h, rfl⟩) (fun _ _ x h => by cases x <;> cases h) (fun _ _ x h => by cases x <;> cases h) (fun _ _ x h => by cases x <;> cases h) (fun _ _ x h => by cases x <;> cases h) (fun _ _ x h => by cases x <;> cases h) (fun _ _ x h => by cases x <;> cases h)
theorem snd_blt (f : BF) (l : T) (ihl : SndE N lv l) : SndE N lv (.blt f l) := by
  have key : ∀ (m : Bool) (sc raw : Scope) (e : Expr), chk N m sc raw (.blt f l) e = true → ∃ p a es pos, e = .Call (.Name f.name p) (a :: es) [] pos ∧ glB sc f.name = true ∧ f.isI = false ∧ chkA N sc raw l (a :: es) = true := by
    intro m sc raw e h
    cases e <;> first | cases h | skip
    rename_i fe args kws p
    cases fe <;> first | cases h | skip
    rename_i fn fp
    match args, kws, h with
    | a :: es, [], h =>
      have h' : (decide (fn = f.name) && glB sc fn && !f.isI && chkA N sc raw l (a :: es)) = true := h
      simp only [Bool.and_eq_true] at h'
      have e1 : fn = f.name := of_decide_eq_true h'.1.1.1
      subst e1
      exact ⟨_, _, _, _, rfl, h'.1.1.2, by simpa using h'.1.2, h'.2⟩
  exact SndE.val (by
      intro sc raw X W e o g tk h
      obtain ⟨p, a, es, pos, rfl, hg, hf, hl⟩ := key _ _ _ _ h
      obtain ⟨q1, q2⟩ := chkA_all _ _ hl
      rw [List.all_cons, Bool.and_eq_true] at q1
      have hs1 := star_of (es := es) (env := X.env) q1.1
      have hs2 := back_of (env := X.env) (pos := pos) q1.2
      cases f with
      | len => exact sx_len o.blt (o.gl hg).1 (ihl.ha o g tk hl) hs1 hs2
      | int => exact sx_intF o.blt (o.gl hg).1 (ihl.ha o g tk hl) hs1 hs2
      | str => exact sx_strF o.blt (o.gl hg).1 (ihl.ha o g tk hl) hs1 hs2
      | bool => exact sx_boolF o.blt (o.gl hg).1 (ihl.ha o g tk hl) hs1 hs2
      | abs => exact sx_absF o.blt (o.gl hg).1 (ihl.ha o g tk hl) hs1 hs2
      | max2 => exact sx_max2 o.calm o.blt (o.gl hg).1 (ihl.ha o g tk hl) hs1 hs2
      | min2 => exact sx_min2 o.calm o.blt (o.gl hg).1 (ihl.ha o g tk hl) hs1 hs2
      | max1 => exact sx_max1 o.calm o.blt (o.gl hg).1 (ihl.ha o g tk hl) hs1 hs2
      | min1 => exact sx_min1 o.calm o.blt (o.gl hg).1 (ihl.ha o g tk hl) hs1 hs2
      | sorted => exact sx_sorted o.u65 o.blt (o.gl hg).1 (ihl.ha o g tk hl) hs1 hs2
      | tuple => exact sx_tupF o.blt (o.gl hg).1 (ihl.ha o g tk hl) hs1 hs2
      | list => exact sx_lstF o.blt (o.gl hg).1 (ihl.ha o g tk hl) hs1 hs2
      | all => exact sx_all o.calm o.blt (o.gl hg).1 (ihl.ha o g tk hl) hs1 hs2
      | isInt => cases hf
      | isBool => cases hf
      | isStr => cases hf
      | isTuple => cases hf
      | isList => cases hf) (fun sc raw x h => by
      obtain ⟨p, a, es, pos, rfl, hg, hf, hl⟩ := key _ _ _ _ h
      exact ⟨h, rfl⟩) (fun _ _ x h => by cases x <;> cases h) (fun _ _ x h => by cases x <;> cases h) (fun _ _ x h => by cases x <;> cases h) (fun _ _ x h => by cases x <;> cases h) (fun _ _ x h => by cases x <;> cases h) (fun _ _ x h => by cases x <;> cases h)
theorem cls_boot (f : BF) (hf : f.isI = true) : bootBuiltins (Str.ofString f.cls) = some (.type f.cls) ∧ Str.ofString f.cls ≠ "__name__" ∧ (Str.ofString f.cls == ("__debug__" : Str)) = false ∧ Str.ofString f.cls ∈ bltNames ∧ f.name = "isinstance" := by
  cases f <;> first | exact absurd hf (by decide) | skip
  all_goals exact ⟨by decide +kernel, by decide +kernel, by decide +kernel, by decide +kernel, rfl⟩
theorem snd_isi (f : BF) (a : T) (iha : SndE N lv a) : SndE N lv (.isi f a) := by
  have key : ∀ (m : Bool) (sc raw : Scope) (e : Expr), chk N m sc raw (.isi f a) e = true → ∃ p e1 p2 pos, e = .Call (.Name f.name p) [e1, .Name (Str.ofString f.cls) p2] [] pos ∧ glB sc f.name = true ∧ glB sc (Str.ofString f.cls) = true ∧ f.isI = true ∧ notStar e1 = true ∧ chk N false sc raw a e1 = true := by
    intro m sc raw e h
    cases e <;> first | cases h | skip
    rename_i fe args kws p
    cases fe <;> first | cases h | skip
    rename_i fn fp
    match args, kws, h with
    | [e1, .Name cn _], [], h =>
      have h' : (f.isI && decide (fn = f.name) && glB sc fn && decide (cn = Str.ofString f.cls) && glB sc cn && notStar e1 && chk N false sc raw a e1) = true := h
      simp only [Bool.and_eq_true] at h'
      obtain ⟨⟨⟨⟨⟨⟨h1, h2⟩, h3⟩, h4⟩, h5⟩, h6⟩, h7⟩ := h'
      have q1 : fn = f.name := of_decide_eq_true h2
      subst q1
      have q2 : cn = Str.ofString f.cls := of_decide_eq_true h4
      subst q2
      exact ⟨_, _, _, _, rfl, h3, h5, h1, h6, h7⟩
  exact SndE.val (by
      intro sc raw X W e o g tk h
      obtain ⟨p, e1, p2, pos, rfl, h3, h5, h1, h6, h7⟩ := key _ _ _ _ h
      obtain ⟨b1, b2, b3, b4, b5⟩ := cls_boot f h1
      rw [b5]
      rw [b5] at h3
      exact sx_isi f h1 o.blt (o.gl h3).1 (o.gl h5).1 (o.blt _ b4) b1 b2 b3 (iha.he o g tk h7) (star_of h6) rfl) (fun sc raw x h => by
      obtain ⟨p, e1, p2, pos, rfl, h3, h5, h1, h6, h7⟩ := key _ _ _ _ h
      exact ⟨h, rfl⟩) (fun _ _ x h => by cases x <;> cases h) (fun _ _ x h => by cases x <;> cases h) (fun _ _ x h => by cases x <;> cases h) (fun _ _ x h => by cases x <;> cases h) (fun _ _ x h => by cases x <;> cases h) (fun _ _ x h => by cases x <;> cases h)
theorem snd_comp (own : List Nat) (g : T) (it : T) (c : T) (e : T) (ihg : SndE N lv g) (ihi : SndE N lv it) (ihc : SndE N lv c) (ihe : SndE N lv e) : SndE N lv (.comp own g it c e) := by
  have key : ∀ (m : Bool) (sc raw : Scope) (x : Expr), chk N m sc raw (.comp own g it c e) x = true → ∃ elt tg iter ifs scope pos, x = .ListComp elt [⟨tg, iter, ifs, 0⟩] scope pos ∧ blkC N sc scope (ownOf N own) = true ∧ (ownOf N own).map (·.2) = own ∧ (∀ i ∈ slotsT g, i ∈ own) ∧ (notSet iter = true ∧ tgOk it tg = true) ∧ chkI N sc raw it iter = true ∧
      chkG N (relS scope sc) scope g tg = true ∧ chkC N (relS scope sc) scope c ifs = true ∧ chk N false (relS scope sc) scope e elt = true := by
    intro m sc raw x h
    cases x <;> first | cases h | skip
    rename_i elt gs scope pos
    match gs, h with
    | [⟨tg, iter, ifs, as⟩], h =>
      have h' : (decide (as = 0) && blkC N sc scope (ownOf N own) && decide ((ownOf N own).map (·.2) = own) && decide (∀ i ∈ slotsT g, i ∈ own) && (notSet iter && tgOk it tg) && chkI N sc raw it iter &&
        chkG N (relS scope sc) scope g tg && chkC N (relS scope sc) scope c ifs && chk N false (relS scope sc) scope e elt) = true := h
      simp only [Bool.and_eq_true] at h'
      obtain ⟨⟨⟨⟨⟨⟨⟨⟨h1, h2⟩, h3⟩, h4⟩, h5⟩, h6⟩, h7⟩, h8⟩, h9⟩ := h'
      have e1 : as = 0 := of_decide_eq_true h1
      subst e1
      exact ⟨_, _, _, _, _, _, rfl, h2, of_decide_eq_true h3, of_decide_eq_true h4, h5, h6, h7, h8, h9⟩
  exact SndE.val (by
      intro sc raw X W x o gd tk h
      obtain ⟨elt, tg, iter, ifs, scope, pos, rfl, h2, h3, h4, h5, h6, h7, h8, h9⟩ := key _ _ _ _ h
      have ok := blkOk_by h2
      have okX : BlkOk X.N X.env.scope scope (ownOf N own) := by
        rw [o.hN, o.hsc]
        exact ok
      have hN : X.N.Nodup := by rw [o.hN]; exact o.nd
      have pe := pe_lc (g := tXG X.K g) (elt := elt) (scope := scope) (ifs := ifs) (te := tX X.K X.mg W0 e) (tt := tXT X.K X.mg W0 c) (pos := pos) o.calm hN (ihi.hi (tg := tg) o gd.1 tk h6 h5.2) okX (fun s H C cl fp => ihg.hg (o.blk ok s H C cl fp) h7) (fun s H C cl fp => ihc.hc (W := W0) (o.blk ok s H C cl fp) gd.2.1 takesF h8) (fun s H C cl fp => ihe.he (W := W0) (o.blk ok s H C cl fp) gd.2.2 takesF h9) (folded_of h5.1)
      rw [h3] at pe
      exact pe.weak fun σ H Q q => comp_tX h4 (fun _ _ _ z => z) σ H Q q) (fun sc raw x h => by
      obtain ⟨elt, tg, iter, ifs, scope, pos, rfl, h2, h3, h4, h5, h6, h7, h8, h9⟩ := key _ _ _ _ h
      exact ⟨h, rfl⟩) (fun _ _ x h => by cases x <;> cases h) (fun _ _ x h => by cases x <;> cases h) (fun _ _ x h => by cases x <;> cases h) (fun _ _ x h => by cases x <;> cases h) (fun _ _ x h => by cases x <;> cases h) (fun _ _ x h => by cases x <;> cases h)
theorem snd_inX (neg : Bool) (a b : T) (iha : SndE N lv a) (ihb : SndE N lv b) : SndE N lv (.inX neg a b) := by
  have key : ∀ (m : Bool) (sc raw : Scope) (e : Expr), chk N m sc raw (.inX neg a b) e = true → ∃ ea eb pos, e = .Compare ea [if neg then .NotIn else .In] [eb] pos ∧ behindInMarks (if neg then .NotIn else .In) eb = false ∧ chk N false sc raw a ea = true ∧ chk N false sc raw b eb = true := by
    intro m sc raw e h
    cases e <;> first | cases h | skip
    rename_i ea ops cs pp
    match ops, cs, h with
    | [op], [eb], h =>
      have h' : (decide (op = if neg then .NotIn else .In) && !behindInMarks op eb && chk N false sc raw a ea && chk N false sc raw b eb) = true := h
      simp only [Bool.and_eq_true] at h'
      obtain ⟨⟨⟨h1, h2⟩, h3⟩, h4⟩ := h'
      have e1 := of_decide_eq_true h1
      subst e1
      exact ⟨_, _, _, rfl, by simpa using h2, h3, h4⟩
  exact SndE.tst (by
      intro sc raw X W e o g tk h
      obtain ⟨ea, eb, pos, rfl, h1, h2, h3⟩ := key _ _ _ _ h
      exact sx_inX (by have := o.u65; omega) neg (iha.he o g.1 tk h2) (ihb.he o g.2 tk h3) h1) (by
      intro sc raw X W e o g tk h
      obtain ⟨ea, eb, pos, rfl, h1, h2, h3⟩ := key _ _ _ _ h
      exact st_inX (by have := o.u65; omega) neg (iha.he o g.1 tk h2) (ihb.he o g.2 tk h3) h1) (fun m _ _ _ _ _ h => by cases h) (fun _ _ x h => by cases x <;> cases h) (fun _ _ x h => by cases x <;> cases h) (fun _ _ x h => by cases x <;> cases h) (fun _ _ x h => by cases x <;> cases h) (fun _ _ x h => by cases x <;> cases h) (fun _ _ x h => by cases x <;> cases h)
theorem snd_popO (i : Nat) : SndE N lv (.popO i) := by
  have key : ∀ (m : Bool) (sc raw : Scope) (e : Expr), chk N m sc raw (.popO i) e = true → ∃ x px apos pos, e = .Call (.Attribute (.Name x px) "pop" apos) [] [] pos ∧ decide (N[i]? = some x) = true ∧ visB sc x = true ∧ (apos.endLine == pos.line) = true := by
    intro m sc raw e h
    cases e <;> first | cases h | skip
    rename_i fn args kws pos
    cases fn <;> first | cases h | skip
    rename_i en at_ apos
    cases en <;> first | cases h | skip
    rename_i x px
    match args, kws, h with
    | [], [], h =>
      have h' : ((at_ == ("pop" : Str)) && decide (N[i]? = some x) && visB sc x && (apos.endLine == pos.line)) = true := h
      simp only [Bool.and_eq_true] at h'
      obtain ⟨⟨⟨h1, h2⟩, h3⟩, h4⟩ := h'
      have e1 : at_ = ("pop" : Str) := eq_of_beq h1
      subst e1
      exact ⟨_, _, _, _, rfl, h2, h3, h4⟩
  exact SndE.valM (by
      intro m sc raw X W e o g tk h
      obtain ⟨x, px, apos, pos, rfl, h2, h3, h4⟩ := key _ _ _ _ h
      obtain ⟨v1, v2, v3⟩ := vis_of h3
      exact sx_popO (o.ix h2) (by rw [o.hsc]; exact v1) v2 v3 h4) (fun sc raw x h => by
      obtain ⟨x, px, apos, pos, rfl, h2, h3, h4⟩ := key _ _ _ _ h
      rfl) (fun _ _ x h => by cases x <;> cases h) (fun _ _ x h => by cases x <;> cases h) (fun _ _ x h => by cases x <;> cases h) (fun _ _ x h => by cases x <;> cases h) (fun _ _ x h => by cases x <;> cases h) (fun _ _ x h => by cases x <;> cases h)
theorem snd_pop0 (i : Nat) : SndE N lv (.pop0 i) := by
  have key : ∀ (m : Bool) (sc raw : Scope) (e : Expr), chk N m sc raw (.pop0 i) e = true → ∃ x px apos j pz pos, e = .Call (.Attribute (.Name x px) "pop" apos) [.Constant (.int 0) j pz] [] pos ∧ decide (N[i]? = some x) = true ∧ visB sc x = true ∧ (apos.endLine == pos.line) = true := by
    intro m sc raw e h
    cases e <;> first | cases h | skip
    rename_i fn args kws pos
    cases fn <;> first | cases h | skip
    rename_i en at_ apos
    cases en <;> first | cases h | skip
    rename_i x px
    match args, kws, h with
    | [.Constant (.int k) j pz], [], h =>
      have h' : ((at_ == ("pop" : Str)) && decide (k = 0) && decide (N[i]? = some x) && visB sc x && (apos.endLine == pos.line)) = true := h
      simp only [Bool.and_eq_true] at h'
      obtain ⟨⟨⟨⟨h1, h0⟩, h2⟩, h3⟩, h4⟩ := h'
      have e1 : at_ = ("pop" : Str) := eq_of_beq h1
      have e0 := of_decide_eq_true h0
      subst e1 e0
      exact ⟨_, _, _, _, _, _, rfl, h2, h3, h4⟩
  exact SndE.valM (by
      intro m sc raw X W e o g tk h
      obtain ⟨x, px, apos, j, pz, pos, rfl, h2, h3, h4⟩ := key _ _ _ _ h
      obtain ⟨v1, v2, v3⟩ := vis_of h3
      exact sx_pop0 (o.ix h2) (by rw [o.hsc]; exact v1) v2 v3 h4) (fun sc raw x h => by
      obtain ⟨x, px, apos, j, pz, pos, rfl, h2, h3, h4⟩ := key _ _ _ _ h
      rfl) (fun _ _ x h => by cases x <;> cases h) (fun _ _ x h => by cases x <;> cases h) (fun _ _ x h => by cases x <;> cases h) (fun _ _ x h => by cases x <;> cases h) (fun _ _ x h => by cases x <;> cases h) (fun _ _ x h => by cases x <;> cases h)
theorem snd_neO (i : Nat) : SndE N lv (.neO i) := by
  have key : ∀ (m : Bool) (sc raw : Scope) (e : Expr), chk N m sc raw (.neO i) e = true → ∃ x p pl pos, e = .Compare (.Name x p) [.NotEq] [.List [] pl] pos ∧ decide (N[i]? = some x) = true ∧ visB sc x = true := by
    intro m sc raw e h
    cases e <;> first | cases h | skip
    rename_i ea ops cs pp
    cases ea <;> first | cases h | skip
    rename_i x p
    match ops, cs, h with
    | [.NotEq], [.List [] pl], h =>
      have h' : (decide (N[i]? = some x) && visB sc x) = true := h
      simp only [Bool.and_eq_true] at h'
      exact ⟨_, _, _, _, rfl, h'.1, h'.2⟩
  exact SndE.tst (by
      intro sc raw X W e o g tk h
      obtain ⟨x, p, pl, pos, rfl, h1, h2⟩ := key _ _ _ _ h
      obtain ⟨v1, v2, v3⟩ := vis_of h2
      exact sx_neO o.u65 (o.ix h1) (by rw [o.hsc]; exact v1) v2 v3) (by
      intro sc raw X W e o g tk h
      obtain ⟨x, p, pl, pos, rfl, h1, h2⟩ := key _ _ _ _ h
      obtain ⟨v1, v2, v3⟩ := vis_of h2
      exact st_neO o.u65 (o.ix h1) (by rw [o.hsc]; exact v1) v2 v3) (fun m _ _ _ _ _ h => by cases h) (fun _ _ x h => by cases x <;> cases h) (fun _ _ x h => by cases x <;> cases h) (fun _ _ x h => by cases x <;> cases h) (fun _ _ x h => by cases x <;> cases h) (fun _ _ x h => by cases x <;> cases h) (fun _ _ x h => by cases x <;> cases h)
theorem snd_keysD (i : Nat) : SndE N lv (.keysD i) := by
  have key : ∀ (m : Bool) (sc raw : Scope) (e : Expr), chk N m sc raw (.keysD i) e = true → ∃ p x xp pos, e = .Call (.Name "list" p) [.Name x xp] [] pos ∧ glB sc "list" = true ∧ decide (N[i]? = some x) = true ∧ visB sc x = true := by
    intro m sc raw e h
    cases e <;> first | cases h | skip
    rename_i fe args kws p
    cases fe <;> first | cases h | skip
    rename_i fn fp
    match args, kws, h with
    | [.Name x xp], [], h =>
      have h' : ((fn == ("list" : Str)) && glB sc fn && decide (N[i]? = some x) && visB sc x) = true := h
      simp only [Bool.and_eq_true] at h'
      obtain ⟨⟨⟨q1, q2⟩, q3⟩, q4⟩ := h'
      have q1' : fn = "list" := eq_of_beq q1
      subst q1'
      exact ⟨_, _, _, _, rfl, q2, q3, q4⟩
  exact SndE.valM (by
      intro m sc raw X W e o g tk h
      obtain ⟨p, x, xp, pos, rfl, q2, q3, q4⟩ := key _ _ _ _ h
      obtain ⟨v1, v2, v3⟩ := vis_of q4
      exact sx_keysD o.calm o.blt (o.gl q2).1 (o.ix q3) (by rw [o.hsc]; exact v1) v2 v3) (fun sc raw x h => by
      obtain ⟨p, x, xp, pos, rfl, q2, q3, q4⟩ := key _ _ _ _ h
      rfl) (fun _ _ x h => by cases x <;> cases h) (fun _ _ x h => by cases x <;> cases h) (fun _ _ x h => by cases x <;> cases h) (fun _ _ x h => by cases x <;> cases h) (fun _ _ x h => by cases x <;> cases h) (fun _ _ x h => by cases x <;> cases h)
theorem snd_trg (a : T) (iha : SndE N lv a) : SndE N lv (.trg a) := by
  have key : ∀ (m : Bool) (sc raw : Scope) (e : Expr), chk N m sc raw (.trg a) e = true → ∃ p p2 ea pos2 pos, e = .Call (.Name "tuple" p) [.Call (.Name "range" p2) [ea] [] pos2] [] pos ∧ glB sc "tuple" = true ∧ glB sc "range" = true ∧ notStar ea = true ∧ chk N false sc raw a ea = true := by
    intro m sc raw e h
    cases e <;> first | cases h | skip
    rename_i fe args kws p
    cases fe <;> first | cases h | skip
    rename_i fn fp
    match args, kws, h with
    | [.Call (.Name y p2) [ea] [] pos2], [], h =>
      have h' : (decide (fn = "tuple") && glB sc fn && decide (y = "range") && glB sc y && notStar ea && chk N false sc raw a ea) = true := h
      simp only [Bool.and_eq_true] at h'
      obtain ⟨⟨⟨⟨⟨h1, h2⟩, h3⟩, h4⟩, h5⟩, h6⟩ := h'
      have e1 := of_decide_eq_true h1
      have e2 := of_decide_eq_true h3
      subst e1 e2
      exact ⟨_, _, _, _, _, rfl, h2, h4, h5, h6⟩
  exact SndE.valM (by
      intro m sc raw X W e o g tk h
      obtain ⟨p, p2, ea, pos2, pos, rfl, h2, h4, h5, h6⟩ := key _ _ _ _ h
      exact sx_trg o.calm o.blt (o.gl h2).1 (o.gl h4).1 (iha.he o g tk h6) (fun es => star_of h5)) (fun sc raw x h => by
      obtain ⟨p, p2, ea, pos2, pos, rfl, h2, h4, h5, h6⟩ := key _ _ _ _ h
      rfl) (fun _ _ x h => by cases x <;> cases h) (fun _ _ x h => by cases x <;> cases h) (fun _ _ x h => by cases x <;> cases h) (fun _ _ x h => by cases x <;> cases h) (fun _ _ x h => by cases x <;> cases h) (fun _ _ x h => by cases x <;> cases h)
theorem snd_idxOf (l : Bool) (a : T) (b : T) (iha : SndE N lv a) (ihb : SndE N lv b) : SndE N lv (.idxOf l a b) := by
  cases l with
  | false => exact SndE.none (fun _ _ _ x h => by cases x <;> cases h) (fun _ _ x h => by cases x <;> cases h) (fun _ _ x h => by cases x <;> cases h) (fun _ _ x h => by cases x <;> cases h) (fun _ _ x h => by cases x <;> cases h) (fun _ _ x h => by cases x <;> cases h) (fun _ _ x h => by cases x <;> cases h)
  | true =>
    have key : ∀ (m : Bool) (sc raw : Scope) (e : Expr), chk N m sc raw (.idxOf true a b) e = true → ∃ ea apos eb pos, e = .Call (.Attribute ea "index" apos) [eb] [] pos ∧ isConstE ea = true ∧ (apos.endLine == pos.line) = true ∧ notStar eb = true ∧ chk N false sc raw a ea = true ∧ chk N false sc raw b eb = true := by
      intro m sc raw e h
      cases e <;> first | cases h | skip
      rename_i fn args kws pos
      cases fn <;> first | cases h | skip
      rename_i en at_ apos
      match args, kws, h with
      | [eb], [], h =>
        have h' : ((at_ == ("index" : Str)) && isConstE en && (apos.endLine == pos.line) && notStar eb && chk N false sc raw a en && chk N false sc raw b eb) = true := h
        simp only [Bool.and_eq_true] at h'
        obtain ⟨⟨⟨⟨⟨h1, h2⟩, h3⟩, h4⟩, h5⟩, h6⟩ := h'
        have e1 : at_ = ("index" : Str) := eq_of_beq h1
        subst e1
        exact ⟨_, _, _, _, rfl, h2, h3, h4, h5, h6⟩
    exact SndE.valM (by
        intro m sc raw X W e o g tk h
        obtain ⟨ea, apos, eb, pos, rfl, h2, h3, h4, h5, h6⟩ := key _ _ _ _ h
        exact sx_idxOf o.u65 (iha.he o g.1 tk h5) (ihb.he o g.2 tk h6) (star_of h4) (by cases ea <;> first | rfl | cases h2) h3) (fun sc raw x h => by
        obtain ⟨ea, apos, eb, pos, rfl, h2, h3, h4, h5, h6⟩ := key _ _ _ _ h
        rfl) (fun _ _ x h => by cases x <;> cases h) (fun _ _ x h => by cases x <;> cases h) (fun _ _ x h => by cases x <;> cases h) (fun _ _ x h => by cases x <;> cases h) (fun _ _ x h => by cases x <;> cases h) (fun _ _ x h => by cases x <;> cases h)
/-- the parts of a node of one's own look rightly -/
def ptsB (N : List Str) (sc raw : Scope) (a b l : T) (q : Option Expr × Option Expr × List Expr) : Bool := (match q.1 with
      | some ea => chk N false sc raw a ea
      | none => true) && (match q.2.1 with
      | some eb => chk N false sc raw b eb
      | none => true) && chkA N sc raw l q.2.2
theorem chk_ext {m : Bool} {sc raw : Scope} {ck : CkE} {f : FnE} {a b l : T} {e : Expr} : chk N m sc raw (.ext ck f a b l) e = (callE e && (!m || plainT e) && (match ck N sc e with
    | some q => ptsB N sc raw a b l q
    | none => false)) := by first | rfl | (cases e <;> rfl)
theorem pts_inv {sc raw : Scope} {a b l : T} {q : Option Expr × Option Expr × List Expr} (h : ptsB N sc raw a b l q = true) : (∀ ea, q.1 = some ea → chk N false sc raw a ea = true) ∧ (∀ eb, q.2.1 = some eb → chk N false sc raw b eb = true) ∧ chkA N sc raw l q.2.2 = true := by
  unfold ptsB at h
  rw [Bool.and_eq_true, Bool.and_eq_true] at h
  refine ⟨fun ea e => ?_, fun eb e => ?_, h.2⟩
  · have := h.1.1
    rw [e] at this
    exact this
  · have := h.1.2
    rw [e] at this
    exact this
theorem ext_inv {m : Bool} {sc raw : Scope} {ck : CkE} {f : FnE} {a b l : T} {e : Expr} (h : chk N m sc raw (.ext ck f a b l) e = true) : callE e = true ∧ (!m || plainT e) = true ∧ ∃ q, ck N sc e = some q ∧ ptsB N sc raw a b l q = true := by
  rw [chk_ext] at h
  rw [Bool.and_eq_true, Bool.and_eq_true] at h
  refine ⟨h.1.1, h.1.2, ?_⟩
  have h2 := h.2
  split at h2
  · exact ⟨_, ‹_›, h2⟩
  · cases h2
theorem snd_ext (ck : CkE) (f : FnE) (a b l : T) (iha : SndE N lv a) (ihb : SndE N lv b) (ihl : SndE N lv l) : SndE N lv (.ext ck f a b l) := by
  exact SndE.val (by
      intro sc raw X W e o g tk h
      obtain ⟨_, _, ⟨oa, ob, es⟩, h1, h2⟩ := ext_inv h
      obtain ⟨p1, p2, p3⟩ := pts_inv h2
      exact g.1 ⟨rfl, rfl, rfl, rfl, rfl⟩ o tk h1 (fun ea e => iha.he o g.2.1 tk (p1 ea e)) (fun eb e => ihb.he o g.2.2.1 tk (p2 eb e)) (ihl.ha o g.2.2.2 tk p3) (chkA_all _ _ p3).1) (fun sc raw x h => by
      obtain ⟨h0, hp, q, h1, h2⟩ := ext_inv h
      refine ⟨?_, by simpa using hp⟩
      rw [chk_ext, h0, h1]
      simpa using h2) (fun _ _ x h => by cases x <;> cases h) (fun _ _ x h => by cases x <;> cases h) (fun _ _ x h => by cases x <;> cases h) (fun _ _ x h => by cases x <;> cases h) (fun _ _ x h => by cases x <;> cases h) (fun _ _ x h => by cases x <;> cases h)
theorem chkI_ext {sc raw : Scope} {tp : Bool} {ck : CkE} {f : FnI} {a b l : T} {e : Expr} : chkI N sc raw (.extI tp ck f a b l) e = (callE e && (match ck N sc e with
    | some q => ptsB N sc raw a b l q
    | none => false)) := by first | rfl | (cases e <;> rfl)
theorem snd_extI (tp : Bool) (ck : CkE) (f : FnI) (a b l : T) (iha : SndE N lv a) (ihb : SndE N lv b) (ihl : SndE N lv l) : SndE N lv (.extI tp ck f a b l) := by
  refine ⟨?_, ?_, ?_, ?_, ?_, ?_, ?_, ?_, ?_⟩
  · intro sc raw X W e _ _ _ h; cases e <;> cases h
  · intro sc raw X W e _ _ _ h; cases e <;> cases h
  · intro sc raw X W op es p _ _ _ h; cases h
  · intro sc raw X W es _ _ _ h; cases es <;> cases h
  · intro sc raw X W es _ _ _ h; cases es <;> cases h
  · intro sc raw X W e tg o g tk h ht
    rw [chkI_ext, Bool.and_eq_true] at h
    have h2 := h.2
    split at h2
    · rename_i q e1
      obtain ⟨oa, ob, es⟩ := q
      obtain ⟨p1, p2, p3⟩ := pts_inv h2
      exact g.1 ⟨rfl, rfl, rfl, rfl, rfl⟩ o tk e1 (fun ea e => iha.he o g.2.1 tk (p1 ea e)) (fun eb e => ihb.he o g.2.2.1 tk (p2 eb e)) (ihl.ha o g.2.2.2 tk p3) (chkA_all _ _ p3).1 ht
    · cases h2
  · intro sc raw X es _ h; cases es <;> cases h
  · intro sc raw X es _ h; cases es <;> cases h
  · intro sc raw X W es _ _ _ h; cases es <;> cases h
theorem snd_unV (i : Nat) : SndE N lv (.unV i) := by
  exact SndE.val (by
      intro sc raw X W e o _ tk h
      cases e <;> first | cases h | skip
      rename_i x p
      have h' : (decide (N[i]? = some x) && visB sc x) = true := h
      rw [Bool.and_eq_true] at h'
      obtain ⟨v1, v2, v3⟩ := vis_of h'.2
      exact sx_unV (o.ix h'.1) (by rw [o.hsc]; exact v1) v2 v3) (fun _ _ x h => by cases x <;> first | exact ⟨h, rfl⟩ | cases h) (fun _ _ x h => by cases x <;> cases h) (fun _ _ x h => by cases x <;> cases h) (fun _ _ x h => by cases x <;> cases h) (fun _ _ x h => by cases x <;> cases h) (fun _ _ x h => by cases x <;> cases h) (fun _ _ x h => by cases x <;> cases h)
theorem snd_tupK (l : T) (ihl : SndE N lv l) : SndE N lv (.tupK l) := by
  have key : ∀ (m : Bool) (sc raw : Scope) (e : Expr), chk N m sc raw (.tupK l) e = true → ∃ p a es pos, e = .Call (.Name "tuple" p) (a :: es) [] pos ∧ glB sc "tuple" = true ∧ chkA N sc raw l (a :: es) = true := by
    intro m sc raw e h
    cases e <;> first | cases h | skip
    rename_i fe args kws p
    cases fe <;> first | cases h | skip
    rename_i fn fp
    match args, kws, h with
    | a :: es, [], h =>
      have h' : (decide (fn = "tuple") && glB sc fn && chkA N sc raw l (a :: es)) = true := h
      simp only [Bool.and_eq_true] at h'
      have e1 : fn = "tuple" := of_decide_eq_true h'.1.1
      subst e1
      exact ⟨_, _, _, _, rfl, h'.1.2, h'.2⟩
  exact SndE.valM (by
      intro m sc raw X W e o g tk h
      obtain ⟨p, a, es, pos, rfl, hg, hl⟩ := key _ _ _ _ h
      obtain ⟨q1, q2⟩ := chkA_all _ _ hl
      rw [List.all_cons, Bool.and_eq_true] at q1
      exact sx_tupK o.blt (o.gl hg).1 (ihl.ha o g tk hl) (star_of (es := es) (env := X.env) q1.1) (back_of (env := X.env) (pos := pos) q1.2)) (fun sc raw x h => by
      obtain ⟨p, a, es, pos, rfl, hg, hl⟩ := key _ _ _ _ h
      rfl) (fun _ _ x h => by cases x <;> cases h) (fun _ _ x h => by cases x <;> cases h) (fun _ _ x h => by cases x <;> cases h) (fun _ _ x h => by cases x <;> cases h) (fun _ _ x h => by cases x <;> cases h) (fun _ _ x h => by cases x <;> cases h)
theorem snd_idxK (i : Nat) (b : T) (ihb : SndE N lv b) : SndE N lv (.idxK i b) := by
  have key : ∀ (m : Bool) (sc raw : Scope) (e : Expr), chk N m sc raw (.idxK i b) e = true → ∃ x px apos eb pos, e = .Call (.Attribute (.Name x px) "index" apos) [eb] [] pos ∧ decide (N[i]? = some x) = true ∧ visB sc x = true ∧ (apos.endLine == pos.line) = true ∧ notStar eb = true ∧ chk N false sc raw b eb = true := by
    intro m sc raw e h
    cases e <;> first | cases h | skip
    rename_i fn args kws pos
    cases fn <;> first | cases h | skip
    rename_i en at_ apos
    cases en <;> first | cases h | skip
    rename_i x px
    match args, kws, h with
    | [eb], [], h =>
      have h' : ((at_ == ("index" : Str)) && decide (N[i]? = some x) && visB sc x && (apos.endLine == pos.line) && notStar eb && chk N false sc raw b eb) = true := h
      simp only [Bool.and_eq_true] at h'
      obtain ⟨⟨⟨⟨⟨h1, h2⟩, h3⟩, h4⟩, h5⟩, h6⟩ := h'
      have e1 : at_ = ("index" : Str) := eq_of_beq h1
      subst e1
      exact ⟨_, _, _, _, _, rfl, h2, h3, h4, h5, h6⟩
  exact SndE.valM (by
      intro m sc raw X W e o g tk h
      obtain ⟨x, px, apos, eb, pos, rfl, h2, h3, h4, h5, h6⟩ := key _ _ _ _ h
      obtain ⟨v1, v2, v3⟩ := vis_of h3
      exact sx_idxK o.u65 (o.ix h2) (by rw [o.hsc]; exact v1) v2 v3 (ihb.he o g tk h6) (star_of h5) h4) (fun sc raw x h => by
      obtain ⟨x, px, apos, eb, pos, rfl, h2, h3, h4, h5, h6⟩ := key _ _ _ _ h
      rfl) (fun _ _ x h => by cases x <;> cases h) (fun _ _ x h => by cases x <;> cases h) (fun _ _ x h => by cases x <;> cases h) (fun _ _ x h => by cases x <;> cases h) (fun _ _ x h => by cases x <;> cases h) (fun _ _ x h => by cases x <;> cases h)
theorem snd_itd (a : T) (iha : SndE N lv a) : SndE N lv (.itd a) := by
  refine ⟨?_, ?_, ?_, ?_, ?_, ?_, ?_, ?_, ?_⟩
  · intro sc raw X W e _ _ _ h; cases e <;> cases h
  · intro sc raw X W e _ _ _ h; cases e <;> cases h
  · intro sc raw X W op es p _ _ _ h; cases h
  · intro sc raw X W es _ _ _ h; cases es <;> cases h
  · intro sc raw X W es _ _ _ h; cases es <;> cases h
  · intro sc raw X W e tg o g tk h
    exact fun _ => si_d (iha.he o g tk (by cases e <;> exact h))
  · intro sc raw X es _ h; cases es <;> cases h
  · intro sc raw X es _ h; cases es <;> cases h
  · intro sc raw X W es _ _ _ h; cases es <;> cases h
theorem snd_yes : SndE N lv .yes := by
  refine ⟨?_, ?_, ?_, ?_, ?_, ?_, ?_, ?_, ?_⟩
  · intro sc raw X W e _ _ _ h; cases e <;> cases h
  · intro sc raw X W e _ _ _ h; cases e <;> cases h
  · intro sc raw X W op es p _ _ _ h; cases h
  · intro sc raw X W es _ _ _ h; cases es <;> cases h
  · intro sc raw X W es _ _ _ h; cases es <;> cases h
  · intro sc raw X W es tg _ _ _ h; cases es <;> cases h
  · intro sc raw X es _ h; cases es <;> cases h
  · intro sc raw X es _ h; cases es <;> cases h
  · intro sc raw X W es o g tk h
    match es, h with
    | [], h => exact pts_nil.weak fun σ H Q ⟨C, F, s, r, h⟩ => h.here r
theorem snd_tname (i : Nat)  : SndE N lv (.tname i) := by
  refine ⟨?_, ?_, ?_, ?_, ?_, ?_, ?_, ?_, ?_⟩
  · intro sc raw X W e _ _ _ h; cases e <;> cases h
  · intro sc raw X W e _ _ _ h; cases e <;> cases h
  · intro sc raw X W op es p _ _ _ h; cases h
  · intro sc raw X W es _ _ _ h; cases es <;> cases h
  · intro sc raw X W es _ _ _ h; cases es <;> cases h
  · intro sc raw X W es tg _ _ _ h; cases es <;> cases h
  · intro sc raw X e o h
    cases e <;> first | cases h | skip
    rename_i x p
    have h' : (decide (N[i]? = some x) && stB raw x) = true := h
    rw [Bool.and_eq_true] at h'
    exact sg_name (by rw [o.hN]; exact o.nd) (o.ix h'.1) (o.loc h'.2).1 (o.loc h'.2).2
  · intro sc raw X es _ h; cases es <;> cases h
  · intro sc raw X W es _ _ _ h; cases es <;> cases h
theorem snd_ttup (l : T) (ih : SndE N lv l) : SndE N lv (.ttup l) := by
  refine ⟨?_, ?_, ?_, ?_, ?_, ?_, ?_, ?_, ?_⟩
  · intro sc raw X W e _ _ _ h; cases e <;> cases h
  · intro sc raw X W e _ _ _ h; cases e <;> cases h
  · intro sc raw X W op es p _ _ _ h; cases h
  · intro sc raw X W es _ _ _ h; cases es <;> cases h
  · intro sc raw X W es _ _ _ h; cases es <;> cases h
  · intro sc raw X W es tg _ _ _ h; cases es <;> cases h
  · intro sc raw X e o h
    cases e <;> first | cases h | skip
    rename_i es k p
    obtain ⟨q1, q2⟩ := chkGs_all _ _ h
    obtain ⟨q3, q4⟩ := asgEach_len (env := X.env) q1
    exact sg_tup o.calm (ih.hgs o h) q3 q4 fun xs s s' e => by rw [asgTs_len _ _ _ _ e, q2]
  · intro sc raw X es _ h; cases es <;> cases h
  · intro sc raw X W es _ _ _ h; cases es <;> cases h
theorem snd_itl (a : T) (iha : SndE N lv a) : SndE N lv (.itl a) := by
  refine ⟨?_, ?_, ?_, ?_, ?_, ?_, ?_, ?_, ?_⟩
  · intro sc raw X W e _ _ _ h; cases e <;> cases h
  · intro sc raw X W e _ _ _ h; cases e <;> cases h
  · intro sc raw X W op es p _ _ _ h; cases h
  · intro sc raw X W es _ _ _ h; cases es <;> cases h
  · intro sc raw X W es _ _ _ h; cases es <;> cases h
  · intro sc raw X W e tg o g tk h
    exact fun _ => si_l (iha.he o g tk (by cases e <;> exact h))
  · intro sc raw X es _ h; cases es <;> cases h
  · intro sc raw X es _ h; cases es <;> cases h
  · intro sc raw X W es _ _ _ h; cases es <;> cases h
theorem snd_itt (a : T) (iha : SndE N lv a) : SndE N lv (.itt a) := by
  refine ⟨?_, ?_, ?_, ?_, ?_, ?_, ?_, ?_, ?_⟩
  · intro sc raw X W e _ _ _ h; cases e <;> cases h
  · intro sc raw X W e _ _ _ h; cases e <;> cases h
  · intro sc raw X W op es p _ _ _ h; cases h
  · intro sc raw X W es _ _ _ h; cases es <;> cases h
  · intro sc raw X W es _ _ _ h; cases es <;> cases h
  · intro sc raw X W e tg o g tk h
    exact fun _ => si_t (iha.he o g tk (by cases e <;> exact h))
  · intro sc raw X es _ h; cases es <;> cases h
  · intro sc raw X es _ h; cases es <;> cases h
  · intro sc raw X W es _ _ _ h; cases es <;> cases h
theorem snd_itr1 (a : T) (iha : SndE N lv a) : SndE N lv (.itr1 a) := by
  refine ⟨?_, ?_, ?_, ?_, ?_, ?_, ?_, ?_, ?_⟩
  · intro sc raw X W e _ _ _ h; cases e <;> cases h
  · intro sc raw X W e _ _ _ h; cases e <;> cases h
  · intro sc raw X W op es p _ _ _ h; cases h
  · intro sc raw X W es _ _ _ h; cases es <;> cases h
  · intro sc raw X W es _ _ _ h; cases es <;> cases h
  · intro sc raw X W e tg o g tk h
    cases e <;> first | cases h | skip
    rename_i fe args kws p
    cases fe <;> first | cases h | skip
    rename_i fn fp
    match args, kws, h with
    | [e], [], h =>
      have h' : ((fn == ("range" : Str)) && glB sc fn && notStar e && chk N false sc raw a e) = true := h
      simp only [Bool.and_eq_true] at h'
      have e1 : fn = "range" := eq_of_beq h'.1.1.1
      subst e1
      exact fun _ => si_r1 o.blt (o.gl h'.1.1.2).1 (iha.he o g tk h'.2) (star_of h'.1.2)
  · intro sc raw X es _ h; cases es <;> cases h
  · intro sc raw X es _ h; cases es <;> cases h
  · intro sc raw X W es _ _ _ h; cases es <;> cases h
theorem snd_itr2 (a : T) (b : T) (iha : SndE N lv a) (ihb : SndE N lv b) : SndE N lv (.itr2 a b) := by
  refine ⟨?_, ?_, ?_, ?_, ?_, ?_, ?_, ?_, ?_⟩
  · intro sc raw X W e _ _ _ h; cases e <;> cases h
  · intro sc raw X W e _ _ _ h; cases e <;> cases h
  · intro sc raw X W op es p _ _ _ h; cases h
  · intro sc raw X W es _ _ _ h; cases es <;> cases h
  · intro sc raw X W es _ _ _ h; cases es <;> cases h
  · intro sc raw X W e tg o g tk h
    cases e <;> first | cases h | skip
    rename_i fe args kws p
    cases fe <;> first | cases h | skip
    rename_i fn fp
    match args, kws, h with
    | [e, e2], [], h =>
      have h' : ((fn == ("range" : Str)) && glB sc fn && notStar e && notStar e2 && chk N false sc raw a e && chk N false sc raw b e2) = true := h
      simp only [Bool.and_eq_true] at h'
      obtain ⟨⟨⟨⟨⟨h1, h2⟩, h3⟩, h4⟩, h5⟩, h6⟩ := h'
      have e1 : fn = "range" := eq_of_beq h1
      subst e1
      have s2 : starEach [e2] X.env = [(false, eval e2 X.env)] := star_of h4
      have s1 : starEach [e, e2] X.env = [(false, eval e X.env), (false, eval e2 X.env)] := (star_of h3).trans (by rw [s2])
      exact fun _ => si_r2 o.blt (o.gl h2).1 (iha.he o g.1 tk h5) (ihb.he o g.2 tk h6) s1 s2
  · intro sc raw X es _ h; cases es <;> cases h
  · intro sc raw X es _ h; cases es <;> cases h
  · intro sc raw X W es _ _ _ h; cases es <;> cases h
theorem snd_itz (a : T) (b : T) (iha : SndE N lv a) (ihb : SndE N lv b) : SndE N lv (.itz a b) := by
  refine ⟨?_, ?_, ?_, ?_, ?_, ?_, ?_, ?_, ?_⟩
  · intro sc raw X W e _ _ _ h; cases e <;> cases h
  · intro sc raw X W e _ _ _ h; cases e <;> cases h
  · intro sc raw X W op es p _ _ _ h; cases h
  · intro sc raw X W es _ _ _ h; cases es <;> cases h
  · intro sc raw X W es _ _ _ h; cases es <;> cases h
  · intro sc raw X W e tg o g tk h
    cases e <;> first | cases h | skip
    rename_i fe args kws p
    cases fe <;> first | cases h | skip
    rename_i fn fp
    match args, kws, h with
    | [e, e2], [], h =>
      have h' : ((fn == ("zip" : Str)) && glB sc fn && notStar e && notStar e2 && chk N false sc raw a e && chk N false sc raw b e2) = true := h
      simp only [Bool.and_eq_true] at h'
      obtain ⟨⟨⟨⟨⟨h1, h2⟩, h3⟩, h4⟩, h5⟩, h6⟩ := h'
      have e1 : fn = "zip" := eq_of_beq h1
      subst e1
      have s2 : starEach [e2] X.env = [(false, eval e2 X.env)] := star_of h4
      have s1 : starEach [e, e2] X.env = [(false, eval e X.env), (false, eval e2 X.env)] := (star_of h3).trans (by rw [s2])
      intro ht
      cases tg <;> first | (cases ht; done) | skip
      exact si_z o.blt (o.gl h2).1 (iha.he o g.1 tk h5) (ihb.he o g.2 tk h6) s1 s2
  · intro sc raw X es _ h; cases es <;> cases h
  · intro sc raw X es _ h; cases es <;> cases h
  · intro sc raw X W es _ _ _ h; cases es <;> cases h
theorem sndE : ∀ t : T, SndE N lv t := by
  intro t
  induction t with
  | var i => exact snd_var i
  | lenS i => exact snd_lenS i
  | cst d => exact snd_cst d
  | glob x d => exact snd_glob x d
  | bin op a b iha ihb => exact snd_bin op a b iha ihb
  | neg a iha => exact snd_neg a iha
  | cmp op a b iha ihb => exact snd_cmp op a b iha ihb
  | chain q p a b c iha ihb ihc => exact snd_chain q p a b c iha ihb ihc
  | isN a iha => exact snd_isN a iha
  | notN a iha => exact snd_notN a iha
  | not a iha => exact snd_not a iha
  | one a iha => exact snd_one a iha
  | and a b iha ihb => exact snd_and a b iha ihb
  | or a b iha ihb => exact snd_or a b iha ihb
  | ite c a b ihc iha ihb => exact snd_ite c a b ihc iha ihb
  | tup l ih => exact snd_tup l ih
  | lst l ih => exact snd_lst l ih
  | anil  => exact snd_anil 
  | acons a r iha ihr => exact snd_acons a r iha ihr
  | idx a b iha ihb => exact snd_idx a b iha ihb
  | mth f a b iha ihb => exact snd_mth f a b iha ihb
  | bget i j => exact snd_bget i j
  | dix ks vs a iha => exact snd_dix ks vs a iha
  | lrg a b iha ihb => exact snd_lrg a b iha ihb
  | lr1 a iha => exact snd_lr1 a iha
  | uniq a iha => exact snd_uniq a iha
  | lenset a iha => exact snd_lenset a iha
  | itz a b iha ihb => exact snd_itz a b iha ihb
  | inD neg i a iha => exact snd_inD neg i a iha
  | atD i a iha => exact snd_atD i a iha
  | getD i a b iha ihb => exact snd_getD i a b iha ihb
  | inX neg a b iha ihb => exact snd_inX neg a b iha ihb
  | popO i => exact snd_popO i
  | pop0 i => exact snd_pop0 i
  | neO i => exact snd_neO i
  | keysD i => exact snd_keysD i
  | trg a iha => exact snd_trg a iha
  | idxOf l a b iha ihb => exact snd_idxOf l a b iha ihb
  | unV i => exact snd_unV i
  | ext ck f a b l iha ihb ihl => exact snd_ext ck f a b l iha ihb ihl
  | extI tp ck f a b l iha ihb ihl => exact snd_extI tp ck f a b l iha ihb ihl
  | exs _ _ _ _ _ _ _ _ _ _ => exact SndE.none (fun _ _ _ x h => by cases x <;> cases h) (fun _ _ x h => by cases x <;> cases h) (fun _ _ x h => by cases x <;> cases h) (fun _ _ x h => by cases x <;> cases h) (fun _ _ x h => by cases x <;> cases h) (fun _ _ x h => by cases x <;> cases h) (fun _ _ x h => by cases x <;> cases h)
  | tupK l ihl => exact snd_tupK l ihl
  | idxK i b ihb => exact snd_idxK i b ihb
  | itd a iha => exact snd_itd a iha
  | putDN _ _ _ _ _ _ _ _ => exact SndE.none (fun _ _ _ x h => by cases x <;> cases h) (fun _ _ x h => by cases x <;> cases h) (fun _ _ x h => by cases x <;> cases h) (fun _ _ x h => by cases x <;> cases h) (fun _ _ x h => by cases x <;> cases h) (fun _ _ x h => by cases x <;> cases h) (fun _ _ x h => by cases x <;> cases h)
  | par3D _ _ _ _ _ _ _ => exact SndE.none (fun _ _ _ x h => by cases x <;> cases h) (fun _ _ x h => by cases x <;> cases h) (fun _ _ x h => by cases x <;> cases h) (fun _ _ x h => by cases x <;> cases h) (fun _ _ x h => by cases x <;> cases h) (fun _ _ x h => by cases x <;> cases h) (fun _ _ x h => by cases x <;> cases h)
  | asg4D _ _ _ _ _ _ _ _ _ _ => exact SndE.none (fun _ _ _ x h => by cases x <;> cases h) (fun _ _ x h => by cases x <;> cases h) (fun _ _ x h => by cases x <;> cases h) (fun _ _ x h => by cases x <;> cases h) (fun _ _ x h => by cases x <;> cases h) (fun _ _ x h => by cases x <;> cases h) (fun _ _ x h => by cases x <;> cases h)
  | parD1 _ _ _ _ _ _ _ _ _ => exact SndE.none (fun _ _ _ x h => by cases x <;> cases h) (fun _ _ x h => by cases x <;> cases h) (fun _ _ x h => by cases x <;> cases h) (fun _ _ x h => by cases x <;> cases h) (fun _ _ x h => by cases x <;> cases h) (fun _ _ x h => by cases x <;> cases h) (fun _ _ x h => by cases x <;> cases h)
  | parDC _ _ _ _ => exact SndE.none (fun _ _ _ x h => by cases x <;> cases h) (fun _ _ x h => by cases x <;> cases h) (fun _ _ x h => by cases x <;> cases h) (fun _ _ x h => by cases x <;> cases h) (fun _ _ x h => by cases x <;> cases h) (fun _ _ x h => by cases x <;> cases h) (fun _ _ x h => by cases x <;> cases h)
  | raiseW _ _ _ => exact SndE.none (fun _ _ _ x h => by cases x <;> cases h) (fun _ _ x h => by cases x <;> cases h) (fun _ _ x h => by cases x <;> cases h) (fun _ _ x h => by cases x <;> cases h) (fun _ _ x h => by cases x <;> cases h) (fun _ _ x h => by cases x <;> cases h) (fun _ _ x h => by cases x <;> cases h)
  | tryW _ _ _ => exact SndE.none (fun _ _ _ x h => by cases x <;> cases h) (fun _ _ x h => by cases x <;> cases h) (fun _ _ x h => by cases x <;> cases h) (fun _ _ x h => by cases x <;> cases h) (fun _ _ x h => by cases x <;> cases h) (fun _ _ x h => by cases x <;> cases h) (fun _ _ x h => by cases x <;> cases h)
  | parDL _ _ => exact SndE.none (fun _ _ _ x h => by cases x <;> cases h) (fun _ _ x h => by cases x <;> cases h) (fun _ _ x h => by cases x <;> cases h) (fun _ _ x h => by cases x <;> cases h) (fun _ _ x h => by cases x <;> cases h) (fun _ _ x h => by cases x <;> cases h) (fun _ _ x h => by cases x <;> cases h)
  | newD _ => exact SndE.none (fun _ _ _ x h => by cases x <;> cases h) (fun _ _ x h => by cases x <;> cases h) (fun _ _ x h => by cases x <;> cases h) (fun _ _ x h => by cases x <;> cases h) (fun _ _ x h => by cases x <;> cases h) (fun _ _ x h => by cases x <;> cases h) (fun _ _ x h => by cases x <;> cases h)
  | putD _ _ _ _ _ => exact SndE.none (fun _ _ _ x h => by cases x <;> cases h) (fun _ _ x h => by cases x <;> cases h) (fun _ _ x h => by cases x <;> cases h) (fun _ _ x h => by cases x <;> cases h) (fun _ _ x h => by cases x <;> cases h) (fun _ _ x h => by cases x <;> cases h) (fun _ _ x h => by cases x <;> cases h)
  | tryR _ _ _ _ => exact SndE.none (fun _ _ _ x h => by cases x <;> cases h) (fun _ _ x h => by cases x <;> cases h) (fun _ _ x h => by cases x <;> cases h) (fun _ _ x h => by cases x <;> cases h) (fun _ _ x h => by cases x <;> cases h) (fun _ _ x h => by cases x <;> cases h) (fun _ _ x h => by cases x <;> cases h)
  | bset _ _ _ _ => exact SndE.none (fun _ _ _ x h => by cases x <;> cases h) (fun _ _ x h => by cases x <;> cases h) (fun _ _ x h => by cases x <;> cases h) (fun _ _ x h => by cases x <;> cases h) (fun _ _ x h => by cases x <;> cases h) (fun _ _ x h => by cases x <;> cases h) (fun _ _ x h => by cases x <;> cases h)
  | sat i a iha => exact snd_sat i a iha
  | slc a l hh iha ihl ihh => exact snd_slc a l hh iha ihl ihh
  | nopart  => exact snd_nopart 
  | rev a iha => exact snd_rev a iha
  | call x g l ihl => exact snd_call x g l ihl
  | blt f l ihl => exact snd_blt f l ihl
  | isi f a iha => exact snd_isi f a iha
  | comp own g it c e ihg ihi ihc ihe => exact snd_comp own g it c e ihg ihi ihc ihe
  | yes  => exact snd_yes 
  | tname i => exact snd_tname i
  | ttup l ih => exact snd_ttup l ih
  | itl a iha => exact snd_itl a iha
  | itt a iha => exact snd_itt a iha
  | itr1 a iha => exact snd_itr1 a iha
  | itr2 a b iha ihb => exact snd_itr2 a b iha ihb
  | nil => exact SndE.none (fun _ _ _ x h => by cases x <;> cases h) (fun _ _ x h => by cases x <;> cases h) (fun _ _ x h => by cases x <;> cases h) (fun _ _ x h => by cases x <;> cases h) (fun _ _ x h => by cases x <;> cases h) (fun _ _ x h => by cases x <;> cases h) (fun _ _ x h => by cases x <;> cases h)
  | seq _ _ _ _ => exact SndE.none (fun _ _ _ x h => by cases x <;> cases h) (fun _ _ x h => by cases x <;> cases h) (fun _ _ x h => by cases x <;> cases h) (fun _ _ x h => by cases x <;> cases h) (fun _ _ x h => by cases x <;> cases h) (fun _ _ x h => by cases x <;> cases h) (fun _ _ x h => by cases x <;> cases h)
  | bagged _ _ _ _ _ _ _ => exact SndE.none (fun _ _ _ x h => by cases x <;> cases h) (fun _ _ x h => by cases x <;> cases h) (fun _ _ x h => by cases x <;> cases h) (fun _ _ x h => by cases x <;> cases h) (fun _ _ x h => by cases x <;> cases h) (fun _ _ x h => by cases x <;> cases h) (fun _ _ x h => by cases x <;> cases h)
  | asg _ _ _ _ => exact SndE.none (fun _ _ _ x h => by cases x <;> cases h) (fun _ _ x h => by cases x <;> cases h) (fun _ _ x h => by cases x <;> cases h) (fun _ _ x h => by cases x <;> cases h) (fun _ _ x h => by cases x <;> cases h) (fun _ _ x h => by cases x <;> cases h) (fun _ _ x h => by cases x <;> cases h)
  | asgO _ _ _ => exact SndE.none (fun _ _ _ x h => by cases x <;> cases h) (fun _ _ x h => by cases x <;> cases h) (fun _ _ x h => by cases x <;> cases h) (fun _ _ x h => by cases x <;> cases h) (fun _ _ x h => by cases x <;> cases h) (fun _ _ x h => by cases x <;> cases h) (fun _ _ x h => by cases x <;> cases h)
  | par _ _ _ => exact SndE.none (fun _ _ _ x h => by cases x <;> cases h) (fun _ _ x h => by cases x <;> cases h) (fun _ _ x h => by cases x <;> cases h) (fun _ _ x h => by cases x <;> cases h) (fun _ _ x h => by cases x <;> cases h) (fun _ _ x h => by cases x <;> cases h) (fun _ _ x h => by cases x <;> cases h)
  | parL _ _ _ _ => exact SndE.none (fun _ _ _ x h => by cases x <;> cases h) (fun _ _ x h => by cases x <;> cases h) (fun _ _ x h => by cases x <;> cases h) (fun _ _ x h => by cases x <;> cases h) (fun _ _ x h => by cases x <;> cases h) (fun _ _ x h => by cases x <;> cases h) (fun _ _ x h => by cases x <;> cases h)
  | parR _ _ _ _ => exact SndE.none (fun _ _ _ x h => by cases x <;> cases h) (fun _ _ x h => by cases x <;> cases h) (fun _ _ x h => by cases x <;> cases h) (fun _ _ x h => by cases x <;> cases h) (fun _ _ x h => by cases x <;> cases h) (fun _ _ x h => by cases x <;> cases h) (fun _ _ x h => by cases x <;> cases h)
  | app _ _ _ => exact SndE.none (fun _ _ _ x h => by cases x <;> cases h) (fun _ _ x h => by cases x <;> cases h) (fun _ _ x h => by cases x <;> cases h) (fun _ _ x h => by cases x <;> cases h) (fun _ _ x h => by cases x <;> cases h) (fun _ _ x h => by cases x <;> cases h) (fun _ _ x h => by cases x <;> cases h)
  | iff _ _ _ _ _ _ => exact SndE.none (fun _ _ _ x h => by cases x <;> cases h) (fun _ _ x h => by cases x <;> cases h) (fun _ _ x h => by cases x <;> cases h) (fun _ _ x h => by cases x <;> cases h) (fun _ _ x h => by cases x <;> cases h) (fun _ _ x h => by cases x <;> cases h) (fun _ _ x h => by cases x <;> cases h)
  | loop _ _ _ _ _ _ => exact SndE.none (fun _ _ _ x h => by cases x <;> cases h) (fun _ _ x h => by cases x <;> cases h) (fun _ _ x h => by cases x <;> cases h) (fun _ _ x h => by cases x <;> cases h) (fun _ _ x h => by cases x <;> cases h) (fun _ _ x h => by cases x <;> cases h) (fun _ _ x h => by cases x <;> cases h)
  | «while» _ _ _ _ _ => exact SndE.none (fun _ _ _ x h => by cases x <;> cases h) (fun _ _ x h => by cases x <;> cases h) (fun _ _ x h => by cases x <;> cases h) (fun _ _ x h => by cases x <;> cases h) (fun _ _ x h => by cases x <;> cases h) (fun _ _ x h => by cases x <;> cases h) (fun _ _ x h => by cases x <;> cases h)
  | ret _ _ => exact SndE.none (fun _ _ _ x h => by cases x <;> cases h) (fun _ _ x h => by cases x <;> cases h) (fun _ _ x h => by cases x <;> cases h) (fun _ _ x h => by cases x <;> cases h) (fun _ _ x h => by cases x <;> cases h) (fun _ _ x h => by cases x <;> cases h) (fun _ _ x h => by cases x <;> cases h)
  | drop _ _ => exact SndE.none (fun _ _ _ x h => by cases x <;> cases h) (fun _ _ x h => by cases x <;> cases h) (fun _ _ x h => by cases x <;> cases h) (fun _ _ x h => by cases x <;> cases h) (fun _ _ x h => by cases x <;> cases h) (fun _ _ x h => by cases x <;> cases h) (fun _ _ x h => by cases x <;> cases h)
  | raise _ _ _ => exact SndE.none (fun _ _ _ x h => by cases x <;> cases h) (fun _ _ x h => by cases x <;> cases h) (fun _ _ x h => by cases x <;> cases h) (fun _ _ x h => by cases x <;> cases h) (fun _ _ x h => by cases x <;> cases h) (fun _ _ x h => by cases x <;> cases h) (fun _ _ x h => by cases x <;> cases h)
end
end RD
set_option Elab.async false
set_option linter.all false
set_option maxRecDepth 100000
/-! RdM: statements that pass the look do what they say; a def's promise. -/
namespace RD
open PySem L2
theorem noBag_len : ∀ r : List Slot, (noBag r).length = r.length
  | [] => rfl
  | .un :: r => congrArg (· + 1) (noBag_len r)
  | .ow _ :: r => congrArg (· + 1) (noBag_len r)
  | .val (.d _) :: r => congrArg (· + 1) (noBag_len r)
  | .val (.scr _) :: r => congrArg (· + 1) (noBag_len r)
  | .val .bag :: r => congrArg (· + 1) (noBag_len r)
theorem noBag_val : ∀ {r : List Slot} {i : Nat} {u : U}, (noBag r)[i]? = some (.val u) → r[i]? = some (.val u) ∧ u ≠ .bag
  | [], _, _, h => by cases h
  | .un :: r, 0, _, h => by cases h
  | .ow _ :: r, 0, _, h => by cases h
  | .val (.d _) :: r, 0, _, h => by cases h; exact ⟨rfl, by intro z; cases z⟩
  | .val (.scr _) :: r, 0, _, h => by cases h; exact ⟨rfl, by intro z; cases z⟩
  | .val .bag :: r, 0, _, h => by cases h
  | .un :: r, i + 1, _, h => noBag_val (r := r) (i := i) h
  | .ow _ :: r, i + 1, _, h => noBag_val (r := r) (i := i) h
  | .val (.d _) :: r, i + 1, _, h => noBag_val (r := r) (i := i) h
  | .val (.scr _) :: r, i + 1, _, h => noBag_val (r := r) (i := i) h
  | .val .bag :: r, i + 1, _, h => noBag_val (r := r) (i := i) h
theorem noBag_ol : ∀ {r : List Slot} {i : Nat} {ds : Own}, (noBag r)[i]? = some (.ow ds) → r[i]? = some (.ow ds)
  | [], _, _, h => by cases h
  | .un :: r, 0, _, h => by cases h
  | .ow _ :: r, 0, _, h => h
  | .val (.d _) :: r, 0, _, h => by cases h
  | .val (.scr _) :: r, 0, _, h => by cases h
  | .val .bag :: r, 0, _, h => by cases h
  | .un :: r, i + 1, _, h => noBag_ol (r := r) (i := i) h
  | .ow _ :: r, i + 1, _, h => noBag_ol (r := r) (i := i) h
  | .val (.d _) :: r, i + 1, _, h => noBag_ol (r := r) (i := i) h
  | .val (.scr _) :: r, i + 1, _, h => noBag_ol (r := r) (i := i) h
  | .val .bag :: r, i + 1, _, h => noBag_ol (r := r) (i := i) h
theorem DenU.nobag {K : PySem.W.Frag} {b b' : Addr} {F : Hp} {u : U} {v : V} (h : DenU K b F u v) (n : u ≠ .bag) : DenU K b' F u v := by
  cases u with
  | d x => exact h
  | scr ns => exact h
  | bag => exact absurd rfl n

section
variable {X : Cx} {W : WX} {C : Ct}
/-- the heap ahead of a bag, without the slots' own lists -/
noncomputable def hideOwn (s : S) (σ : L2.St) (H : Hp) : Hp := fun a => by
  classical exact if ∃ (i : Nat) (ds : Own), s.rho[i]? = some (.ow ds) ∧ σ[i]? = some (some (.ref a)) then none else H a
theorem hide_some {s : S} {σ : L2.St} {H : Hp} {a : Addr} {o : HO} (h : hideOwn s σ H a = some o) : H a = some o := by
  unfold hideOwn at h
  split at h
  · cases h
  · exact h
theorem hide_own {s : S} {σ : L2.St} {H : Hp} {a : Addr} {i : Nat} {ds : Own} (h : s.rho[i]? = some (.ow ds)) (h2 : σ[i]? = some (some (.ref a))) : hideOwn s σ H a = none := by
  unfold hideOwn
  exact if_pos ⟨i, ds, h, h2⟩
theorem hide_not {s : S} {σ : L2.St} {H : Hp} {a : Addr} (h : hideOwn s σ H a = none) : (∃ (i : Nat) (ds : Own), s.rho[i]? = some (.ow ds) ∧ σ[i]? = some (some (.ref a))) ∨ H a = none := by
  unfold hideOwn at h
  split at h
  · exact .inl ‹_›
  · exact .inr h
noncomputable abbrev Ct.bag (C : Ct) (F : Hp) (s : S) (σ : L2.St) (H : Hp) (p : Addr) : Ct := ⟨F, hideOwn s σ H, p, true⟩
theorem Rel.bagIn {K : PySem.W.Frag} {F : Hp} {s : S} {σ : L2.St} {H H' : Hp} {i : Nat} {p : Addr} {x y : Int} (r : Rel K C F s σ H) (hp : H p = none) (keep : ∀ a o, H a = some o → H' a = some o) (hH : H' p = some (.lst [.int x, .int y])) :
    Rel K (C.bag F s σ H p) F ⟨(noBag s.rho).set i (.val .bag), some (x, y)⟩ (σ.set i (some (.ref p))) H' := by
  have r0 : Rel K (C.bag F s σ H p) F ⟨noBag s.rho, some (x, y)⟩ σ H' := by
    refine ⟨fun a o e => keep a o (r.le a o e), Le.refl _, fun a o e _ => .inl e, fun a o e _ => keep a o (hide_some e), rfl, fun x' y' e => ?_, by rw [r.len]; exact (noBag_len _).symm, fun j u e => ?_, fun j ds e => ?_, fun j k ds es q e1 e2 q1 q2 => ?_⟩
    · cases e
      exact ⟨hH, r.freeF hp⟩
    · obtain ⟨e', n⟩ := noBag_val e
      obtain ⟨v, h1, h2⟩ := r.val j u e'
      exact ⟨v, h1, h2.nobag n⟩
    · have e' := noBag_ol e
      obtain ⟨q, vs, h1, h2, h3, h4, h5, h6⟩ := r.own j ds e'
      refine ⟨q, vs, h1, keep _ _ h2, h3, hide_own e' h1, .inr fun z => ?_, h6⟩
      have z' : q = p := z
      rw [z', hp] at h2
      cases h2
    · exact r.apart j k ds es q (noBag_ol e1) (noBag_ol e2) q1 q2
  exact r0.setU i (u := .bag) rfl
theorem Rel.bagOut {K : PySem.W.Frag} {F F' : Hp} {s s' : S} {σ σ' : L2.St} {H H' : Hp} {p : Addr} (r : Rel K C F s σ H) (hp : H p = none) (hn : s.bag = none) (r' : Rel K (C.bag F s σ H p) F' s' σ' H') : Rel K C F' ⟨noBag s'.rho, none⟩ σ' H' := by
  have hb : C.hb = false := by
    have := r.hbag
    rw [hn] at this
    exact this.symm
  have zero : ∀ a, hideOwn s σ H a = none → C.H0 a = none := fun a h => by
    rcases hide_not h with ⟨i, ds, e1, e2⟩ | h
    · obtain ⟨q, vs, h1, h2, h3, h4, _⟩ := r.own i ds e1
      rw [e2] at h1
      cases h1
      exact h4
    · exact r.fresh0 h
  refine ⟨r'.le, r.ge.trans r'.ge, fun a o e n => ?_, fun a o e _ => ?_, hb.symm, fun x y e => (by cases e), by rw [r'.len]; exact (noBag_len _).symm, fun j u e => ?_, fun j ds e => ?_, fun j k ds es q e1 e2 q1 q2 => ?_⟩
  · rcases r'.new a o e n with h | h
    · exact r.new a o h n
    · exact .inr (zero a h)
  · have h1 : hideOwn s σ H a = some o := by
      cases q : hideOwn s σ H a with
      | none => rw [zero a q] at e; cases e
      | some o' =>
        have h2 := hide_some q
        rw [r.keep a o e (.inl hb)] at h2
        exact h2.symm
    refine r'.keep a o h1 (.inr fun z => ?_)
    have z' : a = p := z
    have := r.keep a o e (.inl hb)
    rw [z', hp] at this
    cases this
  · obtain ⟨e', n⟩ := noBag_val e
    obtain ⟨v, h1, h2⟩ := r'.val j u e'
    exact ⟨v, h1, h2.nobag n⟩
  · obtain ⟨q, vs, h1, h2, h3, h4, h5, h6⟩ := r'.own j ds (noBag_ol e)
    exact ⟨q, vs, h1, h2, h3, zero q h4, .inl hb, h6⟩
  · exact r'.apart j k ds es q (noBag_ol e1) (noBag_ol e2) q1 q2
theorem ss_bagged {f : Addr} {fd : FuncData} {ps : List Str} {k i : Nat} {x y : Str} {g : G} {e : Expr} {es : List Expr} {l r : T} {p p2 pos pos2 : Pos} {rest : List Stmt} (G0 : FnOk X.prog X.w X.K X.mg X.base (L2.CX X.prog X.w) k f fd ps (spB X.K ps.length g)) (hr : Room k X.A) (hg : Gl X x) (hm : X.mg x = some (.ref f))
    (hk : PySem.W.keepIn X.K (.ref f) = true) (hb : Binds X.K fd ps []) (tk : Takes X W) (ha : PA X (e :: es) (tXA X.K X.mg W l)) (hdb : (x == ("__debug__" : Str)) = false) (he : starEach (e :: es) X.env = (false, eval e X.env) :: starEach es X.env)
    (hpl : (backTo pos (starEach es X.env)).any (·.1) = false) (hlen : (e :: es).length = ps.length) (hlA : ∀ s us s', evA l s = .ok us s' → us.length = (e :: es).length) (hN : X.N.Nodup) (hi : X.N[i]? = some y) (hx : L2.Loc X.env.scope y) (hf : X.fn y = true ∨ X.env.scope.names.lookup y = some .local)
    (hrest : PSs X rest (tS X.K X.mg W r)) : PSs X (.Assign [.Name y p2] (.Call (.Name x p) (e :: es) [] pos) pos2 :: rest) (tS X.K X.mg W (.bagged i x g l r)) := by
  refine (pss_cons (ps_set hN hi hx (pe_callS G0 hr hg hm hk hb (fun σ => passAt tk σ) ha hdb he hpl) rfl hf) hrest).weak fun D σ H ⟨C, F, s, r0, h⟩ => ⟨C, F, s, r0, ?_⟩
  have hL := hlA s
  have h' : PostS X.K X.mg W C F ((evA l s).bind fun us s => match g us s.bag, s.bag with
    | .ok (.d (.list [.int x, .int y])) none, none => match ex r ⟨(noBag s.rho).set i (.val .bag), some (x, y)⟩ with
      | .ok .nx s => .ok .nx ⟨noBag s.rho, none⟩
      | .ok (.rt (.d u)) s => .ok (.rt (.d u)) ⟨noBag s.rho, none⟩
      | _ => .stuck
    | _, _ => .stuck) D := h
  revert h' hL
  generalize evA l s = m
  intro hL h'
  cases m with
  | exn c p s1 => exact fun G H cls d l r e => h' G σ H cls d l r e
  | stuck => exact h'.elim
  | ok us s1 =>
    intro F1 H1 l1 r1 vs d1
    have h1 := PostS.up h' l1
    have h2 : PostS X.K X.mg W C F1 (match g us s1.bag, s1.bag with
      | .ok (.d (.list [.int x, .int y])) none, none => match ex r ⟨(noBag s1.rho).set i (.val .bag), some (x, y)⟩ with
        | .ok .nx s => .ok .nx ⟨noBag s.rho, none⟩
        | .ok (.rt (.d u)) s => .ok (.rt (.d u)) ⟨noBag s.rho, none⟩
        | _ => .stuck
      | _, _ => .stuck) D := h1
    split at h2
    · rename_i x0 y0 eg eb
      refine ⟨F1, C.b, us, x0, y0, r1.le, by rw [← hlen]; exact hL us s1 rfl, d1, by rw [eb] at eg; exact eg, fun p H' hp keep hH => ?_⟩
      refine ⟨C.bag F1 s1 σ H1 p, F1, _, r1.bagIn hp keep hH, ?_⟩
      revert h2
      cases ex r ⟨(noBag s1.rho).set i (.val .bag), some (x0, y0)⟩ with
      | ok o s2 =>
        cases o with
        | nx => exact fun h2 F' σ' H' l r' => h2 F' σ' H' l (r1.bagOut hp eb r')
        | rt u =>
          cases u with
          | d z => exact fun h2 F' σ' H' v l r' d => h2 F' σ' H' v l (r1.bagOut hp eb r') d
          | _ => exact fun h2 => h2.elim
      | exn c p s2 => exact fun h2 => h2.elim
      | stuck => exact fun h2 => h2.elim
    · exact h2.elim
/-! a, b = x, y -/
theorem ss_par2 {i j : Nat} {x y : Str} {a b : Expr} {l : T} {px py pt pos : Pos} {kt k2 : Nat} {pt2 : Pos} (hc : X.calm = true) (hN : X.N.Nodup) (hi : X.N[i]? = some x) (hj : X.N[j]? = some y) (hij : i ≠ j) (hx : X.env.scope.names.lookup x = some .local) (hy : X.env.scope.names.lookup y = some .local)
    (ha : PA X [a, b] (tXA X.K X.mg W l)) (hw : swappedStores [.Tuple [.Name x px, .Name y py] kt pt] (.Tuple [a, b] k2 pt2) X.env = pure (some [x, y])) :
    PS X (.Assign [.Tuple [.Name x px, .Name y py] kt pt] (.Tuple [a, b] k2 pt2) pos) (tS X.K X.mg W (.par [i, j] l)) := by
  refine (ps_par hc hN hi hj hij hx hy ha hw).weak fun D σ H ⟨C, F, s, r0, h⟩ => ⟨C, F, s, r0, ?_⟩
  refine (PostS.bind h).imp fun us F1 s1 H1 l1 r1 h1 vs d1 => ?_
  cases e : datas us with
  | none => rw [e] at h1; exact h1.elim
  | some xs =>
    rw [e] at h1
    have dn := datas_dn d1 e
    match xs, vs, dn, h1 with
    | [], _, _, h1 => exact h1.elim
    | [x1], _, _, h1 => exact h1.elim
    | [x1, x2], [v1, v2], .cons e1 (.cons e2 .nil), h1 => exact ⟨v1, v2, rfl, h1 F1 _ H1 (Le.refl _) ((r1.setD i e1).setD j e2)⟩
    | x1 :: x2 :: x3 :: xs, _, _, h1 => exact h1.elim
/-- a, b = e, []: the second a list that will grow -/
theorem ss_parL {i j : Nat} {x y : Str} {ea : Expr} {a : T} {px py pt pos pl : Pos} {kt k2 : Nat} {pt2 : Pos} (hc : X.calm = true) (hN : X.N.Nodup) (hi : X.N[i]? = some x) (hj : X.N[j]? = some y) (hij : i ≠ j) (hx : X.env.scope.names.lookup x = some .local) (hy : X.env.scope.names.lookup y = some .local)
    (ha : PE X ea (tX X.K X.mg W a)) (hs : ∀ es, starEach (ea :: es) X.env = (false, eval ea X.env) :: starEach es X.env) (hw : swappedStores [.Tuple [.Name x px, .Name y py] kt pt] (.Tuple [ea, .List [] pl] k2 pt2) X.env = pure (some [x, y])) :
    PS X (.Assign [.Tuple [.Name x px, .Name y py] kt pt] (.Tuple [ea, .List [] pl] k2 pt2) pos) (tS X.K X.mg W (.parL i j a)) := by
  refine (ps_par hc hN hi hj hij hx hy (pa_cons ha (pa_cons (pe_lst pa_nil) pa_nil rfl) (hs _)) hw).weak fun D σ H ⟨C, F, s, r0, h⟩ => ⟨C, F, s, r0, ?_⟩
  refine (PostS.dat h).imp fun u F1 s1 H1 l1 r1 ⟨z, e, h1⟩ v d1 => ?_
  subst e
  refine ⟨Nat.zero_le _, fun q hq => ⟨v, .ref q, rfl, ?_⟩⟩
  have r2 := (r1.setD i d1).lay (.lst []) hq
  refine h1 F1 _ _ (Le.refl _) (r2.setO j upd_same (r1.freeF hq) (r1.fresh0 hq) (r1.bne hq) ⟨_, rfl, .nil⟩ fun m es _ e w => ?_)
  exact (r1.setD i d1).ownNe hq m es e w
/-- a, b = {}, [] -/
theorem ss_parDL {i j : Nat} {x y : Str} {px py pt pos pl pd : Pos} {kt k2 : Nat} {pt2 : Pos} (hc : X.calm = true) (hN : X.N.Nodup) (hi : X.N[i]? = some x) (hj : X.N[j]? = some y) (hij : i ≠ j) (hx : X.env.scope.names.lookup x = some .local) (hy : X.env.scope.names.lookup y = some .local)
    (hw : swappedStores [.Tuple [.Name x px, .Name y py] kt pt] (.Tuple [.Dict [] [] pd, .List [] pl] k2 pt2) X.env = pure (some [x, y])) :
    PS X (.Assign [.Tuple [.Name x px, .Name y py] kt pt] (.Tuple [.Dict [] [] pd, .List [] pl] k2 pt2) pos) (tS X.K X.mg W (.parDL i j)) := by
  refine (ps_par hc hN hi hj hij hx hy (pa_cons pe_dnewT (pa_cons (pe_lst pa_nil) pa_nil rfl) rfl) hw).weak fun D σ H ⟨C, F, s, r0, h⟩ => ?_
  intro p hp
  refine ⟨Nat.zero_le _, fun q hq => ⟨.ref p, .ref q, rfl, ?_⟩⟩
  have r1 := (r0.lay (.dT []) hp).setO i (ds := .d []) upd_same (r0.freeF hp) (r0.fresh0 hp) (r0.bne hp) ⟨[], rfl, rfl, .nil⟩ fun m es _ e w => r0.ownNe hp m es e w
  have r2 := r1.lay (.lst []) hq
  exact h F _ _ (Le.refl _) (r2.setO j (ds := .l []) upd_same (r1.freeF hq) (r1.fresh0 hq) (r1.bne hq) ⟨_, rfl, .nil⟩ fun m es _ e w => r1.ownNe hq m es e w)
theorem ss_par3 {i j k : Nat} {x y z : Str} {a b c : Expr} {l : T} {px py pz pt pos : Pos} {kt k2 : Nat} {pt2 : Pos} (hc : X.calm = true) (hN : X.N.Nodup) (hi : X.N[i]? = some x) (hj : X.N[j]? = some y) (hk : X.N[k]? = some z) (hij : i ≠ j) (hik : i ≠ k) (hjk : j ≠ k)
    (hx : X.env.scope.names.lookup x = some .local) (hy : X.env.scope.names.lookup y = some .local) (hz : X.env.scope.names.lookup z = some .local)
    (ha : PA X [a, b, c] (tXA X.K X.mg W l)) (hw : swappedStores [.Tuple [.Name x px, .Name y py, .Name z pz] kt pt] (.Tuple [a, b, c] k2 pt2) X.env = pure (some [x, y, z])) :
    PS X (.Assign [.Tuple [.Name x px, .Name y py, .Name z pz] kt pt] (.Tuple [a, b, c] k2 pt2) pos) (tS X.K X.mg W (.par [i, j, k] l)) := by
  refine (ps_par3 hc hN hi hj hk hij hik hjk hx hy hz ha hw).weak fun D σ H ⟨C, F, s, r0, h⟩ => ⟨C, F, s, r0, ?_⟩
  refine (PostS.bind h).imp fun us F1 s1 H1 l1 r1 h1 vs d1 => ?_
  cases e : datas us with
  | none => rw [e] at h1; exact h1.elim
  | some xs =>
    rw [e] at h1
    have dn := datas_dn d1 e
    match xs, vs, dn, h1 with
    | [], _, _, h1 => exact h1.elim
    | [x1], _, _, h1 => exact h1.elim
    | [x1, x2], _, _, h1 => exact h1.elim
    | [x1, x2, x3], [v1, v2, v3], .cons e1 (.cons e2 (.cons e3 .nil)), h1 => exact ⟨v1, v2, v3, rfl, h1 F1 _ H1 (Le.refl _) (((r1.setD i e1).setD j e2).setD k e3)⟩
    | x1 :: x2 :: x3 :: x4 :: xs, _, _, h1 => exact h1.elim
end
end RD
set_option Elab.async false
set_option linter.all false
set_option maxRecDepth 100000
set_option maxHeartbeats 1000000
set_option maxHeartbeats 4000000
/-! RdN: blocks that pass the look do what they say; a def's promise. -/
namespace RD
open PySem L2
section
variable {N : List Str} {lv : Nat}
theorem XOk.tr {X : Cx} {sc raw : Scope} (o : XOk X N sc raw lv) (pn : List (Addr × Obj)) (xe : Value → Shared → Prop) : XOk (X.tr pn xe) N sc raw lv := ⟨o.hN, o.hsc, o.kind, o.nd, o.calm, o.room, o.blt, o.st⟩
structure SndS (N : List Str) (lv : Nat) (t : T) : Prop where
  hs : ∀ {sc : Scope} {X : Cx} {W : WX} {st : Stmt}, XOk X N sc sc lv → GoodX X lv t → Takes X W → StX X → chkS N sc t st = true → PS X st (tS X.K X.mg W t)
  hb : ∀ {sc : Scope} {X : Cx} {W : WX} {sts : List Stmt}, XOk X N sc sc lv → GoodX X lv t → Takes X W → StX X → chkB N sc t sts = true → PSs X sts (tS X.K X.mg W t)
theorem SndS.none {t : T} (h1 : ∀ sc st, chkS N sc t st ≠ true) (h2 : ∀ sc sts, chkB N sc t sts ≠ true) : SndS N lv t := ⟨fun _ _ _ _ h => absurd h (h1 _ _), fun _ _ _ _ h => absurd h (h2 _ _)⟩
theorem SndS.st {t : T} (hs : ∀ {sc : Scope} {X : Cx} {W : WX} {st : Stmt}, XOk X N sc sc lv → GoodX X lv t → Takes X W → StX X → chkS N sc t st = true → PS X st (tS X.K X.mg W t)) (h2 : ∀ sc sts, chkB N sc t sts ≠ true) : SndS N lv t :=
  ⟨hs, fun _ _ _ _ h => absurd h (h2 _ _)⟩
theorem comp_shape {sc raw : Scope} {own : List Nat} {g it c e : T} (m : Bool) (x : Expr) (h : chk N m sc raw (.comp own g it c e) x = true) : ∃ elt tg iter ifs scope pos, x = .ListComp elt [⟨tg, iter, ifs, 0⟩] scope pos ∧ blkC N sc scope (ownOf N own) = true ∧ (ownOf N own).map (·.2) = own ∧ (∀ i ∈ slotsT g, i ∈ own) ∧ (notSet iter = true ∧ tgOk it tg = true) ∧ chkI N sc raw it iter = true ∧
    chkG N (relS scope sc) scope g tg = true ∧ chkC N (relS scope sc) scope c ifs = true ∧ chk N false (relS scope sc) scope e elt = true := by
  cases x <;> first | cases h | skip
  rename_i elt gs scope pos
  match gs, h with
  | [⟨tg, iter, ifs, as⟩], h =>
    have h' : (decide (as = 0) && blkC N sc scope (ownOf N own) && decide ((ownOf N own).map (·.2) = own) && decide (∀ i ∈ slotsT g, i ∈ own) && (notSet iter && tgOk it tg) && chkI N sc raw it iter &&
      chkG N (relS scope sc) scope g tg && chkC N (relS scope sc) scope c ifs && chk N false (relS scope sc) scope e elt) = true := h
    simp only [Bool.and_eq_true] at h'
    obtain ⟨⟨⟨⟨⟨⟨⟨⟨h1, h2⟩, h3⟩, h4⟩, h5⟩, h6⟩, h7⟩, h8⟩, h9⟩ := h'
    have e1 : as = 0 := of_decide_eq_true h1
    subst e1
    exact ⟨_, _, _, _, _, _, rfl, h2, of_decide_eq_true h3, of_decide_eq_true h4, h5, h6, h7, h8, h9⟩
theorem comp_inv (m : Bool) {e : T} {sc raw : Scope} {elt : Expr} {gs : List Comprehension} {scope : Scope} {pos : Pos} (h : chk N m sc raw e (.ListComp elt gs scope pos) = true) : ∃ own g it c el, e = .comp own g it c el := by
  cases e with
  | comp own g it c el => exact ⟨_, _, _, _, _, rfl⟩
  | cst c => cases c <;> cases h
  | call x g a => cases a <;> cases h
  | idxOf l a b => cases l <;> cases h
  | ext ck f a b l => exact absurd (ext_inv h).1 Bool.false_ne_true
  | _ => cases h
theorem set_inv (m : Bool) {e : T} {sc raw : Scope} {elt : Expr} {gs : List Comprehension} {scope : Scope} {pos : Pos} (h : chk N m sc raw e (.SetComp elt gs scope pos) = true) : False := by
  cases e with
  | cst c => cases c <;> cases h
  | call x g a => cases a <;> cases h
  | idxOf l a b => cases l <;> cases h
  | ext ck f a b l => exact absurd (ext_inv h).1 Bool.false_ne_true
  | _ => cases h
theorem dict_inv (m : Bool) {e : T} {sc raw : Scope} {k elt : Expr} {gs : List Comprehension} {scope : Scope} {pos : Pos} (h : chk N m sc raw e (.DictComp k elt gs scope pos) = true) : False := by
  cases e with
  | cst c => cases c <;> cases h
  | call x g a => cases a <;> cases h
  | idxOf l a b => cases l <;> cases h
  | ext ck f a b l => exact absurd (ext_inv h).1 Bool.false_ne_true
  | _ => cases h
theorem notComp_inv {v : Expr} (h : ¬ notComp v = true) : (∃ elt gs scope pos, v = .ListComp elt gs scope pos) ∨ (∃ elt gs scope pos, v = .SetComp elt gs scope pos) ∨ ∃ k elt gs scope pos, v = .DictComp k elt gs scope pos := by
  cases v <;> first | exact absurd rfl h | exact .inl ⟨_, _, _, _, rfl⟩ | exact .inr (.inl ⟨_, _, _, _, rfl⟩) | exact .inr (.inr ⟨_, _, _, _, _, rfl⟩)
theorem app_noB {sc : Scope} {i : Nat} {e : T} {sts : List Stmt} : chkB N sc (.app i e) sts ≠ true := by
  intro h
  cases sts <;> cases h
/-- a comprehension stored in a name: by either road -/
theorem swaps_lc {X : Cx} {elt : Expr} {gs : List Comprehension} {scope : Scope} {pos py : Pos} {y : Str} {l : Nat} : ∃ b : Bool, swapsWith (.ListComp elt gs scope pos) (some (.Name y py)) l X.env = pure b ∧ (b = true → X.env.kindOf y = some .local) := by
  refine ⟨X.env.blockKind == .function && X.env.kindOf y == some .local && py.line == pos.line && !(scope.names.any fun (n, k) => n == y && (k == .local || k == .cell)), rfl, fun h => ?_⟩
  simp only [Bool.and_eq_true] at h
  exact beq_iff_eq.mp h.1.1.2
theorem gname_inv {sc raw : Scope} {g : T} {y : Str} {p : Pos} (h : chkG N sc raw g (.Name y p) = true) : ∃ i, g = .tname i := by
  cases g with
  | tname i => exact ⟨i, rfl⟩
  | _ => cases h
theorem snds_asg (g e : T) : SndS N lv (.asg g e) := .st (by
  intro sc X W st o gd tk hp h
  cases st <;> first | cases h | skip
  rename_i tgs v pos
  match tgs, h with
  | [tg], h =>
    have h' : (asgOk sc tg v && notStar tg && chkG N sc sc g tg && chk N false sc sc e v) = true := h
    simp only [Bool.and_eq_true] at h'
    obtain ⟨⟨⟨h1, h2⟩, h3⟩, h4⟩ := h'
    have pe := (sndE e).he o gd tk h4
    have pg := (sndE (lv := lv) g).hg o h3
    have hst := stores_of o.hsc o.kind h1
    have hea : (assignEach [tg] X.env).map (·.2) = [assign tg X.env] := asgEach_of h2
    by_cases hc : notComp v = true
    · exact ss_asg pe pg (swaps_of hc) hst hea
    · -- a comprehension
      obtain ⟨el0, gs0, sc0, ps0, rfl⟩ | ⟨_, _, _, _, rfl⟩ | ⟨_, _, _, _, _, rfl⟩ := notComp_inv hc
      rotate_left
      · exact (set_inv _ h4).elim
      · exact (dict_inv _ h4).elim
      obtain ⟨own, gg, it, c, el, rfl⟩ := comp_inv _ h4
      obtain ⟨elt', tgc, iter, ifs, scope', p', ex, q2, q3, q4, q5, q6, q7, q8, q9⟩ := comp_shape _ _ h4
      cases ex
      cases tg <;> first | (refine ss_asg pe pg ?_ hst hea; rfl) | skip
      rename_i y py
      obtain ⟨b, hb, hl⟩ := swaps_lc (X := X) (elt := el0) (gs := [⟨tgc, iter, ifs, 0⟩]) (scope := sc0) (pos := ps0) (py := py) (y := y) (l := pos.line)
      cases b with
      | false => exact ss_asg pe pg hb hst hea
      | true =>
        have ok := blkOk_by q2
        have okX : BlkOk X.N X.env.scope sc0 (ownOf N own) := by
          rw [o.hN, o.hsc]
          exact ok
        have hN : X.N.Nodup := by rw [o.hN]; exact o.nd
        obtain ⟨i, rfl⟩ := gname_inv h3
        have h3' : (decide (N[i]? = some y) && stB sc y) = true := h3
        rw [Bool.and_eq_true] at h3'
        have r := ss_asgLc (W := W) (it := it) (a := el) (c := c) (g := gg) (tt := tXT X.K X.mg W0 c) (pos := ps0) o.calm hN (o.ix h3'.1) (hl rfl) hb ((sndE it).hi (tg := tgc) o gd.1 tk q6 q5.2) okX (fun s H C cl fp => (sndE (lv := lv) gg).hg (o.blk ok s H C cl fp) q7) (fun s H C cl fp => (sndE c).hc (W := W0) (o.blk ok s H C cl fp) gd.2.1 takesF q8)
          (fun s H C cl fp => (sndE el).he (W := W0) (o.blk ok s H C cl fp) gd.2.2 takesF q9) (folded_of q5.1) (by rw [q3]; exact q4) fun _ _ _ z => z
        rw [q3] at r
        exact r) (fun _ x h => by cases x <;> cases h)
theorem snds_asgO (i : Nat) (e : T) : SndS N lv (.asgO i e) := .st (by
  intro sc X W st o gd tk hp h
  have hN : X.N.Nodup := by rw [o.hN]; exact o.nd
  cases st <;> first | (cases e <;> first | cases h | (rename_i op _ _; cases op <;> cases h)) | skip
  rename_i tgs v pos
  cases e <;> first | (match tgs, v, h with | _, _, h => cases h) | skip
  · -- +
    rename_i op a b
    cases op <;> first | cases h | skip
    match tgs, v, h with
    | [.Name y p], .BinOp ea .Add eb p2, h =>
      have h' : (decide (N[i]? = some y) && stB sc y && chk N false sc sc a ea && chk N false sc sc b eb) = true := h
      simp only [Bool.and_eq_true] at h'
      exact ss_asgO_add hN (o.ix h'.1.1.1) (o.loc h'.1.1.2).1 (o.loc h'.1.1.2).2 ((sndE a).he o gd.1 tk h'.1.2) ((sndE b).he o gd.2 tk h'.2)
  · rename_i l
    match tgs, v, h with
    | [.Name y p], .List es p2, h =>
      have h' : (decide (N[i]? = some y) && stB sc y && chkA N sc sc l es) = true := h
      simp only [Bool.and_eq_true] at h'
      exact ss_asgO hN (o.ix h'.1.1) (o.loc h'.1.2).1 (o.loc h'.1.2).2 ((sndE l).ha o gd tk h'.2)
  · rename_i own gg it c el
    match tgs, v, h with
    | [.Name y py], .ListComp elt gs scope p, h =>
      have h' : (decide (N[i]? = some y) && stB sc y && chk N false sc sc (.comp own gg it c el) (.ListComp elt gs scope p)) = true := h
      simp only [Bool.and_eq_true] at h'
      obtain ⟨elt', tgc, iter, ifs, scope', p', ex, q2, q3, q4, q5, q6, q7, q8, q9⟩ := comp_shape _ _ h'.2
      cases ex
      have ok := blkOk_by q2
      have okX : BlkOk X.N X.env.scope scope (ownOf N own) := by
        rw [o.hN, o.hsc]
        exact ok
      obtain ⟨b, hb, hl⟩ := swaps_lc (X := X) (elt := elt) (gs := [⟨tgc, iter, ifs, 0⟩]) (scope := scope) (pos := p) (py := py) (y := y) (l := pos.line)
      have hI := (sndE it).hi (tg := tgc) o gd.1 tk q6 q5.2
      have hG := fun (s : Shared) (H : Hp) (C : Addr) (cl : List (Str × Addr)) (fp : List Addr) => (sndE (lv := lv) gg).hg (o.blk ok s H C cl fp) q7
      have hC := fun (s : Shared) (H : Hp) (C : Addr) (cl : List (Str × Addr)) (fp : List Addr) => (sndE c).hc (W := W0) (o.blk ok s H C cl fp) gd.2.1 takesF q8
      have hE := fun (s : Shared) (H : Hp) (C : Addr) (cl : List (Str × Addr)) (fp : List Addr) => (sndE el).he (W := W0) (o.blk ok s H C cl fp) gd.2.2 takesF q9
      cases b with
      | false =>
        have pe := pe_lc (g := tXG X.K gg) (elt := elt) (scope := scope) (ifs := ifs) (te := tX X.K X.mg W0 el) (tt := tXT X.K X.mg W0 c) (pos := p) o.calm hN hI okX hG hC hE (folded_of q5.1)
        rw [q3] at pe
        exact (ps_set hN (o.ix h'.1.1) (o.loc h'.1.2).1 pe hb (o.loc h'.1.2).2).weak fun D σ H q => asgO_comp q4 (fun _ _ _ z => z) q
      | true =>
        have pe := ps_setLc (g := tXG X.K gg) (elt := elt) (scope := scope) (ifs := ifs) (te := tX X.K X.mg W0 el) (tt := tXT X.K X.mg W0 c) (pos := p) o.calm hN (o.ix h'.1.1) (hl rfl) hb hI okX hG hC hE (folded_of q5.1)
        rw [q3] at pe
        exact pe.weak fun D σ H q => asgO_comp q4 (fun _ _ _ z => z) q
  · rename_i j
    match tgs, v, h with
    | [.Name y p], .Call (.Name f fp) [.Name x xp] [] p2, h =>
      have h' : (decide (N[i]? = some y) && stB sc y && (f == ("list" : Str)) && glB sc f && decide (N[j]? = some x) && visB sc x) = true := h
      simp only [Bool.and_eq_true] at h'
      obtain ⟨⟨⟨⟨⟨h1, h2⟩, h3⟩, h4⟩, h5⟩, h6⟩ := h'
      have e1 : f = ("list" : Str) := eq_of_beq h3
      subst e1
      obtain ⟨v1, v2, v3⟩ := vis_of h6
      exact ss_asgO_keys o.calm o.blt (o.gl h4).1 hN (o.ix h1) (o.loc h2).1 (o.loc h2).2 (o.ix h5) (by rw [o.hsc]; exact v1) v2 v3) (fun _ x h => by cases x <;> cases h)
theorem par_inv (is : List Nat) {l : T} {sc : Scope} {st : Stmt} (h : chkS N sc (.par is l) st = true) : ∃ ts kt pt vs k2 pt2 pos, st = .Assign [.Tuple ts kt pt] (.Tuple vs k2 pt2) pos := by
  replace h : chk_par N sc is l st = true := h
  unfold chk_par at h
  split at h <;> first | exact ⟨_, _, _, _, _, _, _, rfl⟩ | (rename_i q; cases q) | cases h
theorem snds_par (is : List Nat) (l : T) : SndS N lv (.par is l) := .st (by
  intro sc X W st o gd tk hp h
  have hN : X.N.Nodup := by rw [o.hN]; exact o.nd
  have hloc : ∀ {x : Str}, decide (sc.names.lookup x = some .local) = true → X.env.scope.names.lookup x = some .local := fun {x} q => by
    rw [o.hsc]
    exact of_decide_eq_true q
  match is, h with
  | [], h => cases st <;> cases h
  | [_], h => cases st <;> cases h
  | _ :: _ :: _ :: _ :: _, h => cases st <;> cases h
  | [i, j], h =>
    obtain ⟨ts, kt, pt, vs, k2, pt2, pos, rfl⟩ := par_inv _ h
    (
      match ts, vs, h with
      | [.Name x px, .Name y py], [a, b], h =>
        have h' : (decide (i ≠ j) && decide (N[i]? = some x) && decide (N[j]? = some y) && decide (sc.names.lookup x = some .local) && decide (sc.names.lookup y = some .local) &&
          decide (swapRes sc [.Name x px, .Name y py] [a, b] = some (some [x, y])) && chkA N sc sc l [a, b]) = true := h
        simp only [Bool.and_eq_true] at h'
        obtain ⟨⟨⟨⟨⟨⟨h1, h2⟩, h3⟩, h4⟩, h5⟩, h6⟩, h7⟩ := h'
        exact ss_par2 o.calm hN (o.ix h2) (o.ix h3) (of_decide_eq_true h1) (hloc h4) (hloc h5) ((sndE l).ha o gd tk h7) (swapped_of o.hsc o.kind (of_decide_eq_true h6)))
  | [i, j, k], h =>
    obtain ⟨ts, kt, pt, vs, k2, pt2, pos, rfl⟩ := par_inv _ h
    (
      match ts, vs, h with
      | [.Name x px, .Name y py, .Name z pz], [a, b, c], h =>
        have h' : (decide (i ≠ j) && decide (i ≠ k) && decide (j ≠ k) && decide (N[i]? = some x) && decide (N[j]? = some y) && decide (N[k]? = some z) &&
          decide (sc.names.lookup x = some .local) && decide (sc.names.lookup y = some .local) && decide (sc.names.lookup z = some .local) && decide (swapRes sc [.Name x px, .Name y py, .Name z pz] [a, b, c] = some (some [x, y, z])) && chkA N sc sc l [a, b, c]) = true := h
        simp only [Bool.and_eq_true] at h'
        obtain ⟨⟨⟨⟨⟨⟨⟨⟨⟨⟨a1, a2⟩, a3⟩, h1⟩, h2⟩, h3⟩, h4⟩, h5⟩, h6⟩, h7⟩, h8⟩ := h'
        exact ss_par3 o.calm hN (o.ix h1) (o.ix h2) (o.ix h3) (of_decide_eq_true a1) (of_decide_eq_true a2) (of_decide_eq_true a3) (hloc h4) (hloc h5) (hloc h6) ((sndE l).ha o gd tk h8) (swapped_of o.hsc o.kind (of_decide_eq_true h7)))) (fun _ x h => by cases x <;> cases h)
theorem snds_parL (i j : Nat) (a : T) : SndS N lv (.parL i j a) := .st (by
  intro sc X W st o gd tk hp h
  have hN : X.N.Nodup := by rw [o.hN]; exact o.nd
  have hloc : ∀ {x : Str}, decide (sc.names.lookup x = some .local) = true → X.env.scope.names.lookup x = some .local := fun {x} q => by
    rw [o.hsc]
    exact of_decide_eq_true q
  replace h : chk_parL N sc i j a st = true := h
  unfold chk_parL at h
  split at h <;> first | (rename_i q; cases q; done) | cases h | skip
  rename_i q
  cases q
  simp only [Bool.and_eq_true] at h
  obtain ⟨⟨⟨⟨⟨⟨⟨h1, h2⟩, h3⟩, h4⟩, h5⟩, h6⟩, h7⟩, h8⟩ := h
  exact ss_parL o.calm hN (o.ix h2) (o.ix h3) (of_decide_eq_true h1) (hloc h4) (hloc h5) ((sndE a).he o gd tk h8) (fun es => star_of h7) (swapped_of o.hsc o.kind (of_decide_eq_true h6))) (fun _ x h => by cases x <;> cases h)
theorem snds_parR (i j : Nat) (a : T) : SndS N lv (.parR i j a) := .st (by
  intro sc X W st o gd tk hp h
  have hN : X.N.Nodup := by rw [o.hN]; exact o.nd
  have hloc : ∀ {x : Str}, decide (sc.names.lookup x = some .local) = true → X.env.scope.names.lookup x = some .local := fun {x} q => by
    rw [o.hsc]
    exact of_decide_eq_true q
  replace h : chk_parR N sc i j a st = true := h
  unfold chk_parR at h
  split at h <;> first | (rename_i q; cases q; done) | cases h | skip
  rename_i q
  cases q
  simp only [Bool.and_eq_true] at h
  obtain ⟨⟨⟨⟨⟨⟨⟨h1, h2⟩, h3⟩, h4⟩, h5⟩, h6⟩, h7⟩, h8⟩ := h
  exact ss_parR o.calm hN (o.ix h2) (o.ix h3) (of_decide_eq_true h1) (hloc h4) (hloc h5) ((sndE a).he o gd tk h8) (star_of h7) (swapped_of o.hsc o.kind (of_decide_eq_true h6))) (fun _ x h => by cases x <;> cases h)
theorem snds_app (i : Nat) (e : T) : SndS N lv (.app i e) := .st (by
  intro sc X W st o gd tk hp h
  cases st <;> first | cases h | skip
  rename_i v pos
  cases v <;> first | cases h | skip
  rename_i fn args kws cpos
  cases fn <;> first | cases h | skip
  rename_i ob at_ apos
  cases ob <;> first | cases h | skip
  rename_i y py
  match args, h with
  | [], h => cases h
  | _ :: _ :: _, h => cases h
  | [v], h =>
    cases kws with
    | cons _ _ => cases h
    | nil =>
      have h' : ((at_ == ("append" : Str)) && decide (N[i]? = some y) && visB sc y && (apos.endLine == cpos.line) && notStar v && chk N false sc sc e v) = true := h
      simp only [Bool.and_eq_true] at h'
      obtain ⟨⟨⟨⟨⟨h1, h2⟩, h3⟩, h4⟩, h5⟩, h6⟩ := h'
      have e1 : at_ = "append" := eq_of_beq h1
      subst e1
      obtain ⟨v1, v2, v3⟩ := vis_of h3
      exact ss_app (o.ix h2) (by rw [o.hsc]; exact v1) v2 v3 ((sndE e).he o gd tk h6) (star_of h5) h4) (fun _ _ => app_noB)
theorem bagged_inv {i : Nat} {x : Str} {g : G} {a r : T} {sc : Scope} {sts : List Stmt} (h : chkB N sc (.bagged i x g a r) sts = true) : ∃ y p2 f p e es pos pos2 ss, sts = .Assign [.Name y p2] (.Call (.Name f p) (e :: es) [] pos) pos2 :: ss := by
  unfold chkB at h
  split at h <;> first | exact ⟨_, _, _, _, _, _, _, _, _, rfl⟩ | (rename_i q; cases q) | cases h
theorem bset_inv {i j : Nat} {a : T} {sc : Scope} {st : Stmt} (h : chkS N sc (.bset i j a) st = true) : ∃ y py n p2 pt e pos, st = .Assign [.Subscript (.Name y py) (.Constant (.int (j : Int)) n p2) pt] e pos ∧ j ≤ 1 ∧ decide (N[i]? = some y) = true ∧ visB sc y = true ∧ notComp e = true ∧ chk N false sc sc a e = true := by
  cases st with
  | Assign tgs e pos =>
    cases tgs with
    | nil => cases h
    | cons tg r =>
      cases tg with
      | Subscript en ix pt =>
        cases en with
        | Name y py =>
          cases ix with
          | Constant c n p2 =>
            cases c with
            | int k =>
              cases r with
              | nil =>
                have h' : (decide (k = (j : Int)) && decide (j ≤ 1) && decide (N[i]? = some y) && visB sc y && notComp e && chk N false sc sc a e) = true := h
                simp only [Bool.and_eq_true] at h'
                obtain ⟨⟨⟨⟨⟨h1, h2⟩, h3⟩, h4⟩, h5⟩, h6⟩ := h'
                have e1 := of_decide_eq_true h1
                subst e1
                exact ⟨_, _, _, _, _, _, _, rfl, of_decide_eq_true h2, h3, h4, h5, h6⟩
              | cons _ _ => cases h
            | _ => cases h
          | _ => cases h
        | _ => cases h
      | _ => cases h
  | _ => cases h
theorem snds_parDL (i j : Nat) : SndS N lv (.parDL i j) := .st (by
  intro sc X W st o gd tk hp h
  have hN : X.N.Nodup := by rw [o.hN]; exact o.nd
  have hloc : ∀ {x : Str}, decide (sc.names.lookup x = some .local) = true → X.env.scope.names.lookup x = some .local := fun {x} q => by
    rw [o.hsc]
    exact of_decide_eq_true q
  replace h : chk_parDL N sc i j st = true := h
  unfold chk_parDL at h
  split at h <;> first | (rename_i q; cases q; done) | cases h | skip
  rename_i q
  cases q
  simp only [Bool.and_eq_true] at h
  obtain ⟨⟨⟨⟨⟨h1, h2⟩, h3⟩, h4⟩, h5⟩, h6⟩ := h
  exact ss_parDL o.calm hN (o.ix h2) (o.ix h3) (of_decide_eq_true h1) (hloc h4) (hloc h5) (swapped_of o.hsc o.kind (of_decide_eq_true h6))) (fun _ x h => by cases x <;> cases h)
theorem snds_putDN (i : Nat) (a : T) (j : Nat) (v w : T) : SndS N lv (.putDN i a j v w) := .st (by
  intro sc X W st o gd tk hp h
  have hN : X.N.Nodup := by rw [o.hN]; exact o.nd
  replace h : chk_putDN N sc i a j v w st = true := h
  unfold chk_putDN at h
  split at h <;> first | (rename_i q; cases q; done) | cases h | skip
  rename_i q
  cases q
  simp only [Bool.and_eq_true] at h
  obtain ⟨⟨⟨⟨⟨⟨⟨⟨⟨h1, h2⟩, h3⟩, h4⟩, h5⟩, h6⟩, h7⟩, h8⟩, h9⟩, h10⟩ := h
  obtain ⟨v1, v2, v3⟩ := vis_of h2
  exact ss_putDN o.calm (by have := o.u65; omega) hN (o.ix h1) (by rw [o.hsc]; exact v1) v2 v3 (o.ix h3) (o.loc h4).1 (o.loc h4).2 ((sndE a).he o gd.1 tk h8) ((sndE v).he o gd.2.1 tk h9) ((sndE w).he o gd.2.2 tk h10) ((star_of h5).trans (congrArg _ (star_of h6))) (star_of h6) (swapped_of o.hsc o.kind (of_decide_eq_true h7))) (fun _ x h => by cases x <;> cases h)
theorem snds_par3D (i j k : Nat) (a b : T) : SndS N lv (.par3D i j k a b) := .st (by
  intro sc X W st o gd tk hp h
  have hN : X.N.Nodup := by rw [o.hN]; exact o.nd
  have hloc : ∀ {x : Str}, decide (sc.names.lookup x = some .local) = true → X.env.scope.names.lookup x = some .local := fun {x} q => by
    rw [o.hsc]
    exact of_decide_eq_true q
  replace h : chk_par3D N sc i j k a b st = true := h
  unfold chk_par3D at h
  split at h <;> first | (rename_i q; cases q; done) | cases h | skip
  rename_i q
  cases q
  simp only [Bool.and_eq_true] at h
  obtain ⟨⟨⟨⟨⟨⟨⟨⟨⟨⟨⟨⟨⟨h1, h2⟩, h3⟩, h4⟩, h5⟩, h6⟩, h7⟩, h8⟩, h9⟩, h10⟩, h11⟩, h12⟩, h13⟩, h14⟩ := h
  exact ss_par3D o.calm hN (o.ix h4) (o.ix h5) (o.ix h6) (of_decide_eq_true h1) (of_decide_eq_true h2) (of_decide_eq_true h3) (hloc h7) (hloc h8) (hloc h9) ((sndE a).he o gd.1 tk h13) ((sndE b).he o gd.2 tk h14) (fun es => star_of h11) (fun es => star_of h12) (swapped_of o.hsc o.kind (of_decide_eq_true h10))) (fun _ x h => by cases x <;> cases h)
theorem snds_asg4D (i j k l : Nat) (a b c : T) : SndS N lv (.asg4D i j k l a b c) := .st (by
  intro sc X W st o gd tk hp h
  have hN : X.N.Nodup := by rw [o.hN]; exact o.nd
  replace h : chk_asg4D N sc i j k l a b c st = true := h
  unfold chk_asg4D at h
  split at h <;> first | (rename_i q; cases q; done) | cases h | skip
  rename_i q
  cases q
  simp only [Bool.and_eq_true] at h
  obtain ⟨⟨⟨⟨⟨⟨⟨⟨⟨⟨⟨⟨⟨⟨h1, h2⟩, h3⟩, h4⟩, h5⟩, h6⟩, h7⟩, h8⟩, h9⟩, h10⟩, h11⟩, h12⟩, h13⟩, h14⟩, h15⟩ := h
  exact ss_asg4D o.calm hN (o.ix h1) (o.ix h3) (o.ix h5) (o.ix h7) (o.loc h2) (o.loc h4) (o.loc h6) (o.loc h8) ((sndE a).he o gd.1 tk h13) ((sndE b).he o gd.2.1 tk h14) ((sndE c).he o gd.2.2 tk h15) (fun es => star_of h10) (fun es => star_of h11) (fun es => star_of h12) (swapped_of o.hsc o.kind (of_decide_eq_true h9))) (fun _ x h => by cases x <;> cases h)
theorem snds_parD1 (i : Nat) (k v : T) (j : Nat) (own : Bool) (e : T) : SndS N lv (.parD1 i k v j own e) := .st (by
  intro sc X W st o gd tk hp h
  have hN : X.N.Nodup := by rw [o.hN]; exact o.nd
  have hloc : ∀ {x : Str}, decide (sc.names.lookup x = some .local) = true → X.env.scope.names.lookup x = some .local := fun {x} q => by
    rw [o.hsc]
    exact of_decide_eq_true q
  replace h : chk_parD1 N sc i k v j own e st = true := h
  unfold chk_parD1 at h
  split at h <;> first | (rename_i q; cases q; done) | cases h | skip
  rename_i q
  cases q
  simp only [Bool.and_eq_true] at h
  obtain ⟨⟨⟨⟨⟨⟨⟨⟨⟨h1, h2⟩, h3⟩, h4⟩, h5⟩, h6⟩, h7⟩, h8⟩, h9⟩, h10⟩ := h
  exact ss_parD1 o.calm (by have := o.u65; omega) hN (o.ix h2) (o.ix h3) (of_decide_eq_true h1) (hloc h4) (hloc h5) ((sndE k).he o gd.1 tk h8) ((sndE v).he o gd.2.1 tk h9) ((sndE e).he o gd.2.2 tk h10) (star_of h7) (swapped_of o.hsc o.kind (of_decide_eq_true h6))) (fun _ x h => by cases x <;> cases h)
theorem parDC_inv {i j : Nat} {cc : T} {sc : Scope} {st : Stmt} (h : chk_parDC N sc i j cc st = true) : ∃ own g it c e x px y py kt pt pd elt gs scope pl k2 pt2 pos, cc = .comp own g it c e ∧ st = .Assign [.Tuple [.Name x px, .Name y py] kt pt] (.Tuple [.Dict [] [] pd, .ListComp elt gs scope pl] k2 pt2) pos ∧
    (decide (i ≠ j) && decide (N[i]? = some x) && decide (N[j]? = some y) && decide (sc.names.lookup x = some .local) && decide (sc.names.lookup y = some .local) && decide (swapRes sc [.Name x px, .Name y py] [.Dict [] [] pd, .ListComp elt gs scope pl] = some (some [x, y])) && chk N false sc sc (.comp own g it c e) (.ListComp elt gs scope pl)) = true := by
  unfold chk_parDC at h
  split at h
  · exact ⟨_, _, _, _, _, _, _, _, _, _, _, _, _, _, _, _, _, _, _, rfl, rfl, h⟩
  · cases h
theorem snds_parDC (i j : Nat) (cc : T) : SndS N lv (.parDC i j cc) := .st (by
  intro sc X W st o gd tk hp h
  have hN : X.N.Nodup := by rw [o.hN]; exact o.nd
  have hloc : ∀ {x : Str}, decide (sc.names.lookup x = some .local) = true → X.env.scope.names.lookup x = some .local := fun {x} q => by
    rw [o.hsc]
    exact of_decide_eq_true q
  obtain ⟨own, gg, it, c, el, x, px, y, py, kt, pt, pd, elt, gs, scope, pl, k2, pt2, pos, rfl, rfl, hh⟩ := parDC_inv h
  simp only [Bool.and_eq_true] at hh
  obtain ⟨⟨⟨⟨⟨⟨h1, h2⟩, h3⟩, h4⟩, h5⟩, h6⟩, h7⟩ := hh
  obtain ⟨elt', tgc, iter, ifs, scope', p', ex, q2, q3, q4, q5, q6, q7, q8, q9⟩ := comp_shape _ _ h7
  cases ex
  have ok := blkOk_by q2
  have okX : BlkOk X.N X.env.scope scope (ownOf N own) := by
    rw [o.hN, o.hsc]
    exact ok
  have hI := (sndE it).hi (tg := tgc) o gd.1 tk q6 q5.2
  have hG := fun (s : Shared) (H : Hp) (C : Addr) (cl : List (Str × Addr)) (fp : List Addr) => (sndE (lv := lv) gg).hg (o.blk ok s H C cl fp) q7
  have hC := fun (s : Shared) (H : Hp) (C : Addr) (cl : List (Str × Addr)) (fp : List Addr) => (sndE c).hc (W := W0) (o.blk ok s H C cl fp) gd.2.1 takesF q8
  have hE := fun (s : Shared) (H : Hp) (C : Addr) (cl : List (Str × Addr)) (fp : List Addr) => (sndE el).he (W := W0) (o.blk ok s H C cl fp) gd.2.2 takesF q9
  have pe := ss_parDC (W := W) (g := gg) (e := el) (it := it) (c := c) (kt := kt) (pt := pt) (pt2 := pt2) (k2 := k2) (pos := pos) (px := px) (py := py) (pd := pd) (pl := pl) (tt := tXT X.K X.mg W0 c) o.calm hN (o.ix h2) (o.ix h3) (of_decide_eq_true h1) (hloc h4) (hloc h5) hI okX hG hC hE (folded_of q5.1) (by rw [q3]; exact q4) (fun _ _ _ z => z) (swapped_of o.hsc o.kind (of_decide_eq_true h6))
  rw [q3] at pe
  exact pe) (fun _ x h => by cases x <;> cases h)
theorem snds_newD (i : Nat) : SndS N lv (.newD i) := .st (by
  intro sc X W st o gd tk hp h
  have hN : X.N.Nodup := by rw [o.hN]; exact o.nd
  cases st <;> first | cases h | skip
  rename_i tgs v pos
  match tgs, v, h with
  | [.Name y p], .Dict [] [] p1, h =>
    have h' : (decide (N[i]? = some y) && stB sc y) = true := h
    simp only [Bool.and_eq_true] at h'
    exact ss_newD hN (o.ix h'.1) (o.loc h'.2).1 (o.loc h'.2).2) (fun _ x h => by cases x <;> cases h)
theorem snds_putD (i : Nat) (a v : T) : SndS N lv (.putD i a v) := .st (by
  intro sc X W st o gd tk hp h
  cases st <;> first | cases h | skip
  rename_i tgs e pos
  match tgs, h with
  | [.Subscript (.Name y py) ea pt], h =>
    have h' : (decide (N[i]? = some y) && visB sc y && notComp e && chk N false sc sc a ea && chk N false sc sc v e) = true := h
    simp only [Bool.and_eq_true] at h'
    obtain ⟨⟨⟨⟨h1, h2⟩, h3⟩, h4⟩, h5⟩ := h'
    obtain ⟨v1, v2, v3⟩ := vis_of h2
    exact ss_putD (by have := o.u65; omega) (o.ix h1) (by rw [o.hsc]; exact v1) v2 v3 ((sndE a).he o gd.1 tk h4) ((sndE v).he o gd.2 tk h5) (swaps_of h3)) (fun _ x h => by cases x <;> cases h)
theorem raise_inv {x : Str} {a : T} {sc : Scope} {st : Stmt} (h : chkS N sc (.raise x a) st = true) : ∃ p m j p2 pos2 pos, st = .Raise (some (.Call (.Name x p) [.Constant (.str m) j p2] [] pos2)) none pos ∧ glB sc x = true := by
  replace h : chk_raise N sc x a st = true := h
  unfold chk_raise at h
  split at h <;> first | (rename_i q _; cases q; done) | (rename_i q; cases q; done) | cases h | skip
  all_goals (
    rename_i q
    cases q
    rw [Bool.and_eq_true] at h
    have e1 := of_decide_eq_true h.1
    subst e1
    exact ⟨_, _, _, _, _, _, rfl, h.2⟩)
theorem tryR_inv {x z : Str} {a : T} {sc : Scope} {st : Stmt} (h : chkS N sc (.tryR x a z) st = true) : ∃ e p1 p2 j p3 p4 p5 pos, st = .Try [.Return (some e) p1] [.ExceptHandler (some (.Name x p2)) none [.Return (some (.Constant (.str z) j p3)) p4] p5] [] [] pos ∧ glB sc x = true ∧ chk N false sc sc a e = true := by
  replace h : chk_tryR N sc x a z st = true := h
  unfold chk_tryR at h
  split at h <;> first | (rename_i q _; cases q; done) | (rename_i q; cases q; done) | cases h | skip
  all_goals (
    rename_i q
    cases q
    simp only [Bool.and_eq_true] at h
    obtain ⟨⟨⟨h1, h2⟩, h3⟩, h4⟩ := h
    have e1 := of_decide_eq_true h1
    have e2 := of_decide_eq_true h3
    subst e1 e2
    exact ⟨_, _, _, _, _, _, _, _, rfl, h2, h4⟩)
theorem swapsSole_of {e : Expr} {tgs : List Expr} {l : Nat} {env : Env} (h : notComp e = true) : swapsWithSole tgs e l env = pure false := by
  cases tgs with
  | nil => cases e <;> first | rfl | cases h
  | cons t r => cases r <;> (cases e <;> first | rfl | cases h)
theorem snds_bset (i j : Nat) (a : T) : SndS N lv (.bset i j a) := .st (by
  intro sc X W st o gd tk hp h
  obtain ⟨y, py, n, p2, pt, e, pos, rfl, h1, h2, h3, h4, h5⟩ := bset_inv h
  obtain ⟨v1, v2, v3⟩ := vis_of h3
  exact ss_bset h1 (o.ix h2) (by rw [o.hsc]; exact v1) v2 v3 ((sndE a).he o gd tk h5) (swapsSole_of h4)) (fun _ x h => by cases x <;> cases h)
theorem snds_exs (ck : CkS) (f : FnS) (a l b c : T) (ihb : SndS N lv b) (ihc : SndS N lv c) : SndS N lv (.exs ck f a l b c) := .st (by
  intro sc X W st o gd tk hp h
  have h' : (match ck N sc st with
    | some q => (match q.1 with
      | some ea => chk N false sc sc a ea
      | none => true) && chkA N sc sc l q.2.1 && chkB N sc b q.2.2.1 && chkB N sc c q.2.2.2
    | none => false) = true := by first | exact h | (cases st <;> exact h)
  split at h'
  · rename_i q e
    obtain ⟨oa, es, bs, cs⟩ := q
    simp only [Bool.and_eq_true] at h'
    obtain ⟨⟨⟨h1, h2⟩, h3⟩, h4⟩ := h'
    have gd' : ∀ {X' : Cx} {t : T}, Isx X.prog X.w X.K X.mg X.base X' → GoodX X lv t → GoodX X' lv t := fun {X' t} i' gt => by
      obtain ⟨e1, e2, e3, e4, e5⟩ := i'
      show Good X'.prog X'.w X'.K X'.mg X'.base lv t
      rw [e1, e2, e3, e4, e5]
      exact gt
    refine gd.1 ⟨rfl, rfl, rfl, rfl, rfl⟩ o tk hp e (fun {X' W'} i' o' tk' ea ee => (sndE a).he o' (gd' i' gd.2.1) tk' ?_) (fun {X' W'} i' o' tk' => (sndE l).ha o' (gd' i' gd.2.2.1) tk' h2) (chkA_all _ _ h2).1
      (fun {X' W'} i' o' tk' hp' => ihb.hb o' (gd' i' gd.2.2.2.1) tk' hp' h3) (fun {X' W'} i' o' tk' hp' => ihc.hb o' (gd' i' gd.2.2.2.2) tk' hp' h4)
    subst ee
    exact h1
  · cases h') (fun _ x h => by cases x <;> cases h)
theorem sndS : ∀ t : T, SndS N lv t := by
  intro t
  induction t with
  | nil => exact ⟨fun {sc X W st} _ _ _ _ h => (by cases st <;> cases h), fun {sc X W sts} o gd tk hp h => by
      cases sts with
      | nil => exact ss_nil
      | cons _ _ => cases h⟩
  | seq a r iha ihr => exact ⟨fun {sc X W st} _ _ _ _ h => (by cases st <;> cases h), fun {sc X W sts} o gd tk hp h => by
      cases sts with
      | nil => cases h
      | cons s ss =>
        have h' : (chkS N sc a s && chkB N sc r ss) = true := h
        rw [Bool.and_eq_true] at h'
        exact ss_cons (iha.hs o gd.1 tk hp h'.1) (ihr.hb o gd.2 tk hp h'.2)⟩
  | exs ck f a l b c _ _ ihb ihc => exact snds_exs ck f a l b c ihb ihc
  | bagged i x g a r iha ihr => exact ⟨fun {sc X W st} _ _ _ _ h => (by cases st <;> cases h), fun {sc X W sts} o gd tk hp h => by
      have hN : X.N.Nodup := by rw [o.hN]; exact o.nd
      obtain ⟨y, p2, f, p, e, es, pos, pos2, ss, rfl⟩ := bagged_inv h
      (
        have h' : (decide (N[i]? = some y) && stB sc y && decide (x = f) && glB sc f && chkA N sc sc a (e :: es) && chkB N sc r ss) = true := h
        simp only [Bool.and_eq_true] at h'
        obtain ⟨⟨⟨⟨⟨h1, h2⟩, h3⟩, h4⟩, h5⟩, h6⟩ := h'
        have e1 : x = f := of_decide_eq_true h3
        subst e1
        obtain ⟨⟨fa, fd, ps, k, hk, hn, hm, hkp, hb, F⟩, gd2, gd3⟩ := gd
        obtain ⟨q1, q2⟩ := chkA_all _ _ h5
        rw [List.all_cons, Bool.and_eq_true] at q1
        exact ss_bagged F (o.room.mono hk) (o.gl h4).1 hm hkp hb tk ((sndE a).ha o gd2 tk h5) (o.gl h4).2 (star_of q1.1) (back_of q1.2) (by rw [q2, hn]) (fun s us s' hs => by rw [evA_len a s us s' hs, q2]) hN (o.ix h1) (o.loc h2).1 (o.loc h2).2 (ihr.hb o gd3 tk hp h6))⟩
  | asg g e _ _ => exact snds_asg g e
  | asgO i e _ => exact snds_asgO i e
  | parL i j a _ => exact snds_parL i j a
  | parR i j a _ => exact snds_parR i j a
  | par is l _ => exact snds_par is l
  | newD i => exact snds_newD i
  | parDL i j => exact snds_parDL i j
  | putDN i a j v w _ _ _ => exact snds_putDN i a j v w
  | par3D i j k a b _ _ => exact snds_par3D i j k a b
  | asg4D i j k l a b c _ _ _ => exact snds_asg4D i j k l a b c
  | parD1 i k v j own e _ _ _ => exact snds_parD1 i k v j own e
  | parDC i j c _ => exact snds_parDC i j c
  | putD i a v _ _ => exact snds_putD i a v
  | app i e _ => exact snds_app i e
  | bset i j e _ => exact snds_bset i j e
  | raise x a _ => exact .st (by
      intro sc X W st o gd tk hp h
      obtain ⟨p, m, j, p2, pos2, pos, rfl, h1⟩ := raise_inv h
      exact ss_raise o.calm tk gd (o.gl h1).1 (o.gl h1).2) (fun _ x h => by cases x <;> cases h)
  | tryR x e z _ => exact .st (by
      intro sc X W st o gd tk hp h
      obtain ⟨e', p1, p2, j, p3, p4, p5, pos, rfl, h1, h2⟩ := tryR_inv h
      exact ss_tryR hp.stk hp.frm tk gd.1 (o.gl h1).1 (o.gl h1).2 fun W' pn xe t => (sndE e).he (X := X.tr pn xe) (o.tr pn xe) gd.2 t h2) (fun _ x h => by cases x <;> cases h)
  | iff c a b ihc iha ihb => exact .st (by
      intro sc X W st o gd tk hp h
      cases st <;> first | cases h | skip
      rename_i ec sa sb pos
      have h' : (chk N true sc sc c ec && chkB N sc a sa && chkB N sc b sb) = true := h
      simp only [Bool.and_eq_true] at h'
      exact ss_if ((sndE c).pt o gd.1 tk h'.1.1) (iha.hb o gd.2.1 tk hp h'.1.2) (ihb.hb o gd.2.2 tk hp h'.2)) (fun _ x h => by cases x <;> cases h)
  | loop g it b ihg ihi ihb => exact .st (by
      intro sc X W st o gd tk hp h
      cases st <;> first | cases h | skip
      rename_i tg iter body orelse pos
      cases orelse with
      | cons _ _ => cases h
      | nil =>
        have h' : ((notSet iter && tgOk it tg) && chkI N sc sc it iter && chkG N sc sc g tg && chkB N sc b body) = true := h
        simp only [Bool.and_eq_true] at h'
        obtain ⟨⟨⟨h1, h2⟩, h3⟩, h4⟩ := h'
        exact ss_for hp.pass o.calm ((sndE it).hi o gd.1 tk h2 h1.2) ((sndE (lv := lv) g).hg o h3) (ihb.hb o gd.2 tk hp h4) (folded_of h1.1)) (fun _ x h => by cases x <;> cases h)
  | «while» n c b ihc ihb => exact .st (by
      intro sc X W st o gd tk hp h
      cases st <;> first | cases h | skip
      rename_i ec body orelse pos
      cases orelse with
      | cons _ _ => cases h
      | nil =>
        have h' : (chk N true sc sc c ec && chkB N sc b body) = true := h
        simp only [Bool.and_eq_true] at h'
        exact ss_while hp.pass ((sndE c).pt o gd.1 tk h'.1) (ihb.hb o gd.2 tk hp h'.2)) (fun _ x h => by cases x <;> cases h)
  | ret e _ => exact .st (by
      intro sc X W st o gd tk hp h
      cases st <;> first | cases h | skip
      rename_i v pos
      cases v with
      | none => cases h
      | some v => exact ss_ret ((sndE e).he o gd tk h)) (fun _ x h => by cases x <;> cases h)
  | drop e _ => exact .st (by
      intro sc X W st o gd tk hp h
      cases st <;> first | cases h | skip
      rename_i v pos
      have h' : (notComp v && chk N false sc sc e v) = true := h
      simp only [Bool.and_eq_true] at h'
      exact ss_drop ((sndE e).he o gd tk h'.2) (swaps_of h'.1)) (fun _ x h => by cases x <;> cases h)
  | yes => exact ⟨fun {sc X W st} _ _ _ _ _ => ⟨fun pins s σ H D I ⟨C, F, s0, r, h⟩ => h.elim⟩, fun {sc X W sts} _ _ _ _ _ => ⟨fun pins s σ H D I ⟨C, F, s0, r, h⟩ => h.elim⟩⟩
  | _ => exact .none (fun _ x h => by cases x <;> cases h) (fun _ x h => by cases x <;> cases h)
end
/-! ### a def -/
section
variable {P : Program} {w : World} {K : PySem.W.Frag} {mg : Str → Option Value} {base : Heap}
theorem passes_def {CX : CXT} {N : List Str} {qual : Str} {scope : Scope} {f : Addr} {cd : Value} {A : Around} {outer : List Env} {s : Shared} {H : Hp} {E : XK} : PassesOwn (model P w) (cxOf CX P w K mg base N qual scope f cd A outer s H E).A (cxOf CX P w K mg base N qual scope f cd A outer s H E).env (cxOf CX P w K mg base N qual scope f cd A outer s H E).xe :=
  passes_of (X := cxOf CX P w K mg base N qual scope f cd A outer s H E) (K := fun e s'' => CX outer H s E e s'') (E₁ := fun e' s'' => CX outer H s E e' s'') rfl
/-- a def's entry -/
theorem rel_start {b : Addr} {F H : Hp} {us : List U} {vs : List V} {N : List Str} {q : Bag} (le : Le F H) (d : Paired (DenU K b F) us vs) (hb : BagAt F H b q) (hl : us.length ≤ N.length) :
    Rel K ⟨F, H, b, q.isSome⟩ F ⟨us.map Slot.val ++ List.replicate (N.length - us.length) Slot.un, q⟩ (L2.start N vs) H where
  le := le
  ge := Le.refl F
  new := fun _ _ e _ => .inl e
  keep := fun _ _ e _ => e
  hbag := rfl
  bag := hb
  len := by
    have := Paired.length d
    unfold L2.start
    simp only [List.length_append, List.length_map, List.length_replicate]
    omega
  val := fun i u e => by
    have hi : i < us.length := by
      by_cases hi : i < us.length
      · exact hi
      · have e' : (us.map Slot.val ++ List.replicate (N.length - us.length) Slot.un)[i]? = some (.val u) := e
        rw [List.getElem?_append_right (by simpa using hi), List.getElem?_replicate] at e'
        split at e' <;> cases e'
    have e' : (us.map Slot.val ++ List.replicate (N.length - us.length) Slot.un)[i]? = some (.val u) := e
    rw [List.getElem?_append_left (by simpa using hi), List.getElem?_map, List.getElem?_eq_getElem hi] at e'
    have eu : us[i] = u := by cases e'; rfl
    have get : ∀ {us : List U} {vs : List V} {i : Nat} (hi : i < us.length), Paired (DenU K b F) us vs → ∃ v, vs[i]? = some v ∧ DenU K b F us[i] v := by
      intro us
      induction us with
      | nil => intro vs i hi _; exact absurd hi (Nat.not_lt_zero _)
      | cons u us ih =>
        intro vs i hi d
        cases d with
        | cons h t =>
          cases i with
          | zero => exact ⟨_, rfl, h⟩
          | succ i =>
            obtain ⟨v, h1, h2⟩ := ih (Nat.lt_of_succ_lt_succ hi) t
            exact ⟨v, by simpa using h1, h2⟩
    obtain ⟨v, h1, h2⟩ := get hi d
    rw [eu] at h2
    refine ⟨v, ?_, h2⟩
    have hv : i < vs.length := by rw [← Paired.length d]; exact hi
    unfold L2.start
    rw [List.getElem?_append_left (by simpa using hv), List.getElem?_map, h1]
    rfl
  own := fun i ds e => by
    have e' : (us.map Slot.val ++ List.replicate (N.length - us.length) Slot.un)[i]? = some (.ow ds) := e
    have hm := List.mem_of_getElem? e'
    rw [List.mem_append] at hm
    rcases hm with h | h
    · obtain ⟨u, _, z⟩ := List.mem_map.mp h
      cases z
    · cases List.eq_of_mem_replicate h
  apart := fun i j ds es p e _ _ _ => by
    have e' : (us.map Slot.val ++ List.replicate (N.length - us.length) Slot.un)[i]? = some (.ow ds) := e
    have hm := List.mem_of_getElem? e'
    rw [List.mem_append] at hm
    rcases hm with h | h
    · obtain ⟨u, _, z⟩ := List.mem_map.mp h
      cases z
    · cases List.eq_of_mem_replicate h
theorem rel_after {b : Addr} {F H F' H' : Hp} {q : Bag} {s : S} {σ : L2.St} (r : Rel K ⟨F, H, b, q.isSome⟩ F' s σ H') : After K b F H q F' H' s.bag where
  leF := r.ge
  le := r.le
  new := r.new
  keep := fun a o e n => r.keep a o e n
  isb := r.hbag
  bag := r.bag
/-- THE RULE: a def whose tree passes the look keeps the promise that its tree says -/
theorem def_ok {x qual : Str} {params : Arguments} {body : List Stmt} {scope : Scope} {f : Addr} {fd : FuncData} {N ps : List Str} {lv : Nat} (F : FunD K x qual params body scope [] [] f fd) (Sc : FnScope N ps scope) (hB : BltOk mg) (t : T) (hg : Good P w K mg base lv t) (hc : chkB N scope t body = true) :
    FnOk P w K mg base (L2.CX P w) (lv + 1) f fd ps (spG K mg ps.length (run t ps.length N.length)) := by
  refine F.ok Sc (fun vs H Q E h => h.len) fun cdv A outer s H vs Q E hr h => ?_
  obtain ⟨F0, b, us, q, le, hl, d, hb, hm⟩ := h
  have hps : ps.length ≤ N.length := by
    have := congrArg List.length Sc.pre
    rw [List.length_take] at this
    omega
  have o : XOk (cxOf (L2.CX P w) P w K mg base N qual scope f cdv A outer s H E) N scope scope lv :=
    { hN := rfl, hsc := rfl, kind := Sc.kind, nd := Sc.nd, calm := rfl, room := hr, blt := hB, st := fun x h => ⟨h, .inl rfl⟩ }
  have tk : Takes (cxOf (L2.CX P w) P w K mg base N qual scope f cdv A outer s H E) (fun cls d _ H' => E cls d H') := takes_of rfl rfl rfl rfl
  refine ⟨_, (sndS t).hb o hg tk ⟨passes_def, rfl, rfl⟩ hc, ⟨F0, H, b, q.isSome⟩, F0, _, rel_start le d hb (by rw [hl]; exact hps), ?_⟩
  have hm' : match run t ps.length N.length us q with
    | .ok u q' => ∀ v F' H', After K b F0 H q F' H' q' → DenU K b F' u v → Q v H'
    | .exn c p q' => ∀ cls d F' H', After K b F0 H q F' H' q' → ErrIs K mg F' H' c p cls d → E cls d H'
    | .stuck => False := hm
  unfold run at hm'
  rw [if_pos hl, ← hl] at hm'
  show PostS K mg _ _ F0 (ex t ⟨us.map Slot.val ++ List.replicate (N.length - us.length) Slot.un, q⟩) _
  revert hm'
  cases ex t ⟨us.map Slot.val ++ List.replicate (N.length - us.length) Slot.un, q⟩ with
  | ok o s1 =>
    cases o with
    | nx => exact fun hm F' σ' H' l r => hm .non F' H' (rel_after r) .non
    | rt u => exact fun hm F' σ' H' v l r dv => hm v F' H' (rel_after r) dv
  | exn c p s1 => exact fun hm F' σ' H' cls d l r e => hm cls d F' H' (rel_after r) e
  | stuck => exact fun hm => hm
end
end RD
set_option Elab.async false
set_option linter.all false
set_option maxRecDepth 100000
/-! RdO: the bag's maker; a module's constants; the top's facts. -/
namespace RD
open PySem L2
section
variable {P : Program} {w : World} {K : PySem.W.Frag} {mg : Str → Option Value} {base : Heap}
theorem bag_inv {N : List Str} {sc : Scope} {a l : T} {body : List Stmt} (h : chkB N sc (.seq a (.seq (.ret (.lst l)) .nil)) body = true) : ∃ s1 es p1 p2, body = [s1, .Return (some (.List es p1)) p2] ∧ chkS N sc a s1 = true ∧ chkA N sc sc l es = true := by
  cases body with
  | nil => cases h
  | cons s1 r =>
    have h' : (chkS N sc a s1 && chkB N sc (.seq (.ret (.lst l)) .nil) r) = true := h
    rw [Bool.and_eq_true] at h'
    obtain ⟨h1, h2⟩ := h'
    cases r with
    | nil => cases h2
    | cons s2 r =>
      have h' : (chkS N sc (.ret (.lst l)) s2 && chkB N sc .nil r) = true := h2
      rw [Bool.and_eq_true] at h'
      obtain ⟨h3, h4⟩ := h'
      cases r with
      | cons _ _ => cases h4
      | nil =>
        cases s2 with
        | Return v p2 =>
          cases v with
          | none => cases h3
          | some e =>
            have h5 : chk N false sc sc (.lst l) e = true := h3
            cases e with
            | List es p1 => exact ⟨s1, es, p1, p2, rfl, h1, h5⟩
            | _ => cases h5
        | _ => cases h3
/-- a def whose last statement hands back a new list of two: the bag's maker -/
theorem bag_ok {x qual : Str} {params : Arguments} {body : List Stmt} {scope : Scope} {f : Addr} {fd : FuncData} {N ps : List Str} {lv : Nat} (F : FunD K x qual params body scope [] [] f fd) (Sc : FnScope N ps scope) (hB : BltOk mg) (i : Nat) (e l : T)
    (hg : Good P w K mg base lv (.seq (.asg (.tname i) e) (.seq (.ret (.lst l)) .nil))) (hc : chkB N scope (.seq (.asg (.tname i) e) (.seq (.ret (.lst l)) .nil)) body = true) :
    FnOk P w K mg base (L2.CX P w) (lv + 1) f fd ps (spB K ps.length (run (.seq (.asg (.tname i) e) (.seq (.ret (.lst l)) .nil)) ps.length N.length)) := by
  refine F.ok Sc (fun vs H Q E h => ?_) fun cdv A outer s H vs Q E hr h => ?_
  · obtain ⟨F, b, us, x, y, _, h1, h2, _⟩ := h
    rw [← h1]
    exact (Paired.length h2).symm
  obtain ⟨F0, b, us, zx, zy, le, hl, d, hrun, hq⟩ := h
  have hps : ps.length ≤ N.length := by
    have := congrArg List.length Sc.pre
    rw [List.length_take] at this
    omega
  have o : XOk (cxOf (L2.CX P w) P w K mg base N qual scope f cdv A outer s H E) N scope scope lv :=
    { hN := rfl, hsc := rfl, kind := Sc.kind, nd := Sc.nd, calm := rfl, room := hr, blt := hB, st := fun x h => ⟨h, .inl rfl⟩ }
  have tk : Takes (cxOf (L2.CX P w) P w K mg base N qual scope f cdv A outer s H E) (fun cls d _ H' => E cls d H') := takes_of rfl rfl rfl rfl
  obtain ⟨s1, es, p1, p2, rfl, c1, c2⟩ := bag_inv hc
  (
    have p1 := (sndS (.asg (.tname i) e)).hs o hg.1 tk ⟨passes_def, rfl, rfl⟩ c1
    have p2 := (sndE l).ha o hg.2.1 tk c2
    refine ⟨_, pss_cons p1 (pss_one (ps_ret (pe_lst p2))), ⟨F0, H, b, false⟩, F0, _, rel_start le d (fun x y h => nomatch h) (q := none) (by rw [hl]; exact hps), ?_⟩
    unfold run at hrun
    rw [if_pos hl, ← hl] at hrun
    show PostS K mg _ _ F0 (ex (.asg (.tname i) e) ⟨us.map Slot.val ++ List.replicate (N.length - us.length) Slot.un, none⟩) _
    have hrun' : (match (ex (.asg (.tname i) e) ⟨us.map Slot.val ++ List.replicate (N.length - us.length) Slot.un, none⟩).bind (fun o s => match o with
        | Out.nx => ex (.seq (.ret (.lst l)) .nil) s
        | Out.rt u => .ok (Out.rt u) s) with
      | .ok .nx s => RB.ok (.d .none) s.bag
      | .ok (.rt u) s => .ok u s.bag
      | .exn c p s => .exn c p s.bag
      | .stuck => .stuck) = .ok (.d (.list [.int zx, .int zy])) none := hrun
    have hnx : ∀ u s, ex (.asg (.tname i) e) ⟨us.map Slot.val ++ List.replicate (N.length - us.length) Slot.un, none⟩ ≠ .ok (.rt u) s := by
      intro u s h
      have h0 : ((ev e ⟨us.map Slot.val ++ List.replicate (N.length - us.length) Slot.un, none⟩).dat fun x s => (R.ofS (asgT (.tname i) x s)).bind fun _ s => R.ok Out.nx s) = R.ok (Out.rt u) s := h
      unfold R.dat at h0
      obtain ⟨z, s1, _, h2⟩ := bind_ok h0
      cases z with
      | d x =>
        obtain ⟨z, s2, _, h4⟩ := bind_ok h2
        cases h4
      | _ => cases h2
    revert hrun'
    cases e1 : ex (.asg (.tname i) e) ⟨us.map Slot.val ++ List.replicate (N.length - us.length) Slot.un, none⟩ with
    | ok o s1 =>
      cases o with
      | rt u => exact absurd e1 (hnx u s1)
      | nx =>
        intro hrun'
        intro F1 σ1 H1 l1 r1
        refine ⟨⟨F0, H, b, false⟩, F1, s1, r1, ?_⟩
        have h2 : (match (match (evA l s1).bind (fun us s => match datas us with
          | some xs => if xs.length ≤ big then R.ok (U.d (.list xs)) s else .stuck
          | none => .stuck) with
          | .ok u s => R.ok (Out.rt u) s
          | .exn c p s => .exn c p s
          | .stuck => .stuck) with
          | .ok .nx s => RB.ok (.d .none) s.bag
          | .ok (.rt u) s => .ok u s.bag
          | .exn c p s => .exn c p s.bag
          | .stuck => .stuck) = .ok (.d (.list [.int zx, .int zy])) none := by
          have h3 : (match (ex (.seq (.ret (.lst l)) .nil) s1) with
            | .ok .nx s => RB.ok (.d .none) s.bag
            | .ok (.rt u) s => .ok u s.bag
            | .exn c p s => .exn c p s.bag
            | .stuck => .stuck) = .ok (.d (.list [.int zx, .int zy])) none := hrun'
          have e3 : ex (.seq (.ret (.lst l)) .nil) s1 = (match (evA l s1).bind (fun us s => match datas us with
            | some xs => if xs.length ≤ big then R.ok (U.d (.list xs)) s else .stuck
            | none => .stuck) with
            | .ok u s => R.ok (Out.rt u) s
            | .exn c p s => .exn c p s
            | .stuck => .stuck) := by
            show R.bind (R.bind (ev (.lst l) s1) fun u s => R.ok (Out.rt u) s) (fun o s => match o with | Out.nx => ex .nil s | Out.rt u => .ok (Out.rt u) s) = _
            show R.bind (R.bind ((evA l s1).bind (fun us s => match datas us with
              | some xs => if xs.length ≤ big then R.ok (U.d (.list xs)) s else .stuck
              | none => .stuck)) fun u s => R.ok (Out.rt u) s) (fun o s => match o with | Out.nx => ex .nil s | Out.rt u => .ok (Out.rt u) s) = _
            cases (evA l s1).bind (fun us s => match datas us with
              | some xs => if xs.length ≤ big then R.ok (U.d (.list xs)) s else .stuck
              | none => .stuck) <;> rfl
          rw [e3] at h3
          exact h3
        revert h2
        cases e2 : evA l s1 with
        | ok ys s2 =>
          intro h2
          intro F2 H2 l2 r2 vs2 hv
          have h4 : (match (match datas ys with
            | some xs => if xs.length ≤ big then R.ok (U.d (.list xs)) s2 else .stuck
            | none => .stuck) with
            | .ok u s => RB.ok u s.bag
            | .exn c p s => .exn c p s.bag
            | .stuck => .stuck) = .ok (.d (.list [.int zx, .int zy])) none := by
            revert h2
            show (match (match (match datas ys with
              | some xs => if xs.length ≤ big then R.ok (U.d (.list xs)) s2 else .stuck
              | none => .stuck) with
              | .ok u s => R.ok (Out.rt u) s
              | .exn c p s => .exn c p s
              | .stuck => .stuck) with
              | .ok .nx s => RB.ok (.d .none) s.bag
              | .ok (.rt u) s => .ok u s.bag
              | .exn c p s => .exn c p s.bag
              | .stuck => .stuck) = _ → _
            cases (match datas ys with
              | some xs => if xs.length ≤ big then R.ok (U.d (.list xs)) s2 else .stuck
              | none => .stuck) <;> exact fun h => h
          cases e5 : datas ys with
          | none => rw [e5] at h4; cases h4
          | some xs =>
            rw [e5] at h4
            by_cases hb : xs.length ≤ big
            · have h6 : (match (if xs.length ≤ big then R.ok (U.d (.list xs)) s2 else .stuck) with
                | .ok u s => RB.ok u s.bag
                | .exn c p s => .exn c p s.bag
                | .stuck => .stuck) = .ok (.d (.list [.int zx, .int zy])) none := h4
              rw [if_pos hb] at h6
              have h7 : RB.ok (.d (.list xs)) s2.bag = .ok (.d (.list [.int zx, .int zy])) none := h6
              injection h7 with h7 h8
              injection h7 with h7
              injection h7 with h7
              subst h7
              have dn := datas_dn hv e5
              have ev2 : vs2 = [.int zx, .int zy] := by
                cases dn with
                | cons d1 t =>
                  cases d1
                  cases t with
                  | cons d2 t2 =>
                    cases d2
                    cases t2
                    rfl
              subst ev2
              refine ⟨by show 2 ≤ sizeLine; decide, fun p hp => ?_⟩
              refine hq p _ (r2.fresh0 hp) (fun a o e => ?_) upd_same
              rw [upd_ne (ne_of_none (r2.keep a o e (.inl rfl)) hp)]
              exact r2.keep a o e (.inl rfl)
            · have h6 : (match (if xs.length ≤ big then R.ok (U.d (.list xs)) s2 else .stuck) with
                | .ok u s => RB.ok u s.bag
                | .exn c p s => .exn c p s.bag
                | .stuck => .stuck) = .ok (.d (.list [.int zx, .int zy])) none := h4
              rw [if_neg hb] at h6
              cases h6
        | exn c p s2 =>
          intro h2
          cases h2
        | stuck =>
          intro h2
          cases h2
    | exn c p s1 =>
      intro hrun'
      cases hrun'
    | stuck =>
      intro hrun'
      cases hrun')
end
/-! ### constants -/
mutual
theorem datB_ok {K : PySem.W.Frag} : ∀ (d : PyData) (u : Value), datB K d u = true → ∃ v, RelV v u ∧ ∀ F, Dn K F v d
  | .none, u, h => by
    cases u <;> first | cases h | skip
    exact ⟨.non, rfl, fun F => .non⟩
  | .bool b, u, h => by
    cases u <;> first | cases h | skip
    rename_i c
    have h' : (b == c) = true := h
    rw [eq_of_beq h']
    exact ⟨.bl c, rfl, fun F => .bl c⟩
  | .int i, u, h => by
    cases u <;> first | cases h | skip
    rename_i j t
    have h' : decide (i = j) = true := h
    rw [of_decide_eq_true h']
    exact ⟨.int j, ⟨t, rfl⟩, fun F => .int j⟩
  | .str x, u, h => by
    cases u <;> first | cases h | skip
    rename_i y t
    have h' : decide (x = y) = true := h
    rw [of_decide_eq_true h']
    exact ⟨.str y, ⟨t, rfl⟩, fun F => .str y⟩
  | .tuple ds, u, h => by
    cases u <;> first | cases h | skip
    rename_i a
    have h0 : (match K.lookup a with
      | some ⟨.type c, _, .seq its _, _⟩ => decide (c = "tuple") && decide (its.size ≤ sizeLine) && (constB (.tuple ds) && datsB K ds its.toList)
      | _ => false) = true := h
    split at h0
    · rename_i c od its n osl e
      rw [Bool.and_eq_true, Bool.and_eq_true] at h0
      rw [Bool.and_eq_true (a := constB _)] at h0
      obtain ⟨⟨h1, h2⟩, h4, h3⟩ := h0
      obtain ⟨vs, q1, q2⟩ := datsB_ok ds its.toList h3
      refine ⟨.ref a, rfl, fun F => .tup (xs := vs) (.inr ⟨_, its, n, e, ?_, rfl, of_decide_eq_true h2, q1⟩) (.inr (.inl h4)) (q2 F)⟩
      exact congrArg Value.type (of_decide_eq_true h1)
    · cases h0
  | .list ds, u, h => by cases u <;> cases h
  | .dict ds, u, h => by cases u <;> cases h
theorem datsB_ok {K : PySem.W.Frag} : ∀ (ds : List PyData) (us : List Value), datsB K ds us = true → ∃ vs, Vals vs us ∧ ∀ F, DnAll K F vs ds
  | [], us, h => by
    cases us with
    | nil => exact ⟨[], .nil, fun F => .nil⟩
    | cons _ _ => cases h
  | d :: ds, us, h => by
    cases us with
    | nil => cases h
    | cons u us =>
      have h' : (datB K d u && datsB K ds us) = true := h
      rw [Bool.and_eq_true] at h'
      obtain ⟨v, h1, h2⟩ := datB_ok d u h'.1
      obtain ⟨vs, h3, h4⟩ := datsB_ok ds us h'.2
      exact ⟨v :: vs, .cons h1 h3, fun F => .cons (h2 F) (h4 F)⟩
end
theorem gloB_ok {K : PySem.W.Frag} {h : Heap} {mg : Str → Option Value} (X : K.In h) (G : h.Ns mainGlobals mg) {q : Str × PyData} (c : gloB K q = true) : GlobOk K mg q.1 q.2 := by
  unfold gloB at c
  split at c
  · rename_i u e
    obtain ⟨v, h1, h2⟩ := datB_ok _ _ c
    exact ⟨u, v, PySem.W.mg_of X G e, h1, h2⟩
  · cases c

/-! ### the top's facts -/
theorem SaysX.old {fa : List He.Fa} {gl : List (Str × PyData)} {fn : List He.DefD} {K : PySem.W.Frag} (c : SaysX fa gl fn K) : He.SaysD fa fn K := by
  have c1 : ((He.obsD fa fn K).1 && gl.all (gloB K)) = true := congrArg (fun z : He.AlD => z.1) c
  have c2 : (He.obsD fa fn K).2 = fn.map He.DefD.val := congrArg (fun z : He.AlD => z.2) c
  rw [Bool.and_eq_true] at c1
  exact Prod.ext c1.1 c2
theorem SaysX.glob {fa : List He.Fa} {gl : List (Str × PyData)} {fn : List He.DefD} {K : PySem.W.Frag} (c : SaysX fa gl fn K) {h : Heap} {mg : Str → Option Value} (X : K.In h) (G : h.Ns mainGlobals mg) (i : Nat) {q : Str × PyData} (e : gl[i]? = some q := by rfl) : GlobOk K mg q.1 q.2 := by
  have c1 : ((He.obsD fa fn K).1 && gl.all (gloB K)) = true := congrArg (fun z : He.AlD => z.1) c
  rw [Bool.and_eq_true] at c1
  exact gloB_ok X G (List.all_eq_true.mp c1.2 q (List.mem_of_getElem? e))
/-- the law's promise of its script -/
theorem spG_law {K : PySem.W.Frag} {mg : Str → Option Value} {g : G} {H : Hp} {a : Addr} {ns : List Int} (hS : SqL K H a (ns.map V.int)) (hg : g [.scr ns] none = .ok (.d (.bool true)) none) : spG K mg 1 g [.ref a] H (fun v _ => v = .bl true) (fun _ _ _ => False) := by
  refine ⟨H, 0, [.scr ns], none, Le.refl H, rfl, .cons ⟨a, rfl, hS⟩ .nil, (by intro x y h; cases h), ?_⟩
  rw [hg]
  intro v F' H' _ d
  cases d
  rfl
/-- what may be let out, whatever the program and the world -/
def CXA : CXT := fun outer H s E e s' => ∃ P w, L2.CX P w outer H s E e s'
/-- nothing comes out of a law that lets nothing out -/
theorem law_out (H : Hp) (s : Shared) (e : Value) (s' : Shared) (h : CXA [] H s (fun _ _ _ => False) e s') : False := by
  obtain ⟨P, w, h⟩ := h
  obtain ⟨_, _, _, _, _, _, _, _, _, _, _, _, z⟩ := h
  exact z
theorem fn_cxa {P : Program} {w : World} {K : PySem.W.Frag} {mg : Str → Option Value} {base : Heap} {k : Nat} {f : Addr} {fd : FuncData} {ps : List Str} {sp : Sp} (F : FnOk P w K mg base (L2.CX P w) k f fd ps sp) : FnOk P w K mg base CXA k f fd ps sp :=
  ⟨F.len, fun A outer s H args us vs Q E h1 h2 h3 h4 h5 => codeAny_mono (F.run A outer s H args us vs Q E h1 h2 h3 h4 h5) fun r s' q => by
    match r, q with
    | .ok (.ret u), q => exact q
    | .error e, q => exact ⟨P, w, q⟩⟩
theorem GB.mono {P : Program} {w : World} {K : PySem.W.Frag} {mg : Str → Option Value} {base : Heap} {lv lv' n : Nat} {x : Str} {g : G} (h : GB P w K mg base lv n x g) (l : lv ≤ lv') : GB P w K mg base lv' n x g := by
  obtain ⟨f, fd, ps, k, h1, r⟩ := h
  exact ⟨f, fd, ps, k, Nat.le_trans h1 l, r⟩
theorem fn_stuck {P : Program} {w : World} {K : PySem.W.Frag} {mg : Str → Option Value} {base : Heap} {CX : CXT} {k : Nat} {f : Addr} {fd : FuncData} {ps : List Str} : FnOk P w K mg base CX k f fd ps (spG K mg ps.length fun _ _ => .stuck) :=
  ⟨fun vs H Q E ⟨F, b, us, q, _, _, _, _, h⟩ => h.elim, fun A outer s H args us vs Q E _ _ _ _ ⟨F, b, us', q, _, _, _, _, h⟩ => h.elim⟩
end RD
set_option Elab.async false
set_option linter.all false
set_option maxRecDepth 100000
/-! RdP: plain facts about the evaluator. -/
namespace RD
open PySem L2
theorem forR_inv {f : PyData → S → R Out} {P : S → Prop} : ∀ (xs : List PyData) (s : S), P s → (∀ x ∈ xs, ∀ s, P s → ∃ s', f x s = .ok .nx s' ∧ P s') → ∃ s', forR f xs s = .ok .nx s' ∧ P s'
  | [], s, h, _ => ⟨s, rfl, h⟩
  | x :: xs, s, h, k => by
    obtain ⟨s1, h1, h2⟩ := k x (List.mem_cons_self ..) s h
    obtain ⟨s2, h3, h4⟩ := forR_inv xs s1 h2 fun y hy => k y (List.mem_cons_of_mem _ hy)
    refine ⟨s2, ?_, h4⟩
    show (f x s).bind _ = _
    rw [h1]
    exact h3
theorem mem_rangeD {lo : Int} {n : Nat} {x : PyData} (h : x ∈ rangeD lo n) : ∃ k : Nat, k < n ∧ x = .int (lo + k) := by
  unfold rangeD at h
  obtain ⟨k, h1, h2⟩ := List.mem_map.mp h
  exact ⟨k, List.mem_range.mp h1, h2.symm⟩
/-! ### for simp -/
@[simp] theorem get_val {s : S} {i : Nat} {u : U} (h : s.rho[i]? = some (.val u)) : s.get i = .ok u s := by
  unfold S.get
  rw [h]
@[simp] theorem get_mk {rho : List Slot} {q : Bag} {i : Nat} {u : U} (h : rho[i]? = some (.val u)) : (S.mk rho q).get i = .ok u ⟨rho, q⟩ := get_val h
@[simp] theorem set_mk (rho : List Slot) (q : Bag) (i : Nat) (x : PyData) : (S.mk rho q).set i x = ⟨rho.set i (.val (.d x)), q⟩ := rfl
@[simp] theorem bin_add (i j : Int) : binop .add (.int i) (.int j) = some (.int (i + j)) := rfl
@[simp] theorem bin_sub (i j : Int) : binop .sub (.int i) (.int j) = some (.int (i - j)) := rfl
@[simp] theorem bin_mul (i j : Int) : binop .mul (.int i) (.int j) = if CMul i j then some (.int (i * j)) else none := rfl
@[simp] theorem bin_fdiv (i j : Int) : binop .fdiv (.int i) (.int j) = if CDivN i j then some (.int (i.fdiv j)) else none := rfl
@[simp] theorem bin_mod (i j : Int) : binop .mod (.int i) (.int j) = if j = 0 then none else some (.int (i.fmod j)) := rfl
@[simp] theorem bin_pow (i j : Int) : binop .pow (.int i) (.int j) = if CPow i j then some (.int (i ^ j.toNat)) else none := rfl
@[simp] theorem bin_lst (i j : List PyData) : binop .add (.list i) (.list j) = if i.length + j.length ≤ big then some (.list (i ++ j)) else none := rfl
@[simp] theorem cmp_lt (i j : Int) : cmpop .lt (.int i) (.int j) = some (decide (i < j)) := rfl
@[simp] theorem cmp_le (i j : Int) : cmpop .le (.int i) (.int j) = some (decide (i ≤ j)) := rfl
@[simp] theorem cmp_gt (i j : Int) : cmpop .gt (.int i) (.int j) = some (decide (j < i)) := rfl
@[simp] theorem cmp_ge (i j : Int) : cmpop .ge (.int i) (.int j) = some (decide (j ≤ i)) := rfl
@[simp] theorem cmp_eqi (i j : Int) : cmpop .eq (.int i) (.int j) = some (i == j) := rfl
@[simp] theorem cmp_nei (i j : Int) : cmpop .ne (.int i) (.int j) = some (!(i == j)) := rfl
theorem shaped_str {i : Str} (h : (PyData.str i).canLay0 = true) : SeqAt.shaped (.str i) = true := by
  unfold SeqAt.shaped
  rw [h]
  rfl
theorem cmp_eqs {i j : Str} (hi : (PyData.str i).canLay0 = true) (hj : (PyData.str j).canLay0 = true) : cmpop .eq (.str i) (.str j) = some (i == j) := by
  show (if (SeqAt.shaped (.str i) && SeqAt.shaped (.str j)) = true then some (PyData.eqv (.str i) (.str j)) else none) = _
  rw [shaped_str hi, shaped_str hj]
  rfl
theorem cmp_nes {i j : Str} (hi : (PyData.str i).canLay0 = true) (hj : (PyData.str j).canLay0 = true) : cmpop .ne (.str i) (.str j) = some (!(i == j)) := by
  show (if (SeqAt.shaped (.str i) && SeqAt.shaped (.str j)) = true then some (!PyData.eqv (.str i) (.str j)) else none) = _
  rw [shaped_str hi, shaped_str hj]
  rfl
@[simp] theorem blt_lent (xs : List PyData) : bltop .len [.tuple xs] = some (.int xs.length) := rfl
@[simp] theorem blt_lenl (xs : List PyData) : bltop .len [.list xs] = some (.int xs.length) := rfl
@[simp] theorem blt_int (i : Int) : bltop .int [.int i] = some (.int i) := rfl
@[simp] theorem blt_abs (i : Int) : bltop .abs [.int i] = some (.int (if i < 0 then -i else i)) := rfl
@[simp] theorem blt_max (i j : Int) : bltop .max2 [.int i, .int j] = some (.int (if j > i then j else i)) := rfl
@[simp] theorem blt_min (i j : Int) : bltop .min2 [.int i, .int j] = some (.int (if j < i then j else i)) := rfl
@[simp] theorem ix_t (xs : List PyData) (i : Int) : idxop (.tuple xs) (.int i) = atI xs i := rfl
@[simp] theorem ix_l (xs : List PyData) (i : Int) : idxop (.list xs) (.int i) = atI xs i := rfl
@[simp] theorem at0 {α : Type} (x : α) (xs : List α) : atI (x :: xs) 0 = some x := by
  simp [atI, ixN]
@[simp] theorem at1 {α : Type} (x y : α) (xs : List α) : atI (x :: y :: xs) 1 = some y := by
  have : (1 : Int) < (xs.length : Int) + 1 + 1 := by omega
  simp [atI, ixN, this]
@[simp] theorem at2 {α : Type} (x y z : α) (xs : List α) : atI (x :: y :: z :: xs) 2 = some z := by
  have : (2 : Int) < (xs.length : Int) + 1 + 1 + 1 := by omega
  simp [atI, ixN, this]
@[simp] theorem at3 {α : Type} (x y z u : α) (xs : List α) : atI (x :: y :: z :: u :: xs) 3 = some u := by
  have : (3 : Int) < (xs.length : Int) + 1 + 1 + 1 + 1 := by omega
  simp [atI, ixN, this]
@[simp] theorem at4 {α : Type} (x y z u v : α) (xs : List α) : atI (x :: y :: z :: u :: v :: xs) 4 = some v := by
  have : (4 : Int) < (xs.length : Int) + 1 + 1 + 1 + 1 + 1 := by omega
  simp [atI, ixN, this]
@[simp] theorem sl_l (xs : List PyData) (lo hi : Option Int) : slcop (.list xs) lo hi = some (.list (cutD xs lo hi)) := rfl
@[simp] theorem sl_t (xs : List PyData) (lo hi : Option Int) : slcop (.tuple xs) lo hi = some (.tuple (cutD xs lo hi)) := rfl
@[simp] theorem ofS_bind {α : Type} (s : S) (k : Unit → S → R α) : (R.ofS (some s)).bind k = k () s := rfl
@[simp] theorem asg_name (i : Nat) (x : PyData) (s : S) : asgT (.tname i) x s = some (s.set i x) := rfl
@[simp] theorem asg_tup (a : T) (xs : List PyData) (s : S) : asgT (.ttup a) (.tuple xs) s = asgT.asgTs a xs s := rfl
@[simp] theorem asgs_nil (s : S) : asgT.asgTs .anil [] s = some s := rfl
@[simp] theorem asgs_cons (a r : T) (x : PyData) (xs : List PyData) (s : S) : asgT.asgTs (.acons a r) (x :: xs) s = (asgT a x s).bind fun s => asgT.asgTs r xs s := rfl
@[simp] theorem setAll_nil (s : S) : setAll [] [] s = some s := rfl
@[simp] theorem setAll_cons (i : Nat) (is : List Nat) (x : PyData) (xs : List PyData) (s : S) : setAll (i :: is) (x :: xs) s = setAll is xs (s.set i x) := rfl
end RD
set_option Elab.async false
set_option linter.all false
set_option maxRecDepth 100000
/-! RdQ: blocks, walks, comprehensions: what they do, told once. -/
namespace RD
open PySem L2
theorem compR_ok {f : PyData → S → RD.R (Option PyData)} {P : S → Prop} {g : PyData → Option PyData} : ∀ (xs acc : List PyData) (s : S), P s → (∀ x ∈ xs, ∀ s, P s → ∃ s', f x s = .ok (g x) s' ∧ P s') → acc.length + xs.length ≤ big →
    ∃ s', compR f acc xs s = .ok (acc ++ xs.filterMap g) s' ∧ P s'
  | [], acc, s, h, _, _ => ⟨s, by simp [compR], h⟩
  | x :: xs, acc, s, h, k, hl => by
    obtain ⟨s1, e1, h1⟩ := k x (List.mem_cons_self ..) s h
    have hl' : acc.length + (xs.length + 1) ≤ big := hl
    have hk := fun y (hy : y ∈ xs) => k y (List.mem_cons_of_mem _ hy)
    cases hg : g x with
    | none =>
      obtain ⟨s2, e2, h2⟩ := compR_ok xs acc s1 h1 hk (by omega)
      refine ⟨s2, ?_, h2⟩
      show (f x s).bind _ = _
      rw [e1, hg, List.filterMap_cons, hg]
      exact e2
    | some y =>
      obtain ⟨s2, e2, h2⟩ := compR_ok xs (acc ++ [y]) s1 h1 hk (by rw [List.length_append]; simp; omega)
      refine ⟨s2, ?_, h2⟩
      show (f x s).bind _ = _
      rw [e1, hg, List.filterMap_cons, hg]
      show (if acc.length < big then compR f (acc ++ [y]) xs s1 else .stuck) = _
      rw [if_pos (by omega), e2, List.append_assoc]
      rfl
section
variable {i : Nat} {it c e : T} {rho : List Slot} {q : Bag} {xs : List PyData}
/-- [e for i in it] -/
theorem comp_all {f : PyData → PyData} (hi : evI it ⟨rho, q⟩ = .ok xs ⟨rho, q⟩) (hl : xs.length ≤ big) (he : ∀ x ∈ xs, ev e ⟨rho.set i (.val (.d x)), q⟩ = .ok (.d (f x)) ⟨rho.set i (.val (.d x)), q⟩) :
    ev (.comp [i] (.tname i) it .yes e) ⟨rho, q⟩ = .ok (.d (.list (xs.map f))) ⟨rho.set i .un, q⟩ := by
  show (R.bind (evI it _) _) = _
  rw [hi]
  obtain ⟨s', e1, v, rfl⟩ := compR_ok (f := fun x s => (R.ofS (asgT (.tname i) x ⟨wipeS s.rho [i], s.bag⟩)).bind fun _ s => (ev .yes s).tst fun k s => if k = true then (ev e s).dat fun y s => .ok (some y) s else .ok none s)
    (P := fun s => ∃ v, s = ⟨rho.set i v, q⟩) (g := fun x => some (f x)) xs [] ⟨rho.set i (rho.getD i .un), q⟩ ⟨_, rfl⟩ (fun x hx s ⟨v, hs⟩ => by
      subst hs
      refine ⟨⟨rho.set i (.val (.d x)), q⟩, ?_, _, rfl⟩
      have h := he x hx
      show (ev e ⟨((rho.set i v).set i .un).set i (.val (.d x)), q⟩).dat _ = _
      rw [List.set_set, List.set_set, h]
      rfl) (by simpa using hl)
  have e0 : rho.set i (rho.getD i .un) = rho := by
    by_cases h : i < rho.length
    · rw [List.getD_eq_getElem?_getD, List.getElem?_eq_getElem h]
      simp
    · rw [List.set_eq_of_length_le (by omega)]
  rw [e0] at e1
  show (match compR _ [] xs ⟨rho, q⟩ with
    | .ok ys s => R.ok (U.d (.list ys)) ⟨wipeS s.rho [i], s.bag⟩
    | _ => .stuck) = _
  rw [e1, List.nil_append, show xs.filterMap (fun x => some (f x)) = xs.map f by simp]
  show R.ok (U.d (.list (xs.map f))) ⟨(rho.set i v).set i .un, q⟩ = _
  rw [List.set_set]
/-- [e for i in it if c] -/
theorem comp_if {f : PyData → PyData} {p : PyData → Bool} (hi : evI it ⟨rho, q⟩ = .ok xs ⟨rho, q⟩) (hl : xs.length ≤ big) (hc : ∀ x ∈ xs, ev c ⟨rho.set i (.val (.d x)), q⟩ = .ok (.d (.bool (p x))) ⟨rho.set i (.val (.d x)), q⟩)
    (he : ∀ x ∈ xs, p x = true → ev e ⟨rho.set i (.val (.d x)), q⟩ = .ok (.d (f x)) ⟨rho.set i (.val (.d x)), q⟩) :
    ev (.comp [i] (.tname i) it c e) ⟨rho, q⟩ = .ok (.d (.list ((xs.filter p).map f))) ⟨rho.set i .un, q⟩ := by
  show (R.bind (evI it _) _) = _
  rw [hi]
  obtain ⟨s', e1, v, rfl⟩ := compR_ok (f := fun x s => (R.ofS (asgT (.tname i) x ⟨wipeS s.rho [i], s.bag⟩)).bind fun _ s => (ev c s).tst fun k s => if k = true then (ev e s).dat fun y s => .ok (some y) s else .ok none s)
    (P := fun s => ∃ v, s = ⟨rho.set i v, q⟩) (g := fun x => if p x = true then some (f x) else none) xs [] ⟨rho.set i (rho.getD i .un), q⟩ ⟨_, rfl⟩ (fun x hx s ⟨v, hs⟩ => by
      subst hs
      refine ⟨⟨rho.set i (.val (.d x)), q⟩, ?_, _, rfl⟩
      show (ev c ⟨((rho.set i v).set i .un).set i (.val (.d x)), q⟩).tst _ = _
      rw [List.set_set, List.set_set, hc x hx]
      show (if p x = true then (ev e ⟨rho.set i (.val (.d x)), q⟩).dat _ else _) = _
      by_cases h : p x = true
      · rw [if_pos h, if_pos h, he x hx h]
        rfl
      · rw [if_neg h, if_neg h]) (by simpa using hl)
  have e0 : rho.set i (rho.getD i .un) = rho := by
    by_cases h : i < rho.length
    · rw [List.getD_eq_getElem?_getD, List.getElem?_eq_getElem h]
      simp
    · rw [List.set_eq_of_length_le (by omega)]
  rw [e0] at e1
  show (match compR _ [] xs ⟨rho, q⟩ with
    | .ok ys s => R.ok (U.d (.list ys)) ⟨wipeS s.rho [i], s.bag⟩
    | _ => .stuck) = _
  have e2 : xs.filterMap (fun x => if p x = true then some (f x) else none) = (xs.filter p).map f := by
    clear hi hl hc he e1
    induction xs with
    | nil => rfl
    | cons x xs ih =>
      by_cases h : p x = true
      · simp [h, ih]
      · simp [h, ih]
  rw [e1, List.nil_append, e2]
  show R.ok (U.d (.list ((xs.filter p).map f))) ⟨(rho.set i v).set i .un, q⟩ = _
  rw [List.set_set]
end
section
variable {a b it : T} {s s' s1 : S} {i : Nat} {xs : List PyData} {u : U}
theorem seq_nx (h : ex a s = .ok .nx s') : ex (.seq a b) s = ex b s' := by
  show (ex a s).bind _ = _
  rw [h]
  rfl
theorem seq_rt (h : ex a s = .ok (.rt u) s') : ex (.seq a b) s = .ok (.rt u) s' := by
  show (ex a s).bind _ = _
  rw [h]
  rfl
/-- a walk that keeps a frame -/
theorem loop_ok {P : S → Prop} (hi : evI it s = .ok xs s1) (h0 : P s1) (hs : ∀ x ∈ xs, ∀ s, P s → ∃ s', ex b (s.set i x) = .ok .nx s' ∧ P s') : ∃ s', ex (.loop (.tname i) it b) s = .ok .nx s' ∧ P s' := by
  obtain ⟨s', h1, h2⟩ := forR_inv (f := fun x s => (R.ofS (asgT (.tname i) x s)).bind fun _ s => ex b s) (P := P) xs s1 h0 fun x hx s h => hs x hx s h
  refine ⟨s', ?_, h2⟩
  show (evI it s).bind _ = _
  rw [hi]
  exact h1
end
/-! ### the bag's frame -/
def nb1 : Slot → Slot
  | .val .bag => .un
  | x => x
theorem noBag_map : ∀ r : List Slot, noBag r = r.map nb1
  | [] => rfl
  | .val .bag :: r => congrArg _ (noBag_map r)
  | .val (.d _) :: r => congrArg _ (noBag_map r)
  | .val (.scr _) :: r => congrArg _ (noBag_map r)
  | .un :: r => congrArg _ (noBag_map r)
  | .ow _ :: r => congrArg _ (noBag_map r)
@[simp] theorem nb1_d (x : PyData) : nb1 (.val (.d x)) = .val (.d x) := rfl
@[simp] theorem nb1_s (ns : List Int) : nb1 (.val (.scr ns)) = .val (.scr ns) := rfl
@[simp] theorem nb1_b : nb1 (.val .bag) = .un := rfl
theorem bagged_ok {j : Nat} {x : Str} {g : G} {a body : T} {rho : List Slot} {us : List U} {p q : Int} {s' : S} (ha : evA a ⟨rho, none⟩ = .ok us ⟨rho, none⟩) (hg : g us none = .ok (.d (.list [.int p, .int q])) none) (hb : ex body ⟨(noBag rho).set j (.val .bag), some (p, q)⟩ = .ok .nx s') :
    ex (.bagged j x g a body) ⟨rho, none⟩ = .ok .nx ⟨noBag s'.rho, none⟩ := by
  show (evA a _).bind _ = _
  rw [ha]
  show (match g us none, (none : Bag) with
    | .ok (.d (.list [.int x, .int y])) none, none => (match ex body ⟨(noBag rho).set j (.val .bag), some (x, y)⟩ with
      | .ok .nx s => R.ok Out.nx ⟨noBag s.rho, none⟩
      | .ok (.rt (.d u)) s => .ok (.rt (.d u)) ⟨noBag s.rho, none⟩
      | _ => .stuck)
    | _, _ => .stuck) = _
  rw [hg]
  show (match ex body ⟨(noBag rho).set j (.val .bag), some (p, q)⟩ with
      | .ok .nx s => R.ok Out.nx ⟨noBag s.rho, none⟩
      | .ok (.rt (.d u)) s => .ok (.rt (.d u)) ⟨noBag s.rho, none⟩
      | _ => .stuck) = _
  rw [hb]
/-! ### comparing -/
theorem lay_all : ∀ {xs : List PyData}, (∀ x ∈ xs, x.canLay0 = true) → PyData.canLayAll0 xs = true
  | [], _ => by simp [PyData.canLayAll0]
  | x :: xs, h => by
    rw [PyData.canLayAll0, h x List.mem_cons_self, lay_all fun y hy => h y (List.mem_cons_of_mem _ hy)]
    rfl
theorem depth_all {n : Nat} : ∀ {xs : List PyData}, (∀ x ∈ xs, x.depth ≤ n) → PyData.depthAll xs ≤ n
  | [], _ => by simp [PyData.depthAll]
  | x :: xs, h => by
    have h1 := h x List.mem_cons_self
    have h2 := depth_all (n := n) fun y hy => h y (List.mem_cons_of_mem _ hy)
    rw [PyData.depthAll]
    omega
theorem shaped_list {n : Nat} {xs : List PyData} (h1 : ∀ x ∈ xs, x.canLay0 = true) (h2 : ∀ x ∈ xs, x.depth ≤ n) (hn : n < 64) : SeqAt.shaped (.list xs) = true := by
  unfold SeqAt.shaped
  have d := depth_all h2
  have e1 : (PyData.list xs).canLay0 = true := by rw [PyData.canLay0]; exact lay_all h1
  have e2 : (PyData.list xs).depth ≤ 64 := by rw [PyData.depth]; omega
  rw [e1, decide_eq_true e2]
  rfl
theorem shaped_tup {n : Nat} {xs : List PyData} (h1 : ∀ x ∈ xs, x.canLay0 = true) (h2 : ∀ x ∈ xs, x.depth ≤ n) (hn : n < 64) : SeqAt.shaped (.tuple xs) = true := by
  unfold SeqAt.shaped
  have d := depth_all h2
  have e1 : (PyData.tuple xs).canLay0 = true := by rw [PyData.canLay0]; exact lay_all h1
  have e2 : (PyData.tuple xs).depth ≤ 64 := by rw [PyData.depth]; omega
  rw [e1, decide_eq_true e2]
  rfl
end RD
set_option Elab.async false
set_option linter.all false
set_option maxRecDepth 100000
set_option maxHeartbeats 4000000
/-! PgA: the defs that several laws share, as trees, printed by genpg.py. -/
namespace PG
open PySem L2 RD
def t__law_bag : T := .seq (.asg (.tname 2) (.ite (.cmp .lt (.var 1) (.lenS 0)) (.blt .abs (.acons (.blt .int (.acons (.sat 0 (.var 1)) .anil)) .anil)) (.bin .add (.bin .mul (.cst (.int 59)) (.var 1)) (.cst (.int 19))))) (.seq (.ret (.lst (.acons (.ite (.cmp .ge (.var 2) (.bin .pow (.cst (.int 10)) (.cst (.int 18)))) (.var 2) (.cst (.int 0))) (.acons (.bin .mod (.blt .int (.acons (.bin .add (.bin .add (.bin .mod (.blt .int (.acons (.var 2) .anil)) (.cst (.int 2147483353))) (.bin .mul (.cst (.int 80021)) (.var 1))) (.cst (.int 41))) .anil)) (.cst (.int 2147483353))) .anil)))) (.nil))
def g__law_bag : G := run (t__law_bag) 2 3
def t__law_take : T := .seq (.iff (.cmp .gt (.bget 0 0) (.cst (.int 0))) (.seq (.asg (.tname 2) (.bin .mod (.blt .int (.acons (.bget 0 0) .anil)) (.var 1))) (.seq (.bset 0 0 (.bin .fdiv (.blt .int (.acons (.bget 0 0) .anil)) (.var 1))) (.seq (.ret (.var 2)) (.nil)))) (.nil)) (.seq (.bset 0 1 (.bin .mod (.blt .int (.acons (.bin .add (.bin .mul (.bget 0 1) (.cst (.int 39373))) (.cst (.int 307))) .anil)) (.cst (.int 2147483353)))) (.seq (.asg (.tname 3) (.bin .mod (.bin .mul (.blt .int (.acons (.bget 0 1) .anil)) (.bin .add (.bin .fdiv (.blt .int (.acons (.bget 0 1) .anil)) (.cst (.int 11))) (.cst (.int 29)))) (.cst (.int 2147483323)))) (.seq (.ret (.bin .mod (.blt .int (.acons (.bin .fdiv (.blt .int (.acons (.var 3) .anil)) (.cst (.int 13))) .anil)) (.var 1))) (.nil))))
def g__law_take : G := run (t__law_take) 2 4
def t__law_of (g__law_take : G) : T := .seq (.ret (.idx (.var 1) (.call "_law_take" g__law_take (.acons (.var 0) (.acons (.blt .len (.acons (.var 1) .anil)) .anil))))) (.nil)
def g__law_of : G := run (t__law_of g__law_take) 2 2
def t__law_phrase (g__law_take : G) (g__law_phrase : G) (g__law_of : G) : T := .seq (.iff (.and (.cmp .gt (.var 1) (.cst (.int 1))) (.one (.cmp .eq (.call "_law_take" g__law_take (.acons (.var 0) (.acons (.cst (.int 3)) .anil))) (.cst (.int 0))))) (.seq (.ret (.tup (.acons (.call "_law_of" g__law_of (.acons (.var 0) (.acons (.lst (.acons (.cst (.str "after")) (.acons (.cst (.str "before")) (.acons (.cst (.str "week")) .anil)))) .anil))) (.acons (.call "_law_phrase" g__law_phrase (.acons (.var 0) (.acons (.bin .sub (.var 1) (.cst (.int 1))) .anil))) .anil)))) (.nil)) (.nil)) (.seq (.asg (.tname 2) (.call "_law_of" g__law_of (.acons (.var 0) (.acons (.lst (.acons (.cst (.str "name")) (.acons (.cst (.str "this")) (.acons (.cst (.str "next")) (.acons (.cst (.str "next")) (.acons (.cst (.str "last")) (.acons (.cst (.str "in")) .anil))))))) .anil)))) (.seq (.ret (.ite (.cmp .eq (.var 2) (.cst (.str "in"))) (.tup (.acons (.var 2) (.acons (.bin .add (.cst (.int 1)) (.call "_law_take" g__law_take (.acons (.var 0) (.acons (.cst (.int 15)) .anil)))) .anil))) (.tup (.acons (.var 2) (.acons (.call "_law_take" g__law_take (.acons (.var 0) (.acons (.cst (.int 7)) .anil))) .anil))))) (.nil)))
def g__law_phrase : Nat → G
  | 0 => fun _ _ => .stuck
  | n + 1 => run (t__law_phrase g__law_take (g__law_phrase n) g__law_of) 2 3
def t__law_words (g__law_words : G) : T := .seq (.iff (.cmp .isin (.idx (.var 0) (.cst (.int 0))) (.lst (.acons (.cst (.str "after")) (.acons (.cst (.str "before")) (.acons (.cst (.str "week")) .anil))))) (.seq (.asg (.ttup (.acons (.tname 1) (.acons (.tname 2) (.anil)))) (.call "_law_words" g__law_words (.acons (.idx (.var 0) (.cst (.int 1))) .anil))) (.seq (.ret (.tup (.acons (.bin .add (.lst (.acons (.idx (.var 0) (.cst (.int 0))) .anil)) (.var 1)) (.acons (.var 2) .anil)))) (.nil))) (.nil)) (.seq (.ret (.tup (.acons (.lst (.acons (.idx (.var 0) (.cst (.int 0))) .anil)) (.acons (.idx (.var 0) (.cst (.int 1))) .anil)))) (.nil))
def g__law_words : Nat → G
  | 0 => fun _ _ => .stuck
  | n + 1 => run (t__law_words (g__law_words n)) 1 3
def t__law_is_int : T := .seq (.ret (.and (.isi .isInt (.var 0)) (.and (.not (.isi .isBool (.var 0))) (.one (.chain .le .le (.var 1) (.var 0) (.var 2)))))) (.nil)
def g__law_is_int : G := run (t__law_is_int) 3 3
def t__law_is_phrase (g__law_is_phrase : G) (g__law_is_int : G) : T := .seq (.iff (.or (.cmp .eq (.var 1) (.cst (.int 0))) (.or (.not (.isi .isTuple (.var 0))) (.or (.cmp .ne (.blt .len (.acons (.var 0) .anil)) (.cst (.int 2))) (.one (.not (.isi .isStr (.idx (.var 0) (.cst (.int 0))))))))) (.seq (.ret (.cst (.bool false))) (.nil)) (.nil)) (.seq (.iff (.cmp .isin (.idx (.var 0) (.cst (.int 0))) (.lst (.acons (.cst (.str "after")) (.acons (.cst (.str "before")) (.acons (.cst (.str "week")) .anil))))) (.seq (.ret (.call "_law_is_phrase" g__law_is_phrase (.acons (.idx (.var 0) (.cst (.int 1))) (.acons (.bin .sub (.var 1) (.cst (.int 1))) .anil)))) (.nil)) (.nil)) (.seq (.iff (.cmp .eq (.idx (.var 0) (.cst (.int 0))) (.cst (.str "in"))) (.seq (.ret (.call "_law_is_int" g__law_is_int (.acons (.idx (.var 0) (.cst (.int 1))) (.acons (.cst (.int 1)) (.acons (.cst (.int 15)) .anil))))) (.nil)) (.nil)) (.seq (.ret (.and (.cmp .isin (.idx (.var 0) (.cst (.int 0))) (.lst (.acons (.cst (.str "name")) (.acons (.cst (.str "this")) (.acons (.cst (.str "next")) (.acons (.cst (.str "last")) .anil)))))) (.one (.call "_law_is_int" g__law_is_int (.acons (.idx (.var 0) (.cst (.int 1))) (.acons (.cst (.int 0)) (.acons (.cst (.int 6)) .anil))))))) (.nil))))
def g__law_is_phrase : Nat → G
  | 0 => fun _ _ => .stuck
  | n + 1 => run (t__law_is_phrase (g__law_is_phrase n) g__law_is_int) 2 2
def b_number_of_1 : T := .seq (.iff (.cmp .eq (.blt .str (.acons (.var 3) .anil)) (.var 0)) (.seq (.ret (.var 3)) (.nil)) (.nil)) (.nil)
def t_number_of : T := .seq (.loop (.tname 3) (.itr2 (.var 1) (.bin .add (.var 2) (.cst (.int 1)))) b_number_of_1) (.seq (.ret (.cst .none)) (.nil))
def g_number_of : G := run (t_number_of) 3 4
def b_phrase_read_1 : T := .seq (.asg (.tname 6) (.tup (.acons (.var 7) (.acons (.var 6) .anil)))) (.nil)
def t_phrase_read (g_number_of : G) : T := .seq (.iff (.not (.isi .isStr (.var 0))) (.yes) (.nil)) (.seq (.par [1, 2] (.acons (.mth .split (.var 0) (.cst (.str " "))) (.acons (.cst (.int 0)) .anil))) (.seq (.while 10 (.and (.cmp .lt (.var 2) (.blt .len (.acons (.var 1) .anil))) (.and (.cmp .lt (.var 2) (.bin .sub (.glob "MOST_WORDS" k_MOST_WORDS) (.cst (.int 1)))) (.one (.cmp .isin (.idx (.var 1) (.var 2)) (.glob "AROUND" k_AROUND))))) (.seq (.asg (.tname 2) (.bin .add (.var 2) (.cst (.int 1)))) (.nil))) (.seq (.iff (.cmp .eq (.var 2) (.blt .len (.acons (.var 1) .anil))) (.yes) (.nil)) (.seq (.iff (.and (.cmp .ne (.idx (.var 1) (.var 2)) (.glob "IN" k_IN)) (.one (.cmp .notin (.idx (.var 1) (.var 2)) (.glob "NAMED" k_NAMED)))) (.yes) (.nil)) (.seq (.iff (.cmp .eq (.bin .add (.var 2) (.cst (.int 1))) (.blt .len (.acons (.var 1) .anil))) (.yes) (.nil)) (.seq (.asg (.ttup (.acons (.tname 3) (.acons (.tname 4) (.anil)))) (.ite (.cmp .eq (.idx (.var 1) (.var 2)) (.glob "IN" k_IN)) (.tup (.acons (.cst (.int 1)) (.acons (.glob "MOST_DAYS" k_MOST_DAYS) .anil))) (.tup (.acons (.cst (.int 0)) (.acons (.cst (.int 6)) .anil))))) (.seq (.asg (.tname 5) (.call "number_of" g_number_of (.acons (.idx (.var 1) (.bin .add (.var 2) (.cst (.int 1)))) (.acons (.var 3) (.acons (.var 4) .anil))))) (.seq (.iff (.isN (.var 5)) (.yes) (.nil)) (.seq (.iff (.cmp .gt (.blt .len (.acons (.var 1) .anil)) (.bin .add (.var 2) (.cst (.int 2)))) (.yes) (.nil)) (.seq (.asg (.tname 6) (.tup (.acons (.idx (.var 1) (.var 2)) (.acons (.var 5) .anil)))) (.seq (.loop (.tname 7) (.itl (.rev (.slc (.var 1) .nopart (.acons (.var 2) .anil)))) b_phrase_read_1) (.seq (.ret (.var 6)) (.nil)))))))))))))
def g_phrase_read : G := run (t_phrase_read g_number_of) 1 8
def t_read_phrase (g_phrase_read : G) : T := .seq (.ret (.call "phrase_read" g_phrase_read (.acons (.var 0) .anil))) (.nil)
def g_read_phrase : G := run (t_read_phrase g_phrase_read) 1 1
end PG
set_option Elab.async false
set_option linter.all false
set_option maxRecDepth 100000
set_option maxHeartbeats 4000000
/-! ExA: an own exception class over an own class over ValueError, whose __init__ says super().__init__(text) and sets one field. -/
namespace RD
open PySem PySem.Spec PyProof.Rows PySem.Calls
section
variable {nm q : Str} {C N : Addr} {bs bm : List Value} {hdct : Bool} {sn : List Str} {sub : List Value} {ab : Bool} {col : Option Bool} {dd : Option Addr} {k0 k1 k2 k3 k5 : Option Value}
variable {prog : Program} {w : World} {A : Around} {E : Value → Shared → Prop} {h : Heap} {g : Array GenState} {d : Drawn} {t : Nat} {os : OsState}
/-- the bound initializer called -/
theorem call_mw0 {u e t0 : Addr} {rest : List Value} {Q : Value → Shared → Prop}
    (hC : h.get? C = some (excClassObj nm q C N bs bm hdct sn sub ab col dd k0 k1 k2 k3 k5 "ValueError.__new__")) (he : h.get? e = some (HandSPX.excO C t0)) (hu : h.get? u = some (PySem.W.kxs_mw "ValueError.__init__" e)) (hrest : rest.length ≤ sizeLine)
    (hq : ∀ h' t1, (∀ b o, b ≠ e → h.get? b = some o → h'.get? b = some o) → h'.get? e = some (HandSPX.excO C t1) → Q .none ⟨h', g, d, t, os⟩) :
    wpAny (model prog w) A (call (.ref u) rest) Q E ⟨h, g, d, t, os⟩ := by
  refine wpAny_call (codeAny_of_tree ?_)
  show wpAny _ A.in1 (callAny (.ref u) ⟨rest, []⟩) _ _ _
  simp only [callAny]
  refine wpAny_bind (wpAny_load hu ?_)
  simp only [PySem.W.kxs_mw, show (Value.type "method-wrapper" == Value.type "method" || Value.type "method-wrapper" == Value.type "builtin_function_or_method" || Value.type "method-wrapper" == Value.type "method-wrapper") = true by decide, if_true]
  refine PySem.W.KFB.if_so (by decide) ?_
  refine wpAny_bind (PySem.W.check_bound_init F.excBase_ValueError.toExcCallFacts hC he rfl ?_)
  refine wpAny_bind (wpAny_pure (wpAny_pure ?_))
  refine ⟨plainId_quiet F.excBase_ValueError.init.plain _, codeAny_builtin F.excBase_ValueError.initEntry ?_⟩
  rw [Around.under_plainId F.excBase_ValueError.init.plain _]
  wp_walk
  refine hq _ h.objs.size (fun b o hb ho => ?_) ?_
  · rw [Heap.get?_update_other _ _ (Ne.symm hb)]
    exact Heap.get?_push_of_some _ ho
  · rw [Heap.get?_update_self _ (Heap.get?_push_of_some _ he) rfl]
    rfl
end
/-- a method call of one argument, base first: the call at its own place in the stack -/
theorem wpAt_mcall {M : Model} {A : Around} {c : Code} {E : Value → Shared → Prop} {s : Shared} {env : Env} {o : Expr} {name : Str} {apos pos : Pos} {e : Expr} {Q : Value → Shared → Prop} (hline : (apos.endLine == pos.line) = true) (hs : starEach [e] env = [(false, eval e env)])
    (h : ∀ pl, PySem.wpAt M A c (attributeBase o name env (eval o env)) (fun ov s₁ => wpAny M A (getMethod ov name pl) (fun fx s₂ => wpAny M A (callWith pos fx.1 fx.2 (backTo pos (starEach [e] env)) []) Q E s₂) E s₁) E s) :
    PySem.wpAt M A c (eval (.Call (.Attribute o name apos) [e] [] pos) env) Q E s := by
  have hform : methodCallForm (([e] : List Expr).length + ([] : List Keyword).length) (backTo pos (starEach [e] env)) (backToKw pos (keywordEach [] env)) = true := by rw [hs]; rfl
  have hpos : methodCallPos true o env apos pos = pure pos := by unfold methodCallPos; simp [hline]
  rw [arm_eval_Call]
  refine PySem.wpAt_bind (PySem.wpAt_mono (h (do return (← importBound o env).getD true)) (fun ov s₁ h₁ => PySem.wpAt_of_wpAny (wpAny_bind (wpAny_standAt ?_))) fun _ _ x => x)
  unfold methodCall
  rw [hform]
  exact wpAny_bind (wpAny_holding (wpAny_mono h₁ (fun fx s₂ h₂ => wpAny_bind (wpAny_of_eq hpos h₂)) fun _ _ x => x))
end RD
namespace L2
open PySem PySem.Spec PyProof.Rows NdefX
section
variable {X : Cx} {pins : List (Addr × Obj)} {σ : St} {H : Hp} {s : Shared} {a C u : Addr} {E : Value → Shared → Prop} {A : Around}
theorem call_mw {rest : List Value} {Q : Value → Shared → Prop} (T : OexC X.K C) (I : Inv X pins σ H s) (e : H a = some (exo a C none)) (hu : s.heap.get? u = some (PySem.W.kxs_mw "ValueError.__init__" a)) (hl : rest.length ≤ sizeLine)
    (h : ∀ s', Inv X pins σ H s' → Q .none s') : wpAny (model X.prog X.w) A (call (.ref u) rest) Q E s := by
  obtain ⟨nm, q, N, bs, bm, sn, sub, ab, col, dd, k0, k1, k2, k3, k5, hC, hbm⟩ := T.cls
  obtain ⟨t1, ho⟩ := exo_at I.hok e
  obtain ⟨hp, g, d, t, os⟩ := s
  refine RD.call_mw0 (I.kIn _ _ hC) ho hu hl fun h' t2 k hx => ?_
  have J := I.write (t' := t) (x := a) (e := a) (o := exo a C none) (by rw [e]; exact True.intro) (.inl rfl) k ⟨_, hx⟩ (exo_ok hx)
  have eu : upd H a (exo a C none) = H := by
    funext b
    by_cases hb : b = a
    · rw [hb, upd_same, e]
    · rw [upd_ne hb]
  rw [eu] at J
  exact h _ J
end
/-- what the written part says of the class and its initializer -/
structure XtK (K : PySem.W.Frag) (file : Str) (C f cc cda : Addr) (qual : Str) (params : Arguments) (body : List Stmt) (scope : Scope) (fd : FuncData) : Prop where
  T : OexC K C
  iC : PySem.W.findIn K (.ref C) "__init__" = some (some (.ref f))
  tI : PySem.W.typeIn K (.ref f) = some (.type "function")
  fd_ : ∃ kV doc pm an ct, fd = PySem.W.fnX "__init__" qual params body scope [("__class__", cc)] .none kV doc pm an (.ref cda) ct
  lk : ∃ oc od osl, K.lookup f = some ⟨oc, od, .func fd, osl⟩
  code : PySem.W.codeIn K (.ref cda) qual = true
  co : ∃ c d vs sl tf, K.lookup cda = some ⟨c, d, .fields vs, sl⟩ ∧ vs[2]? = some (.str file tf)
  cell : ∃ c d sl, K.lookup cc = some ⟨c, d, .cell (some (.ref C)), sl⟩
  up : PySem.W.ks_superIn K C C "__init__" = some (some (.builtin "ValueError.__init__"))
  sub : PySem.W.subIn K (.ref C) (.type "ValueError") = some true
  slf : PySem.W.mroIn K C (.ref C) = some true
  op : PySem.W.nsIn K cStatics "thirdparty.any" = some none
  wo : PySem.W.findIn K (.ref C) "word" = some none
/-- what the words of the initializer are -/
structure XtW (params : Arguments) (body : List Stmt) (scope : Scope) : Prop where
  bd : ∃ (m : Str) (j : Nat) (p0 p1 p2 p3 p4 p5 p6 p7 p8 p9 : Pos), (p2.endLine == p4.line) = true ∧ body = [.Expr (.Call (.Attribute (.Call (.Name "super" p0) [] [] p1) "__init__" p2) [.Constant (.str m) j p3] [] p4) p5, .Assign [.Attribute (.Name "self" p6) "word" p7] (.Name "word" p8) p9]
  ns : NScope ["self", "word", "__class__"] ["self", "word"] ["__class__"] scope
  sup : scope.names.lookup ("super" : Str) = some .globalImplicit
  hd : ∃ ar : Arg, (params.posonlyargs ++ params.args).head? = some ar ∧ ar.arg = "self"
/-- the promise of the initializer -/
def spI (K : PySem.W.Frag) (C : Addr) : Sp := fun vs H Q _ => ∃ a v, vs = [.ref a, v] ∧ H a = some (exo a C none) ∧ ∀ dx, H dx = none → dx ≠ a → Q .non (upd (upd H dx (exd dx [("word", v)])) a (exo a C (some dx)))
section
variable {P : Program} {w : World} {K : PySem.W.Frag} {mg : Str → Option Value} {base : Heap} {file : Str} {C f cc cda : Addr} {qual : Str} {params : Arguments} {body : List Stmt} {scope : Scope} {fd : FuncData}
theorem xt_fn (Y : XtK K file C f cc cda qual params body scope fd) (W : XtW params body scope) (hP : ((P.main.file : Str) == file) = true) (hT : (P.main.scope.names.lookup ("super" : Str)).isSome = false) (hm : mg "super" = none) :
    FnOk P w K mg base (L2.CX P w) 1 f fd ["self", "word"] (spI K C) := by
  refine ⟨fun vs H Q E ⟨a, v, e, _⟩ => by rw [e]; rfl, fun A outer s H args us vs Q E hr e0 hb r hsp => ?_⟩
  obtain ⟨a, v, rfl, ha, hq⟩ := hsp
  obtain ⟨ua, uv, rfl, ra, rv⟩ := vals2 r
  obtain rfl : ua = Value.ref a := ra
  obtain ⟨kV, doc, pm, an, ct, hfd⟩ := Y.fd_
  subst hfd
  obtain ⟨oc, od, osl, lk⟩ := Y.lk
  obtain ⟨c1, d1, vs1, sl1, tf, hco, hvs⟩ := Y.co
  obtain ⟨c2, d2, sl2, hcell⟩ := Y.cell
  obtain ⟨m, j, p0, p1, p2, p3, p4, p5, p6, p7, p8, p9, hline, hbody⟩ := W.bd
  obtain ⟨ar, har, hself⟩ := W.hd
  have S := W.ns
  have KX : K.In s.heap := e0.mod.kin.keeps fun b o e => (e0.bs b o e).1
  have lim : s.heap.NoLimit := e0.mod.nolimit.keeps fun b o e => (e0.bs b o e).1
  have hck : H cc = none := (e0.bs _ _ (e0.mod.kin _ _ hcell)).2
  have CA : CellsAt [(("__class__" : Str), cc)] ["__class__"] [some (.ref C)] s.heap H := by
    have one : ∀ y c, List.lookup y [(("__class__" : Str), cc)] = some c → y = "__class__" ∧ c = cc := fun y c e => by
      by_cases hy : y = "__class__"
      · subst hy
        have e2 : some cc = some c := e
        cases e2
        exact ⟨rfl, rfl⟩
      · have e2 : List.lookup y [(("__class__" : Str), cc)] = none := by
          have z : (y == ("__class__" : Str)) = false := by simpa using hy
          simp [List.lookup, z]
        rw [e2] at e
        cases e
    refine ⟨rfl, fun y c e => ?_, fun x y c e1 e2 => (one x c e1).1.trans (one y c e2).1.symm, fun i y e => ?_⟩
    · obtain ⟨_, rfl⟩ := one y c e
      exact ⟨hck, _, ⟨_, KX _ _ hcell, rfl⟩⟩
    · cases i with
      | zero =>
        cases e
        refine ⟨cc, rfl, fun v ev => ?_⟩
        cases ev
        exact ⟨.ref C, rfl, ⟨_, KX _ _ hcell, rfl⟩⟩
      | succ i => cases e
  have hself_s : scope.names.lookup ("self" : Str) = some .local := S.par "self" (by simp)
  have hword_s : scope.names.lookup ("word" : Str) = some .local := S.par "word" (by simp)
  have hcl_s : scope.names.lookup ("__class__" : Str) = some .free := S.frk "__class__" (by simp)
  refine ks_codeAny_call_defAt hr.depth (KX _ _ lk) rfl lim (PySem.W.codeRec_of KX Y.code) rfl hb S.nocell (fun x hx => S.par x.1 (List.of_mem_zip hx).1) (fun h₀ hns kp => ?_) S.co S.gen S.kind
  show PySem.wpAt (model P w) (A.deeper (envF ⟨"__init__", qual, params, body, scope, [("__class__", cc)], cda⟩ f s.heap.objs.size)) (.func body (envF ⟨"__init__", qual, params, body, scope, [("__class__", cc)], cda⟩ f s.heap.objs.size)) (execs body (envF ⟨"__init__", qual, params, body, scope, [("__class__", cc)], cda⟩ f s.heap.objs.size)) _ _ _
  have I : Inv (ncx (L2.CX P w) P w K mg base ["self", "word", "__class__"] ⟨"__init__", qual, params, body, scope, [("__class__", cc)], cda⟩ f A outer s H E) [] (startF ["self", "word", "__class__"] [.ref a, v] [some (.ref C)]) H { s with heap := h₀, toks := s.toks + ((["self", "word"] : List Str).zip [Value.ref a, uv]).length } :=
    inv_startN S hr.hd e0 rfl r CA hns kp
  obtain ⟨hh, g, d, tk, os⟩ := s
  have KX0 : K.In h₀ := KX.keeps kp
  obtain ⟨nm, q, N, bs, bm, sn, sub, ab, col, dd, k0, k1, k2, k3, k5, hC, hbm⟩ := Y.T.cls
  obtain ⟨t1, hoa⟩ := exo_at I.hok ha
  have hcC : PySem.W.clsIn K C = some { name := nm, bases := bs, mro := .ref C :: bm, ns := N, qualname := q, hasDict := true, slotNames := sn, subclasses := sub, abstract := ab, collection := col, hasDel := false } := by unfold PySem.W.clsIn; rw [hC] <;> rfl
  obtain ⟨mb, hb1, hb2⟩ := I.mod.blt
  rw [hbody]
  refine ks_wpAt_execs_cons (ks_wpAt_Expr_any (RD.wpAt_mcall hline rfl fun pl => ?_) (by unfold interactive; rw [show (envF ⟨"__init__", qual, params, body, scope, [("__class__", cc)], cda⟩ f hh.objs.size).scope.kind = .function from S.kind]; rfl) rfl)
  refine ks_wpAt_super_base (env := envF ⟨"__init__", qual, params, body, scope, [("__class__", cc)], cda⟩ f hh.objs.size) W.sup hcl_s (by decide) rfl (KX0 _ _ lk) rfl har rfl (KX0 _ _ hco) rfl hvs hP hT ?_
  refine PySem.W.ks_loadName_global S.kind W.sup (Calls.loadGlobal_builtin (env := envF ⟨"__init__", qual, params, body, scope, [("__class__", cc)], cda⟩ f hh.objs.size) (I.mod.glob.keeps I.bk) hm (hb1.keeps I.bk) ((hb2 "super" (by decide)).trans (by decide +kernel)) ⟨rfl, ?_⟩)
  refine wpAny_loadName_free S.kind hcl_s rfl ⟨_, KX0 _ _ hcell, rfl⟩ ?_
  rw [hself]
  refine wpAny_loadName_local S.kind hself_s hns (v := .ref a) (by rfl) ?_
  refine ks_wpAny_isType_cls (KX0 _ _ hC) rfl ⟨rfl, ?_⟩
  refine ks_wpAny_call_super (KX0 _ _ hC) rfl hoa rfl (fun c e => nomatch e) (PySem.W.looks_mroIn KX0 Y.slf) (fun h1 e1 up1 => ?_)
  have KX1 : K.In h1 := KX0.keeps up1
  have ho1 := up1 _ _ hoa
  have Ia : PySem.W.InstAt h1 a _ C none := ⟨ho1, rfl, rfl, trivial⟩
  have hsup : PySem.W.alongIn K "__init__" ((((Value.ref C :: bm) : List Value).dropWhile (· != .ref C)).drop 1) = some (some (.builtin "ValueError.__init__")) := by
    have z := Y.up
    unfold PySem.W.ks_superIn at z
    rw [hcC] at z
    exact z
  refine PySem.W.kxs_getMethod PySem.W.kxs_ValueError e1 (PySem.W.looks_opaque KX1 Y.op) (l₀ := .ref C :: bm) (fun A Q E s k q => wpAny_bind ((PySem.W.looks_clsIn KX1 hcC) A _ E s k (wpAny_pure q))) rfl KX1 hsup (Ia.type.andThen (PySem.W.looks_subIn KX1 Y.sub)) (PySem.W.ks_ne KX1 Ia hcC) (by decide) ?_
  have kp2 : ∀ b o, h₀.get? b = some o → (h1.push (PySem.W.kxs_mw "ValueError.__init__" a)).get? b = some o := fun b o e => Heap.get?_push_of_some _ (up1 _ _ e)
  have hu : (h1.push (PySem.W.kxs_mw "ValueError.__init__" a)).get? h1.objs.size = some (PySem.W.kxs_mw "ValueError.__init__" a) := Heap.get?_push_at rfl rfl
  show wpAny _ _ (callWith p4 (.ref h1.objs.size) [] ((false, eval (.Constant (.str m) j p3) _) :: backTo p4 (starEach [] _)) []) _ _ _
  refine PySem.W.kxs_callWith (i := "ValueError.__init__") (x := a) rfl (Calls.evalArgs_plain ?_)
  refine Calls.spliced_cons (Calls.Constant_str (Calls.spliced_nil ⟨hu, ?_⟩))
  have I1 := I.kept (t' := tk + ((["self", "word"] : List Str).zip [Value.ref a, uv]).length + 1 + 1) kp2
  refine call_mw Y.T I1 ha hu (by show 1 ≤ sizeLine; rw [sizeLine_eq]; omega) fun s' J => ?_
  refine PySem.wpAt_of_wpAny ?_
  have hp := pss_one (ps_ost (X := ncx (L2.CX P w) P w K mg base ["self", "word", "__class__"] ⟨"__init__", qual, params, body, scope, [("__class__", cc)], cda⟩ f A outer ⟨hh, g, d, tk, os⟩ H E) (f := "word") (p' := p7) (pos := p9)
    (pe_var (i := 0) (x := "self") (pos := p6) rfl (.inl hself_s)) (pe_var (i := 1) (x := "word") (pos := p8) rfl (.inl hword_s)))
  refine wpAny_mono (hp.run [] s' _ H { nx := fun _ H' => Q .non H', rt := Q } J ⟨v, rfl, .ref a, rfl, a, C, rfl, Y.T, Y.wo, .inl ⟨ha, fun dx n ne => hq dx n ne⟩⟩) (fun fl s2 hs => ?_) fun e s2 hs => hs
  have fin : ∀ {σ' : L2.St} {H' : Hp} {v : V} {u : Value}, Inv (ncx (L2.CX P w) P w K mg base ["self", "word", "__class__"] ⟨"__init__", qual, params, body, scope, [("__class__", cc)], cda⟩ f A outer ⟨hh, g, d, tk, os⟩ H E) [] σ' H' s2 → L2.RelV v u → Q v H' → CE outer P w H ⟨hh, g, d, tk, os⟩ Q u s2 :=
    fun {σ' H' v u} J rv q => ⟨v, H', J.os, J.bare, J.base, J.hok, rv, q⟩
  cases fl with
  | ret u =>
    obtain ⟨v, σ', H', J, rv, q⟩ := hs
    exact fin J rv q
  | next =>
    obtain ⟨σ', H', J, q⟩ := hs
    exact fin (v := V.non) (u := Value.none) J rfl q
  | brk =>
    obtain ⟨_, _, _, q⟩ := hs
    exact False.elim q
  | cont =>
    obtain ⟨_, _, _, q⟩ := hs
    exact False.elim q
end
end L2
set_option Elab.async false
set_option linter.all false
set_option maxRecDepth 100000
set_option maxHeartbeats 4000000
/-! ExB: own exceptions as values: made, asked for their class, read. -/
namespace L2
open PySem PySem.Spec PyProof.Rows
section
variable {X : Cx} {C fI : Addr} {k : Nat} {fd : FuncData} {x : Str} {e : Expr} {te : TE} {p pos : Pos}
end
end L2
namespace L2
open PySem PySem.Spec PyProof.Rows
/-- what an exception class must say, so that isinstance asks its instances rightly -/
structure ExcQ (K : PySem.W.Frag) (D : Addr) : Prop where
  cl : (PySem.W.clsIn K D).isSome = true
  ga : PySem.W.findIn K (.ref D) "__getattribute__" = some (some (.builtin "BaseException.__getattribute__"))
  gt : PySem.W.findIn K (.ref D) "__getattr__" = some none
  sub : PySem.W.subIn K (.ref D) (.type "BaseException") = some true
  ha : PySem.W.findIn K (.ref D) "__class__" = some (some (.builtin "object.__class__"))
  hn : PySem.W.specialIn K (.builtin "object.__class__") "__get__" = some (some (.builtin "getset_descriptor.__get__"))
  ht : PySem.W.takesIn K (.builtin "object.__class__") = some true
  hm : PySem.W.mroIn K D (.type "object") = some true
end L2
namespace RD
open PySem L2
section
variable {P : Program} {w : World} {K : PySem.W.Frag} {mg : Str → Option Value} {base : Heap} {lv : Nat} {a b l : T} {c : Str} {C : Addr}
/-- the promise of a class with a word -/
def XwP (P : Program) (w : World) (K : PySem.W.Frag) (mg : Str → Option Value) (base : Heap) (lv : Nat) (c : Str) (C : Addr) : Prop := ∃ (fI : Addr) (fd : FuncData) (k : Nat), k + 1 ≤ lv ∧ PySem.W.nsIn K mainGlobals c = some (some (.ref C)) ∧ mg c = some (.ref C) ∧ OexC K C ∧ PySem.W.findIn K (.ref C) "__init__" = some (some (.ref fI)) ∧ PySem.W.typeIn K (.ref fI) = some (.type "function") ∧
  FnOk P w K mg base (L2.CX P w) k fI fd ["self", "word"] (spI K C) ∧ Binds K fd ["self", "word"] []
end
/-! ### what the top's run said -/
theorem oexB_ok {K : PySem.W.Frag} {C : Addr} (h : oexB K C = true) : OexC K C := by
  unfold oexB at h
  rw [Bool.and_eq_true] at h
  obtain ⟨h0, h⟩ := h
  simp only [Bool.and_eq_true, decide_eq_true_eq] at h
  obtain ⟨h1, h2, h3, h4⟩ := h
  refine ⟨?_, h1, h2, h3, h4⟩
  split at h0
  · rename_i t dd cd sl ho
    rw [Bool.and_eq_true] at h0
    obtain ⟨ht, h0⟩ := h0
    split at h0
    · rename_i C' bm k0 k1 k2 k3 n k5 hm hs
      simp only [Bool.and_eq_true, decide_eq_true_eq, Bool.not_eq_true'] at h0
      obtain ⟨⟨⟨⟨rfl, hr⟩, hd⟩, hdel⟩, rfl⟩ := h0
      have ht := of_decide_eq_true ht
      subst ht
      obtain ⟨nm, bs, mro, ns, qn, hdc, sn, sub, ab, col, del⟩ := cd
      dsimp only at hm hd hdel
      subst hm hd hdel
      have hsl : sl = #[k0, k1, k2, k3, some (.builtin "ValueError.__new__"), k5] := by
        obtain ⟨l⟩ := sl
        simp only at hs
        rw [hs]
      subst hsl
      exact ⟨_, _, _, _, _, _, _, _, _, _, _, _, _, _, _, ho, hr⟩
    · cases h0
  · cases h0
/-- the words of an initializer -/
def xtLook (d : XtD) : Bool := (match d.body with
  | [.Expr (.Call (.Attribute (.Call (.Name a _) [] [] _) b p2) [.Constant (.str _) _ _] [] p4) _, .Assign [.Attribute (.Name c _) e _] (.Name g _) _] => decide (a = "super") && (decide (b = "__init__") && ((p2.endLine == p4.line) && (decide (c = "self") && (decide (e = "word") && decide (g = "word")))))
  | _ => false) && (NdefX.nscB ["self", "word", "__class__"] ["self", "word"] ["__class__"] d.scope && (decide (d.scope.names.lookup ("super" : Str) = some .globalImplicit) && (match (d.params.posonlyargs ++ d.params.args).head? with
  | some ar => decide (ar.arg = "self")
  | none => false)))
theorem xtLook_ok {d : XtD} (h : xtLook d = true) : XtW d.params d.body d.scope := by
  unfold xtLook at h
  rw [Bool.and_eq_true, Bool.and_eq_true, Bool.and_eq_true] at h
  obtain ⟨h1, h2, h3, h4⟩ := h
  refine ⟨?_, NdefX.nscope_by h2, of_decide_eq_true h3, ?_⟩
  · split at h1
    · rename_i hb
      simp only [Bool.and_eq_true, decide_eq_true_eq] at h1
      obtain ⟨rfl, rfl, h5, rfl, rfl, rfl⟩ := h1
      exact ⟨_, _, _, _, _, _, _, _, _, _, _, _, h5, hb⟩
    · cases h1
  · split at h4
    · exact ⟨_, ‹_›, of_decide_eq_true h4⟩
    · cases h4
theorem xt_ok {K : PySem.W.Frag} {file : Str} {d : XtD} (h : xtB K file d.cls = true) (e : d.obs K = d.val) : ∃ cc cda fd, XtK K file (He.ga K d.cls) (He.ma K (He.ga K d.cls) "__init__") cc cda d.qual d.params d.body d.scope fd ∧ XfC K (He.ga K d.cls) := by
  unfold xtB at h
  simp only [Bool.and_eq_true] at h
  obtain ⟨h1, h2, h3, h4, h5, h6, h7, h8, h9, h10⟩ := h
  unfold XtD.obs at e
  split at h4
  · rename_i oc od fd osl ho
    rw [ho] at e
    obtain ⟨n1, n2, n3, n4, n5, n6, n7, n8, n9, n10, n11, n12, n13, n14, n15⟩ := fd
    have e2 : (some (n1, n2, n3, n4, n5, n6, n7.map (fun q => (q.1, (0 : Addr))), n15) : He.FnW) = (some (("__init__" : Str), d.qual, d.params, .stmts d.body, d.scope, mainGlobals, [(("__class__" : Str), (0 : Addr))], builtinsNs) : He.FnW) := e
    simp only [Option.some.injEq, Prod.mk.injEq] at e2
    obtain ⟨g1, g2, g3, g4, g5, g6, g7, g8⟩ := e2
    dsimp only at h4
    split at h4
    · rename_i cda y cc
      have g9 : y = "__class__" := by
        have g7' : [(y, (0 : Addr))] = [(("__class__" : Str), (0 : Addr))] := g7
        injection g7' with g7' _
        injection g7' with g7' _
      subst g1 g2 g3 g4 g5 g6 g8 g9
      simp only [Bool.and_eq_true] at h4
      obtain ⟨k1, k2, k3⟩ := h4
      refine ⟨cc, cda, _, ⟨oexB_ok h1, of_decide_eq_true h2, of_decide_eq_true h3, ⟨_, _, _, _, _, rfl⟩, ⟨_, _, _, ho⟩, k1, ?_, ?_, of_decide_eq_true h5, of_decide_eq_true h6, of_decide_eq_true h7, of_decide_eq_true h8, of_decide_eq_true h9⟩, xfB_ok h10⟩
      · split at k2
        · rename_i vs sl hv
          split at k2
          · rename_i fl tf hf
            have := of_decide_eq_true k2
            subst this
            exact ⟨_, _, _, _, _, hv, hf⟩
          · cases k2
        · cases k2
      · split at k3
        · rename_i sl hv
          have := of_decide_eq_true k3
          subst this
          exact ⟨_, _, _, hv⟩
        · cases k3
    · cases h4
  · cases h4
section
variable {bs : List (PySem.W.Frag → Bool)} {xs : List XtD} {fa : List He.Fa} {gl : List (Str × PyData)} {fn : List He.DefD} {K : PySem.W.Frag}
theorem SaysY.x (c : SaysY bs xs fa gl fn K) : SaysX fa gl fn K := by
  have c1 : ((obsX fa gl fn K).1 && bs.all fun b => b K, (obsX fa gl fn K).2) = He.valD fn := congrArg (fun z : He.AlD × List He.FnW => z.1) c
  have c2 : ((obsX fa gl fn K).1 && bs.all fun b => b K) = true := congrArg (fun z : He.AlD => z.1) c1
  have c3 : (obsX fa gl fn K).2 = fn.map He.DefD.val := congrArg (fun z : He.AlD => z.2) c1
  rw [Bool.and_eq_true] at c2
  exact Prod.ext c2.1 c3
theorem SaysY.old (c : SaysY bs xs fa gl fn K) : He.SaysD fa fn K := c.x.old
theorem SaysY.glob (c : SaysY bs xs fa gl fn K) {h : Heap} {mg : Str → Option Value} (X : K.In h) (G : h.Ns mainGlobals mg) (i : Nat) {q : Str × PyData} (e : gl[i]? = some q := by rfl) : GlobOk K mg q.1 q.2 := c.x.glob X G i e
theorem SaysY.test (c : SaysY bs xs fa gl fn K) (i : Nat) {b : PySem.W.Frag → Bool} (e : bs[i]? = some b := by rfl) : b K = true := by
  have c1 : ((obsX fa gl fn K).1 && bs.all fun b => b K, (obsX fa gl fn K).2) = He.valD fn := congrArg (fun z : He.AlD × List He.FnW => z.1) c
  have c2 : ((obsX fa gl fn K).1 && bs.all fun b => b K) = true := congrArg (fun z : He.AlD => z.1) c1
  rw [Bool.and_eq_true] at c2
  exact List.all_eq_true.mp c2.2 b (List.mem_of_getElem? e)
theorem SaysY.ini (c : SaysY bs xs fa gl fn K) (i : Nat) {d : XtD} (e : xs[i]? = some d := by rfl) : d.obs K = d.val := by
  have c1 : xs.map (XtD.obs K) = xs.map XtD.val := congrArg (fun z : He.AlD × List He.FnW => z.2) c
  have c2 : (xs.map (XtD.obs K))[i]? = (xs.map XtD.val)[i]? := by rw [c1]
  rw [List.getElem?_map, List.getElem?_map, e] at c2
  exact Option.some.inj c2
end
/-- .. and of the program's own words -/
structure SaysP (P : Program) (file : Str) (bs : List (PySem.W.Frag → Bool)) (xs : List XtD) (fa : List He.Fa) (gl : List (Str × PyData)) (fn : List He.DefD) (K : PySem.W.Frag) : Prop where
  y : SaysY bs xs fa gl fn K
  fil : ((P.main.file : Str) == file) = true
  sup : (P.main.scope.names.lookup ("super" : Str)).isSome = false
section
variable {P : Program} {file : Str} {bs : List (PySem.W.Frag → Bool)} {xs : List XtD} {fa : List He.Fa} {gl : List (Str × PyData)} {fn : List He.DefD} {K : PySem.W.Frag}
theorem SaysP.old (c : SaysP P file bs xs fa gl fn K) : He.SaysD fa fn K := c.y.old
theorem SaysP.glob (c : SaysP P file bs xs fa gl fn K) {h : Heap} {mg : Str → Option Value} (X : K.In h) (G : h.Ns mainGlobals mg) (i : Nat) {q : Str × PyData} (e : gl[i]? = some q := by rfl) : GlobOk K mg q.1 q.2 := c.y.glob X G i e
theorem SaysP.test (c : SaysP P file bs xs fa gl fn K) (i : Nat) {b : PySem.W.Frag → Bool} (e : bs[i]? = some b := by rfl) : b K = true := c.y.test i e
theorem SaysP.ini (c : SaysP P file bs xs fa gl fn K) (i : Nat) {d : XtD} (e : xs[i]? = some d := by rfl) : d.obs K = d.val := c.y.ini i e
end
section
variable {P : Program} {w : World} {K : PySem.W.Frag} {mg : Str → Option Value} {base h : Heap} {lv : Nat} {a b l : T}
theorem nsIn_ga {x : Str} (c : (He.Fa.glo x).ok K = true) : PySem.W.nsIn K mainGlobals x = some (some (.ref (He.ga K x))) := He.eqO_ok c
/-- the promise of a class with a word -/
theorem xw_ok {file : Str} {d : XtD} (X : K.In h) (G : h.Ns mainGlobals mg) (cg : (He.Fa.glo d.cls).ok K = true) (cs : (He.Fa.free "super").ok K = true) (hb : xtB K file d.cls = true) (e : d.obs K = d.val) (hl : xtLook d = true)
    (hbd : ∀ (cl : List (Str × Addr)) (kV doc pm : Value) (an : Option Addr) (cdv ct : Value) (us : List Value), us.length = 2 → bindArgs (PySem.W.fnX "__init__" d.qual d.params d.body d.scope cl .none kV doc pm an cdv ct) ⟨us, []⟩ = pure ((["self", "word"] : List Str).zip us))
    (hP : ((P.main.file : Str) == file) = true) (hT : (P.main.scope.names.lookup ("super" : Str)).isSome = false) (hlv : 2 ≤ lv) : XwP P w K mg base lv d.cls (He.ga K d.cls) := by
  obtain ⟨cc, cda, fd, Y, _⟩ := xt_ok hb e
  have F1 := xt_fn (P := P) (w := w) (base := base) Y (xtLook_ok hl) hP hT (He.free_ok X G cs)
  refine ⟨_, fd, 1, hlv, nsIn_ga cg, He.glo_ok X G cg, Y.T, Y.iC, Y.tI, F1, ?_⟩
  obtain ⟨kV, doc, pm, an, ct, hfd⟩ := Y.fd_
  subst hfd
  exact .all fun us hu => hbd _ kV doc pm an _ ct us hu
end
end RD
set_option Elab.async false
set_option linter.all false
set_option maxRecDepth 100000
set_option maxHeartbeats 4000000
/-! ExC: raise x(e); try: return e, except x as n: return n.word. -/
namespace RD
open PySem L2
def ckRaiseW (x : Str) : CkS := fun _ sc st => match st with
  | .Raise (some (.Call (.Name y _) [ea] [] _)) none _ => if (decide (y = x) && glB sc y && notStar ea) = true then some (some ea, [], [], []) else none
  | _ => none
theorem ckRaiseW_inv {x : Str} {N : List Str} {sc : Scope} {st : Stmt} {q : Option Expr × List Expr × List Stmt × List Stmt} (h : ckRaiseW x N sc st = some q) : ∃ p ea pos2 pos, st = .Raise (some (.Call (.Name x p) [ea] [] pos2)) none pos ∧ glB sc x = true ∧ notStar ea = true ∧ q = (some ea, [], [], []) := by
  unfold ckRaiseW at h
  split at h
  · split at h
    · rename_i c
      simp only [Bool.and_eq_true] at c
      obtain ⟨⟨c1, c2⟩, c3⟩ := c
      have := of_decide_eq_true c1
      subst this
      cases h
      exact ⟨_, _, _, _, rfl, c2, c3, rfl⟩
    · cases h
  · cases h
def fRaiseW (x : Str) : FnS := fun a _ _ _ s => (a s).dat fun w s => .exn x (some w) s
def ckTryW (x : Str) (i : Nat) : CkS := fun N sc st => match st with
  | .Try [.Return (some ea) _] [.ExceptHandler (some (.Name y _)) (some n) [.Return (some (.Attribute (.Name n2 _) m _)) _] _] [] [] _ => if (decide (y = x) && glB sc y && decide (n2 = n) && decide (m = "word") && decide (sc.names.lookup n = some .local) && decide (N[i]? = some n) && okN n) = true then some (some ea, [], [], []) else none
  | _ => none
theorem ckTryW_inv {x : Str} {i : Nat} {N : List Str} {sc : Scope} {st : Stmt} {q : Option Expr × List Expr × List Stmt × List Stmt} (h : ckTryW x i N sc st = some q) :
    ∃ ea p1 p2 n p3 p4 p5 p6 pos, st = .Try [.Return (some ea) p1] [.ExceptHandler (some (.Name x p2)) (some n) [.Return (some (.Attribute (.Name n p3) "word" p4)) p5] p6] [] [] pos ∧ glB sc x = true ∧ sc.names.lookup n = some .local ∧ N[i]? = some n ∧ okN n = true ∧ q = (some ea, [], [], []) := by
  unfold ckTryW at h
  split at h
  · split at h
    · rename_i c
      simp only [Bool.and_eq_true] at c
      obtain ⟨⟨⟨⟨⟨⟨c1, c2⟩, c3⟩, c4⟩, c5⟩, c6⟩, c7⟩ := c
      have e1 := of_decide_eq_true c1
      have e3 := of_decide_eq_true c3
      have e4 := of_decide_eq_true c4
      subst e1 e3 e4
      cases h
      exact ⟨_, _, _, _, _, _, _, _, _, rfl, c2, of_decide_eq_true c5, of_decide_eq_true c6, c7, rfl⟩
    · cases h
  · cases h
def fTryW (x : Str) (i : Nat) : FnS := fun a _ _ _ s => match a s with
  | .ok u s => .ok (.rt u) s
  | .exn c (some w) s => if c = x ∧ i < s.rho.length then .ok (.rt (.d w)) s else .stuck
  | _ => .stuck
theorem passes0 {X : Cx} : Passes (L2.CX X.prog X.w) X (fun _ _ _ => False) := fun _ _ _ _ _ _ _ h => by
  obtain ⟨_, _, _, _, _, _, _, _, _, _, _, _, z⟩ := h
  exact z.elim
section
variable {P : Program} {w : World} {K : PySem.W.Frag} {mg : Str → Option Value} {base : Heap} {lv : Nat} {a l b c' : T} {c : Str} {C : Addr}
theorem ext_raiseW (h : XwP P w K mg base lv c C) : ExsOk P w K mg base lv (ckRaiseW c) (fRaiseW c) a l b c' := by
  intro N sc X W st oa es bs cs i o tk hp hc pa _ _ _ _
  obtain ⟨p, ea, pos2, pos, rfl, hg, hs, hq⟩ := ckRaiseW_inv hc
  cases hq
  have pe := pa i o tk ea rfl
  obtain ⟨e1, e2, e3, e4, e5⟩ := i
  subst e1 e2 e3 e4 e5
  obtain ⟨fI, fd, k, hk, hns, gC, T, iC, tI, F1, hb⟩ := h
  have mk := pmk_oex (p := p) (pos := pos2) (ds := []) (dvs := []) T iC tI F1 (o.room.mono hk) hb .nil (passes0) (o.gl hg).1 gC (pa_cons pe pa_nil (star_of hs)) (o.gl hg).2 (star_of hs) rfl
  refine (ps_raise o.calm tk mk).weak fun D σ H ⟨C0, F, s, r, h⟩ => ?_
  refine ⟨C0, F, s, r, ?_⟩
  have h' : PostS X.K X.mg W C0 F ((ev a s).dat fun w s => .exn c (some w) s) D := h
  refine (PostS.dat h').imp fun u F1 s1 H1 l1 r1 ⟨x, e, h1⟩ v d1 => ?_
  subst e
  refine ⟨by show 1 ≤ 1000; decide, fun a na => ?_⟩
  refine ⟨a, v, rfl, upd_same, fun dx nx ne => ?_⟩
  have nx1 : H1 dx = none := by rw [upd_ne ne] at nx; exact nx
  have e2 : upd (del (upd (upd (upd H1 a (exo a C none)) dx (exd dx [(("word" : Str), v)])) a (exo a C (some dx))) a) dx (.xd [(("word" : Str), v)]) = upd H1 dx (.xd [(("word" : Str), v)]) := by
    funext z
    by_cases h1 : z = dx
    · rw [h1, upd_same, upd_same]
    · rw [upd_ne h1, upd_ne h1]
      by_cases h2 : z = a
      · rw [h2, del_same, na]
      · rw [del_ne h2, upd_ne h2, upd_ne h1, upd_ne h2]
  refine ⟨rfl, dx, [(("word" : Str), v)], upd_same, ?_, nx1, ?_⟩
  · rw [upd_ne ne]
    exact upd_same
  · rw [e2]
    exact h1 F1 σ _ (.ref C) (some dx) (Le.refl F1) (r1.lay _ nx1) ⟨C, gC, rfl, dx, v, rfl, upd_same, d1⟩
/-- the word of a caught one may be read -/
structure XqP (K : PySem.W.Frag) (C : Addr) : Prop where
  T : XfC K C
  wo : PySem.W.findIn K (.ref C) "word" = some none
  me : PySem.W.exmOne K (.ref C) (.ref C) = some true
theorem ext_tryW {ix : Nat} (h : XwP P w K mg base lv c C) (hq : XqP K C) : ExsOk P w K mg base lv (ckTryW c ix) (fTryW c ix) a l b c' := by
  intro N sc X W st oa es bs cs i o tk hp hc pa _ _ _ _
  obtain ⟨ea, p1, p2, n, p3, p4, p5, p6, pos, rfl, hg, hn, hN, hok, hqq⟩ := ckTryW_inv hc
  cases hqq
  obtain ⟨e1, e2, e3, e4, e5⟩ := i
  subst e1 e2 e3 e4 e5
  obtain ⟨fI, fd, k, hk, hns, gC, _, _, _, _, _⟩ := h
  have hi : X.N[ix]? = some n := by rw [o.hN]; exact hN
  have hln : X.env.scope.names.lookup n = some .local := by rw [o.hsc]; exact hn
  refine (ps_try_as (tb := fun W' => tRet (tX X.K X.mg W' a)) (ts := fun a cls d => tRet (tXf a cls d C "word" (tVar ix))) (c := .ref C) (Wout := W) (i := ix) hp.stk hp.frm (by rw [o.hN]; exact o.nd) hi hln ⟨(o.gl hg).1, (o.gl hg).2, .inl gC⟩ tk
    (fun W' pn xe t _ => pss_one (ps_ret (pa (X' := X.tr pn xe) ⟨rfl, rfl, rfl, rfl, rfl⟩ (o.tr pn xe) t ea rfl)))
    (fun a oe cls d pn hz hf => pss_one (ps_ret (pe_xf hq.T hq.wo hz hf (pe_var hi (.inl hln) (okN_db hok).1 (okN_db hok).2))))).weak fun D σ H ⟨C0, F, s, r, h⟩ => ?_
  refine ⟨C0, F, s, r, ?_⟩
  have h0 : PostS X.K X.mg W C0 F (match ev a s with
    | .ok u s => .ok (.rt u) s
    | .exn z (some w) s => if z = c ∧ ix < s.rho.length then .ok (.rt (.d w)) s else .stuck
    | _ => .stuck) D := h
  revert h0
  cases ev a s with
  | ok u s1 => exact fun h0 F' H' l r' v d => h0 F' σ H' v l r' d
  | stuck => exact fun h0 => h0.elim
  | exn z p s1 =>
    cases p with
    | none => exact fun h0 => h0.elim
    | some wd =>
      intro h0
      have h1 : PostS X.K X.mg W C0 F (if z = c ∧ ix < s1.rho.length then .ok (.rt (.d wd)) s1 else .stuck) D := h0
      by_cases hx : z = c ∧ ix < s1.rho.length
      · rw [if_pos hx] at h1
        obtain ⟨hz, hlt⟩ := hx
        subst hz
        intro F' H' cls d l r' ⟨E, e1, e2, dd, v, e3, e4, e5⟩
        rw [gC] at e1
        cases e1
        subst e2
        refine ⟨true, hq.me, fun _ a _ => ?_, fun q => by cases q⟩
        refine ⟨.ref a, List.getElem?_set_self (by rw [r'.len]; exact hlt), rfl, rfl, dd, _, v, e3, e4, rfl, h1 F' σ H' v l r' e5⟩
      · rw [if_neg hx] at h1
        exact h1.elim
theorem xq_ok {file : Str} {d : XtD} (hb : xtB K file d.cls = true) (e : d.obs K = d.val) (ce : (He.Fa.exm d.cls d.cls true).ok K = true) : XqP K (He.ga K d.cls) := by
  obtain ⟨cc, cda, fd, Y, T⟩ := xt_ok hb e
  exact ⟨T, Y.wo, He.exm_ok ce⟩
end
end RD
set_option Elab.async false
set_option linter.all false
set_option maxRecDepth 100000
set_option maxHeartbeats 4000000
/-! K15T: the law's own trees; printed by gen2.py. -/
namespace K15
open PySem L2 RD PG
def b_phrase_read_1 : T := .seq (.asg (.tname 6) (.tup (.acons (.var 7) (.acons (.var 6) .anil)))) (.nil)
def t_phrase_read (g_number_of : G) : T := .seq (.iff (.not (.isi .isStr (.var 0))) (.seq (.exs (ckRaiseW "InvalidText") (fRaiseW "InvalidText") (.cst (.int 0)) .anil .nil .nil) (.nil)) (.nil)) (.seq (.par [1, 2] (.acons (.mth .split (.var 0) (.cst (.str " "))) (.acons (.cst (.int 0)) .anil))) (.seq (.while 10 (.and (.cmp .lt (.var 2) (.blt .len (.acons (.var 1) .anil))) (.and (.cmp .lt (.var 2) (.bin .sub (.glob "MOST_WORDS" k_MOST_WORDS) (.cst (.int 1)))) (.one (.cmp .isin (.idx (.var 1) (.var 2)) (.glob "AROUND" k_AROUND))))) (.seq (.asg (.tname 2) (.bin .add (.var 2) (.cst (.int 1)))) (.nil))) (.seq (.iff (.cmp .eq (.var 2) (.blt .len (.acons (.var 1) .anil))) (.seq (.exs (ckRaiseW "InvalidText") (fRaiseW "InvalidText") (.bin .add (.var 2) (.cst (.int 1))) .anil .nil .nil) (.nil)) (.nil)) (.seq (.iff (.and (.cmp .ne (.idx (.var 1) (.var 2)) (.glob "IN" k_IN)) (.one (.cmp .notin (.idx (.var 1) (.var 2)) (.glob "NAMED" k_NAMED)))) (.seq (.exs (ckRaiseW "InvalidText") (fRaiseW "InvalidText") (.bin .add (.var 2) (.cst (.int 1))) .anil .nil .nil) (.nil)) (.nil)) (.seq (.iff (.cmp .eq (.bin .add (.var 2) (.cst (.int 1))) (.blt .len (.acons (.var 1) .anil))) (.seq (.exs (ckRaiseW "InvalidText") (fRaiseW "InvalidText") (.bin .add (.var 2) (.cst (.int 2))) .anil .nil .nil) (.nil)) (.nil)) (.seq (.asg (.ttup (.acons (.tname 3) (.acons (.tname 4) (.anil)))) (.ite (.cmp .eq (.idx (.var 1) (.var 2)) (.glob "IN" k_IN)) (.tup (.acons (.cst (.int 1)) (.acons (.glob "MOST_DAYS" k_MOST_DAYS) .anil))) (.tup (.acons (.cst (.int 0)) (.acons (.cst (.int 6)) .anil))))) (.seq (.asg (.tname 5) (.call "number_of" g_number_of (.acons (.idx (.var 1) (.bin .add (.var 2) (.cst (.int 1)))) (.acons (.var 3) (.acons (.var 4) .anil))))) (.seq (.iff (.isN (.var 5)) (.seq (.exs (ckRaiseW "InvalidText") (fRaiseW "InvalidText") (.bin .add (.var 2) (.cst (.int 2))) .anil .nil .nil) (.nil)) (.nil)) (.seq (.iff (.cmp .gt (.blt .len (.acons (.var 1) .anil)) (.bin .add (.var 2) (.cst (.int 2)))) (.seq (.exs (ckRaiseW "InvalidText") (fRaiseW "InvalidText") (.bin .add (.var 2) (.cst (.int 3))) .anil .nil .nil) (.nil)) (.nil)) (.seq (.asg (.tname 6) (.tup (.acons (.idx (.var 1) (.var 2)) (.acons (.var 5) .anil)))) (.seq (.loop (.tname 7) (.itl (.rev (.slc (.var 1) .nopart (.acons (.var 2) .anil)))) b_phrase_read_1) (.seq (.ret (.var 6)) (.nil)))))))))))))
def g_phrase_read : G := run (K15.t_phrase_read g_number_of) 1 8
def t_read_phrase (g_phrase_read : G) : T := .seq (.ret (.call "phrase_read" g_phrase_read (.acons (.var 0) .anil))) (.nil)
def g_read_phrase : G := run (K15.t_read_phrase K15.g_phrase_read) 1 1
def c__law_begins_1 : T := .comp [4] (.tname 4) (.itl (.slc (.var 0) .nopart (.acons (.bin .add (.var 3) (.cst (.int 1))) .anil))) (.one (.cmp .notin (.var 4) (.var 1))) (.var 4)
def c__law_begins_2 : T := .comp [3] (.tname 3) (.itr1 (.blt .len (.acons (.var 0) .anil))) (.one (.cmp .eq (c__law_begins_1) (.lst (.anil)))) (.cst (.int 1))
def c__law_begins_3 : T := .comp [9] (.tname 9) (.itr2 (.var 6) (.var 7)) .yes (.blt .str (.acons (.var 9) .anil))
def t__law_begins : T := .seq (.asg (.tname 1) (.lst (.acons (.cst (.str "after")) (.acons (.cst (.str "before")) (.acons (.cst (.str "week")) .anil))))) (.seq (.asg (.tname 2) (.blt .len (.acons (c__law_begins_2) .anil))) (.seq (.asg (.tname 5) (.slc (.var 0) (.acons (.var 2) .anil) .nopart)) (.seq (.iff (.or (.cmp .gt (.var 2) (.cst (.int 3))) (.one (.cmp .gt (.blt .len (.acons (.var 5) .anil)) (.cst (.int 2))))) (.seq (.ret (.cst (.bool false))) (.nil)) (.nil)) (.seq (.iff (.cmp .eq (.var 5) (.lst (.anil))) (.seq (.ret (.cst (.bool true))) (.nil)) (.nil)) (.seq (.iff (.cmp .notin (.idx (.var 5) (.cst (.int 0))) (.lst (.acons (.cst (.str "name")) (.acons (.cst (.str "this")) (.acons (.cst (.str "next")) (.acons (.cst (.str "last")) (.acons (.cst (.str "in")) .anil))))))) (.seq (.ret (.cst (.bool false))) (.nil)) (.nil)) (.seq (.asg (.ttup (.acons (.tname 6) (.acons (.tname 7) (.anil)))) (.ite (.cmp .eq (.idx (.var 5) (.cst (.int 0))) (.cst (.str "in"))) (.tup (.acons (.cst (.int 1)) (.acons (.cst (.int 16)) .anil))) (.tup (.acons (.cst (.int 0)) (.acons (.cst (.int 7)) .anil))))) (.seq (.asg (.tname 8) (c__law_begins_3)) (.seq (.ret (.or (.cmp .eq (.blt .len (.acons (.var 5) .anil)) (.cst (.int 1))) (.one (.cmp .isin (.idx (.var 5) (.cst (.int 1))) (.var 8))))) (.nil)))))))))
def g__law_begins : G := run (K15.t__law_begins) 1 10
def t__law_read (g_read_phrase : G) : T := .seq (.exs (ckTryW "InvalidText" 1) (fTryW "InvalidText" 1) (.call "read_phrase" g_read_phrase (.acons (.var 0) .anil)) .anil .nil .nil) (.nil)
def g__law_read : G := run (K15.t__law_read K15.g_read_phrase) 1 2
def c__law_right_1 (g__law_begins : G) : T := .comp [4] (.tname 4) (.itr1 (.blt .len (.acons (.var 1) .anil))) (.one (.not (.call "_law_begins" g__law_begins (.acons (.slc (.var 1) .nopart (.acons (.bin .add (.var 4) (.cst (.int 1))) .anil)) .anil)))) (.bin .add (.var 4) (.cst (.int 1)))
def t__law_right (g__law_read : G) (g__law_begins : G) (g__law_is_phrase : G) (g__law_words : G) : T := .seq (.asg (.ttup (.acons (.tname 1) (.acons (.tname 2) (.anil)))) (.tup (.acons (.mth .split (.var 0) (.cst (.str " "))) (.acons (.call "_law_read" g__law_read (.acons (.var 0) .anil)) .anil)))) (.seq (.asg (.tname 3) ((c__law_right_1 g__law_begins))) (.seq (.iff (.isi .isInt (.var 2)) (.seq (.ret (.cmp .eq (.var 2) (.ite (.cmp .ne (.var 3) (.lst (.anil))) (.idx (.var 3) (.cst (.int 0))) (.bin .add (.blt .len (.acons (.var 1) .anil)) (.cst (.int 1)))))) (.nil)) (.nil)) (.seq (.iff (.or (.cmp .ne (.var 3) (.lst (.anil))) (.one (.not (.call "_law_is_phrase" g__law_is_phrase (.acons (.var 2) (.acons (.cst (.int 4)) .anil)))))) (.seq (.ret (.cst (.bool false))) (.nil)) (.nil)) (.seq (.asg (.ttup (.acons (.tname 5) (.acons (.tname 6) (.anil)))) (.call "_law_words" g__law_words (.acons (.var 2) .anil))) (.seq (.ret (.cmp .eq (.mth .join (.cst (.str " ")) (.bin .add (.var 5) (.lst (.acons (.blt .str (.acons (.var 6) .anil)) .anil)))) (.var 0))) (.nil))))))
def g__law_right : G := run (K15.t__law_right K15.g__law_read K15.g__law_begins (g__law_is_phrase 6) (g__law_words 6)) 1 7
def t__law_bent_text (g__law_take : G) (g__law_of : G) : T := .seq (.par [2, 3] (.acons (.call "_law_take" g__law_take (.acons (.var 0) (.acons (.cst (.int 6)) .anil))) (.acons (.mth .split (.var 1) (.cst (.str " "))) .anil))) (.seq (.par [4, 5] (.acons (.call "_law_take" g__law_take (.acons (.var 0) (.acons (.bin .add (.blt .len (.acons (.var 1) .anil)) (.cst (.int 1))) .anil))) (.acons (.call "_law_take" g__law_take (.acons (.var 0) (.acons (.blt .len (.acons (.var 3) .anil)) .anil))) .anil))) (.seq (.asg (.tname 6) (.call "_law_of" g__law_of (.acons (.var 0) (.acons (.lst (.acons (.cst (.str "")) (.acons (.cst (.str "week")) (.acons (.cst (.str "after")) (.acons (.cst (.str "in")) (.acons (.cst (.str "next")) (.acons (.cst (.str "0")) (.acons (.cst (.str "7")) (.acons (.cst (.str "15")) (.acons (.cst (.str "16")) (.acons (.cst (.str "-1")) (.acons (.cst (.str "03")) (.acons (.cst (.str "Next")) (.acons (.cst (.str "\n")) .anil)))))))))))))) .anil)))) (.seq (.iff (.cmp .eq (.var 2) (.cst (.int 0))) (.seq (.ret (.bin .add (.bin .add (.slc (.var 1) .nopart (.acons (.var 4) .anil)) (.call "_law_of" g__law_of (.acons (.var 0) (.acons (.lst (.acons (.cst (.str " ")) (.acons (.cst (.str "1")) (.acons (.cst (.str "x")) (.acons (.cst (.str "\n")) .anil))))) .anil)))) (.slc (.var 1) (.acons (.var 4) .anil) .nopart))) (.nil)) (.nil)) (.seq (.iff (.cmp .eq (.var 2) (.cst (.int 1))) (.seq (.ret (.bin .add (.slc (.var 1) .nopart (.acons (.var 4) .anil)) (.slc (.var 1) (.acons (.bin .add (.var 4) (.cst (.int 1))) .anil) .nopart))) (.nil)) (.nil)) (.seq (.iff (.cmp .eq (.var 2) (.cst (.int 2))) (.seq (.ret (.mth .join (.cst (.str " ")) (.bin .add (.bin .add (.slc (.var 3) .nopart (.acons (.var 5) .anil)) (.lst (.acons (.var 6) .anil))) (.slc (.var 3) (.acons (.var 5) .anil) .nopart)))) (.nil)) (.nil)) (.seq (.iff (.cmp .eq (.var 2) (.cst (.int 3))) (.seq (.ret (.mth .join (.cst (.str " ")) (.bin .add (.bin .add (.slc (.var 3) .nopart (.acons (.var 5) .anil)) (.lst (.acons (.var 6) .anil))) (.slc (.var 3) (.acons (.bin .add (.var 5) (.cst (.int 1))) .anil) .nopart)))) (.nil)) (.nil)) (.seq (.ret (.ite (.cmp .eq (.var 2) (.cst (.int 4))) (.mth .join (.cst (.str " ")) (.slc (.var 3) .nopart (.acons (.var 5) .anil))) (.mth .join (.cst (.str " ")) (.rev (.var 3))))) (.nil))))))))
def g__law_bent_text : G := run (K15.t__law_bent_text g__law_take g__law_of) 2 7
def b_law_1 (g__law_words : G) (g__law_phrase : G) (g__law_right : G) (g__law_bent_text : G) : T := .seq (.asg (.ttup (.acons (.tname 5) (.acons (.tname 6) (.anil)))) (.call "_law_words" g__law_words (.acons (.call "_law_phrase" g__law_phrase (.acons (.var 2) (.acons (.cst (.int 4)) .anil))) .anil))) (.seq (.iff (.not (.call "_law_right" g__law_right (.acons (.call "_law_bent_text" g__law_bent_text (.acons (.var 2) (.acons (.mth .join (.cst (.str " ")) (.bin .add (.var 5) (.lst (.acons (.blt .str (.acons (.var 6) .anil)) .anil)))) .anil))) .anil))) (.seq (.ret (.cst (.bool false))) (.nil)) (.nil)) (.nil))
def b_law_2 (g__law_read : G) : T := .seq (.iff (.cmp .ne (.call "_law_read" g__law_read (.acons (.var 4) .anil)) (.cst (.int 0))) (.seq (.ret (.cst (.bool false))) (.nil)) (.nil)) (.nil)
def b_law_3 (g__law_words : G) (g__law_phrase : G) (g__law_right : G) (g__law_bent_text : G) (g__law_read : G) : T := .seq (.loop (.tname 3) (.itr1 (.cst (.int 12))) (b_law_1 g__law_words g__law_phrase g__law_right g__law_bent_text)) (.seq (.loop (.tname 4) (.itl (.lst (.acons (.cst .none) (.acons (.cst (.int 5)) (.acons (.cst (.bool true)) (.acons (.lst (.acons (.cst (.str "in 3")) .anil)) (.acons (.tup (.acons (.cst (.str "in")) (.acons (.cst (.int 3)) .anil))) .anil))))))) (b_law_2 g__law_read)) (.nil))
def b_law_4 (g__law_bag : G) (g__law_words : G) (g__law_phrase : G) (g__law_right : G) (g__law_bent_text : G) (g__law_read : G) : T := .bagged 2 "_law_bag" g__law_bag (.acons (.var 0) (.acons (.var 1) .anil)) (b_law_3 g__law_words g__law_phrase g__law_right g__law_bent_text g__law_read)
def c_law_5 (g__law_read : G) : T := .comp [8] (.tname 8) (.itl (.var 7)) (.one (.cmp .ne (.call "_law_read" g__law_read (.acons (.idx (.var 8) (.cst (.int 0))) .anil)) (.idx (.var 8) (.cst (.int 1))))) (.var 8)
def t_law (g__law_bag : G) (g__law_words : G) (g__law_phrase : G) (g__law_right : G) (g__law_bent_text : G) (g__law_read : G) : T := .seq (.loop (.tname 1) (.itr1 (.blt .max2 (.acons (.cst (.int 4)) (.acons (.blt .min2 (.acons (.cst (.int 10)) (.acons (.bin .add (.lenS 0) (.cst (.int 3))) .anil))) .anil)))) (b_law_4 g__law_bag g__law_words g__law_phrase g__law_right g__law_bent_text g__law_read)) (.seq (.asgO 7 (.lst (.acons (.tup (.acons (.cst (.str "")) (.acons (.cst (.int 1)) .anil))) (.acons (.tup (.acons (.cst (.str "next")) (.acons (.cst (.int 2)) .anil))) (.acons (.tup (.acons (.cst (.str "next 7")) (.acons (.cst (.int 2)) .anil))) (.acons (.tup (.acons (.cst (.str "in 0")) (.acons (.cst (.int 2)) .anil))) (.acons (.tup (.acons (.cst (.str "in 16")) (.acons (.cst (.int 2)) .anil))) (.acons (.tup (.acons (.cst (.str "week")) (.acons (.cst (.int 2)) .anil))) (.acons (.tup (.acons (.cst (.str "in 07")) (.acons (.cst (.int 2)) .anil))) .anil))))))))) (.seq (.asgO 7 (.bin .add (.var 7) (.lst (.acons (.tup (.acons (.cst (.str "next 4 ")) (.acons (.cst (.int 3)) .anil))) (.acons (.tup (.acons (.cst (.str " next 4")) (.acons (.cst (.int 1)) .anil))) (.acons (.tup (.acons (.cst (.str "after  next 1")) (.acons (.cst (.int 2)) .anil))) (.acons (.tup (.acons (.cst (.str "after before week next 4 4")) (.acons (.cst (.int 6)) .anil))) .anil))))))) (.seq (.app 7 (.tup (.acons (.cst (.str "week week week week in 7")) (.acons (.cst (.int 4)) .anil)))) (.seq (.ret (.cmp .eq ((c_law_5 g__law_read)) (.lst (.anil)))) (.nil)))))
def g_law : G := run (K15.t_law g__law_bag (g__law_words 6) (g__law_phrase 4) K15.g__law_right K15.g__law_bent_text K15.g__law_read) 1 9
end K15
set_option Elab.async false
set_option linter.all false
set_option maxRecDepth 100000
set_option maxHeartbeats 4000000
/-! K15A: the law's defs are the trees; printed by gen2.py from the linked T.py. -/
namespace K15
open PySem L2 RD PG
/-! number_of -/
theorem sc_number_of : FnScope ["part", "low", "high", "number"] ["part", "low", "high"] (defScope (top 16)) := ⟨rfl, rfl, rfl, by decide +kernel, rfl, by decide +kernel, by decide +kernel⟩
theorem ck_number_of : chkB ["part", "low", "high", "number"] (defScope (top 16)) (t_number_of) (defBody (top 16)) = true := by kernel_rfl
/-! phrase_read -/
theorem sc_phrase_read : FnScope ["value", "parts", "place", "low", "high", "number", "phrase", "word"] ["value"] (defScope (top 17)) := ⟨rfl, rfl, rfl, by decide +kernel, rfl, by decide +kernel, by decide +kernel⟩
theorem ck_phrase_read (g_number_of : G) : chkB ["value", "parts", "place", "low", "high", "number", "phrase", "word"] (defScope (top 17)) (K15.t_phrase_read g_number_of) (defBody (top 17)) = true := by kernel_rfl
/-! read_phrase -/
theorem sc_read_phrase : FnScope ["value"] ["value"] (defScope (top 18)) := ⟨rfl, rfl, rfl, by decide +kernel, rfl, by decide +kernel, by decide +kernel⟩
theorem ck_read_phrase (g_phrase_read : G) : chkB ["value"] (defScope (top 18)) (K15.t_read_phrase g_phrase_read) (defBody (top 18)) = true := by kernel_rfl
/-! _law_bag -/
theorem sc__law_bag : FnScope ["_law_script", "_law_k", "_law_cell"] ["_law_script", "_law_k"] (defScope (top 20)) := ⟨rfl, rfl, rfl, by decide +kernel, rfl, by decide +kernel, by decide +kernel⟩
theorem ck__law_bag : chkB ["_law_script", "_law_k", "_law_cell"] (defScope (top 20)) (t__law_bag) (defBody (top 20)) = true := by kernel_rfl
/-! _law_take -/
theorem sc__law_take : FnScope ["_law_bag_here", "_law_many", "_law_found", "_law_led"] ["_law_bag_here", "_law_many"] (defScope (top 21)) := ⟨rfl, rfl, rfl, by decide +kernel, rfl, by decide +kernel, by decide +kernel⟩
theorem ck__law_take : chkB ["_law_bag_here", "_law_many", "_law_found", "_law_led"] (defScope (top 21)) (t__law_take) (defBody (top 21)) = true := by kernel_rfl
/-! _law_of -/
theorem sc__law_of : FnScope ["_law_bag_here", "_law_some"] ["_law_bag_here", "_law_some"] (defScope (top 22)) := ⟨rfl, rfl, rfl, by decide +kernel, rfl, by decide +kernel, by decide +kernel⟩
theorem ck__law_of (g__law_take : G) : chkB ["_law_bag_here", "_law_some"] (defScope (top 22)) (t__law_of g__law_take) (defBody (top 22)) = true := by kernel_rfl
/-! _law_phrase -/
theorem sc__law_phrase : FnScope ["_law_bag_here", "_law_most", "_law_word"] ["_law_bag_here", "_law_most"] (defScope (top 23)) := ⟨rfl, rfl, rfl, by decide +kernel, rfl, by decide +kernel, by decide +kernel⟩
theorem ck__law_phrase (g__law_take : G) (g__law_phrase : G) (g__law_of : G) : chkB ["_law_bag_here", "_law_most", "_law_word"] (defScope (top 23)) (t__law_phrase g__law_take g__law_phrase g__law_of) (defBody (top 23)) = true := by kernel_rfl
/-! _law_words -/
theorem sc__law_words : FnScope ["_law_phrase_here", "_law_terms", "_law_number"] ["_law_phrase_here"] (defScope (top 24)) := ⟨rfl, rfl, rfl, by decide +kernel, rfl, by decide +kernel, by decide +kernel⟩
theorem ck__law_words (g__law_words : G) : chkB ["_law_phrase_here", "_law_terms", "_law_number"] (defScope (top 24)) (t__law_words g__law_words) (defBody (top 24)) = true := by kernel_rfl
/-! _law_is_int -/
theorem sc__law_is_int : FnScope ["_law_value", "_law_low", "_law_high"] ["_law_value", "_law_low", "_law_high"] (defScope (top 25)) := ⟨rfl, rfl, rfl, by decide +kernel, rfl, by decide +kernel, by decide +kernel⟩
theorem ck__law_is_int : chkB ["_law_value", "_law_low", "_law_high"] (defScope (top 25)) (t__law_is_int) (defBody (top 25)) = true := by kernel_rfl
/-! _law_is_phrase -/
theorem sc__law_is_phrase : FnScope ["_law_value", "_law_most"] ["_law_value", "_law_most"] (defScope (top 26)) := ⟨rfl, rfl, rfl, by decide +kernel, rfl, by decide +kernel, by decide +kernel⟩
theorem ck__law_is_phrase (g__law_is_phrase : G) (g__law_is_int : G) : chkB ["_law_value", "_law_most"] (defScope (top 26)) (t__law_is_phrase g__law_is_phrase g__law_is_int) (defBody (top 26)) = true := by kernel_rfl
/-! _law_begins -/
theorem sc__law_begins : FnScope ["_law_parts", "_law_around", "_law_many", "_law_at", "_law_one", "_law_rest", "_law_low", "_law_high", "_law_numbers", "_law_number"] ["_law_parts"] (defScope (top 27)) := ⟨rfl, rfl, rfl, by decide +kernel, rfl, by decide +kernel, by decide +kernel⟩
theorem ck__law_begins : chkB ["_law_parts", "_law_around", "_law_many", "_law_at", "_law_one", "_law_rest", "_law_low", "_law_high", "_law_numbers", "_law_number"] (defScope (top 27)) (K15.t__law_begins) (defBody (top 27)) = true := by kernel_rfl
/-! _law_read -/
theorem sc__law_read : FnScope ["_law_value", "e"] ["_law_value"] (defScope (top 28)) := ⟨rfl, rfl, rfl, by decide +kernel, rfl, by decide +kernel, by decide +kernel⟩
theorem ck__law_read (g_read_phrase : G) : chkB ["_law_value", "e"] (defScope (top 28)) (K15.t__law_read g_read_phrase) (defBody (top 28)) = true := by kernel_rfl
/-! _law_right -/
theorem sc__law_right : FnScope ["_law_value", "_law_parts", "_law_found", "_law_bad", "_law_at", "_law_terms", "_law_number"] ["_law_value"] (defScope (top 29)) := ⟨rfl, rfl, rfl, by decide +kernel, rfl, by decide +kernel, by decide +kernel⟩
theorem ck__law_right (g__law_read : G) (g__law_begins : G) (g__law_is_phrase : G) (g__law_words : G) : chkB ["_law_value", "_law_parts", "_law_found", "_law_bad", "_law_at", "_law_terms", "_law_number"] (defScope (top 29)) (K15.t__law_right g__law_read g__law_begins g__law_is_phrase g__law_words) (defBody (top 29)) = true := by kernel_rfl
/-! _law_bent_text -/
theorem sc__law_bent_text : FnScope ["_law_bag_here", "_law_text", "_law_way", "_law_parts", "_law_at", "_law_spot", "_law_word"] ["_law_bag_here", "_law_text"] (defScope (top 30)) := ⟨rfl, rfl, rfl, by decide +kernel, rfl, by decide +kernel, by decide +kernel⟩
theorem ck__law_bent_text (g__law_take : G) (g__law_of : G) : chkB ["_law_bag_here", "_law_text", "_law_way", "_law_parts", "_law_at", "_law_spot", "_law_word"] (defScope (top 30)) (K15.t__law_bent_text g__law_take g__law_of) (defBody (top 30)) = true := by kernel_rfl
/-! law -/
theorem sc_law : FnScope ["_law_script", "_law_k", "_law_bag_here", "_law_turn", "_law_value", "_law_terms", "_law_number", "_law_some", "_law_one"] ["_law_script"] (defScope (top 31)) := ⟨rfl, rfl, rfl, by decide +kernel, rfl, by decide +kernel, by decide +kernel⟩
theorem ck_law (g__law_bag : G) (g__law_words : G) (g__law_phrase : G) (g__law_right : G) (g__law_bent_text : G) (g__law_read : G) : chkB ["_law_script", "_law_k", "_law_bag_here", "_law_turn", "_law_value", "_law_terms", "_law_number", "_law_some", "_law_one"] (defScope (top 31)) (K15.t_law g__law_bag g__law_words g__law_phrase g__law_right g__law_bent_text g__law_read) (defBody (top 31)) = true := by kernel_rfl
/-! ### the top -/
section
variable {P : Program} {w : World} {K : PySem.W.Frag} {mg : Str → Option Value} {base h : Heap}
theorem blt_ok (X : K.In h) (G : h.Ns mainGlobals mg) (c : SaysP P fl bs xs fa gl fn K) : BltOk mg := by
  intro x hx
  have hc := c.old
  have hall : ∀ y ∈ bltNames, (He.Fa.free y) ∈ fa := fun y hy => List.mem_append_right _ (List.mem_map_of_mem hy)
  obtain ⟨i, hi⟩ := List.getElem?_of_mem (hall x hx)
  exact He.free_ok X G (hc.fact i hi)
theorem xw_InvalidText {lv : Nat} (X : K.In h) (G : h.Ns mainGlobals mg) (c : SaysP P fl bs xs fa gl fn K) (hlv : 2 ≤ lv) : XwP P w K mg base lv "InvalidText" (He.ga K "InvalidText") := xw_ok (d := x_InvalidText) X G (c.old.fact 15 (f := .glo "InvalidText") rfl) (c.old.fact 18 (f := .free "super") rfl) (c.test 0 rfl) (c.ini 0 rfl) (by kernel_rfl) (fun _ _ _ _ _ _ _ us hl => match us, hl with | [_, _], _ => rfl) c.fil c.sup hlv
theorem xq_InvalidText (c : SaysP P fl bs xs fa gl fn K) : XqP K (He.ga K "InvalidText") := xq_ok (d := x_InvalidText) (c.test 0 rfl) (c.ini 0 rfl) (c.old.fact 16 (f := .exm "InvalidText" "InvalidText" true) rfl)
theorem fun_number_of (c : SaysP P fl bs xs fa gl fn K) : ∃ fd, FunD K "number_of" "number_of" (defArgs (top 16)) (defBody (top 16)) (defScope (top 16)) [] [] (He.ga K "number_of") fd ∧ Binds K fd ["part", "low", "high"] [] := by
  obtain ⟨fd, F⟩ := c.old.def_ 0 (d := d_number_of) rfl
  exact ⟨fd, F, FunD.bindsN F fun _ _ _ _ _ _ us hl => match us, hl with | [_, _, _], _ => rfl⟩
theorem mg_number_of (X : K.In h) (G : h.Ns mainGlobals mg) (c : SaysP P fl bs xs fa gl fn K) : mg "number_of" = some (.ref (He.ga K "number_of")) := He.glo_ok X G (c.old.fact 0 (f := .glo "number_of") rfl)
theorem gf_number_of (X : K.In h) (G : h.Ns mainGlobals mg) (c : SaysP P fl bs xs fa gl fn K) : GF P w K mg base 1 3 "number_of" g_number_of := by
  obtain ⟨fd, F, b⟩ := fun_number_of c
  refine ⟨_, fd, ["part", "low", "high"], 1, Nat.le_refl _, rfl, mg_number_of X G c, F.kp, b, ?_⟩
  exact def_ok (lv := 0) F sc_number_of (blt_ok X G c) _ (by repeat' (first | exact True.intro | refine And.intro ?_ ?_)) (ck_number_of)
theorem fun_phrase_read (c : SaysP P fl bs xs fa gl fn K) : ∃ fd, FunD K "phrase_read" "phrase_read" (defArgs (top 17)) (defBody (top 17)) (defScope (top 17)) [] [] (He.ga K "phrase_read") fd ∧ Binds K fd ["value"] [] := by
  obtain ⟨fd, F⟩ := c.old.def_ 1 (d := d_phrase_read) rfl
  exact ⟨fd, F, FunD.bindsN F fun _ _ _ _ _ _ us hl => match us, hl with | [_], _ => rfl⟩
theorem mg_phrase_read (X : K.In h) (G : h.Ns mainGlobals mg) (c : SaysP P fl bs xs fa gl fn K) : mg "phrase_read" = some (.ref (He.ga K "phrase_read")) := He.glo_ok X G (c.old.fact 1 (f := .glo "phrase_read") rfl)
theorem gf_phrase_read (X : K.In h) (G : h.Ns mainGlobals mg) (c : SaysP P fl bs xs fa gl fn K) : GF P w K mg base 3 1 "phrase_read" K15.g_phrase_read := by
  obtain ⟨fd, F, b⟩ := fun_phrase_read c
  refine ⟨_, fd, ["value"], 3, Nat.le_refl _, rfl, mg_phrase_read X G c, F.kp, b, ?_⟩
  have h_number_of := (gf_number_of (P := P) (w := w) (base := base) X G c).mono (by decide : 1 ≤ 2)
  exact def_ok (lv := 2) F sc_phrase_read (blt_ok X G c) _ (by repeat' (first | exact True.intro | refine And.intro ?_ ?_ | exact h_number_of | exact c.glob X G 4 (q := ("IN", k_IN)) rfl | exact c.glob X G 8 (q := ("NAMED", k_NAMED)) rfl | exact c.glob X G 9 (q := ("AROUND", k_AROUND)) rfl | exact c.glob X G 10 (q := ("MOST_WORDS", k_MOST_WORDS)) rfl | exact c.glob X G 11 (q := ("MOST_DAYS", k_MOST_DAYS)) rfl | exact ext_raiseW (xw_InvalidText X G c (by decide)) | exact ext_tryW (xw_InvalidText X G c (by decide)) (xq_InvalidText c))) (ck_phrase_read _)
theorem fun_read_phrase (c : SaysP P fl bs xs fa gl fn K) : ∃ fd, FunD K "read_phrase" "read_phrase" (defArgs (top 18)) (defBody (top 18)) (defScope (top 18)) [] [] (He.ga K "read_phrase") fd ∧ Binds K fd ["value"] [] := by
  obtain ⟨fd, F⟩ := c.old.def_ 2 (d := d_read_phrase) rfl
  exact ⟨fd, F, FunD.bindsN F fun _ _ _ _ _ _ us hl => match us, hl with | [_], _ => rfl⟩
theorem mg_read_phrase (X : K.In h) (G : h.Ns mainGlobals mg) (c : SaysP P fl bs xs fa gl fn K) : mg "read_phrase" = some (.ref (He.ga K "read_phrase")) := He.glo_ok X G (c.old.fact 2 (f := .glo "read_phrase") rfl)
theorem gf_read_phrase (X : K.In h) (G : h.Ns mainGlobals mg) (c : SaysP P fl bs xs fa gl fn K) : GF P w K mg base 4 1 "read_phrase" K15.g_read_phrase := by
  obtain ⟨fd, F, b⟩ := fun_read_phrase c
  refine ⟨_, fd, ["value"], 4, Nat.le_refl _, rfl, mg_read_phrase X G c, F.kp, b, ?_⟩
  have h_phrase_read := (gf_phrase_read (P := P) (w := w) (base := base) X G c).mono (by decide : 3 ≤ 3)
  exact def_ok (lv := 3) F sc_read_phrase (blt_ok X G c) _ (by repeat' (first | exact True.intro | refine And.intro ?_ ?_ | exact h_phrase_read)) (ck_read_phrase _)
theorem fun__law_bag (c : SaysP P fl bs xs fa gl fn K) : ∃ fd, FunD K "_law_bag" "_law_bag" (defArgs (top 20)) (defBody (top 20)) (defScope (top 20)) [] [] (He.ga K "_law_bag") fd ∧ Binds K fd ["_law_script", "_law_k"] [] := by
  obtain ⟨fd, F⟩ := c.old.def_ 3 (d := d__law_bag) rfl
  exact ⟨fd, F, FunD.bindsN F fun _ _ _ _ _ _ us hl => match us, hl with | [_, _], _ => rfl⟩
theorem mg__law_bag (X : K.In h) (G : h.Ns mainGlobals mg) (c : SaysP P fl bs xs fa gl fn K) : mg "_law_bag" = some (.ref (He.ga K "_law_bag")) := He.glo_ok X G (c.old.fact 3 (f := .glo "_law_bag") rfl)
theorem gb__law_bag (X : K.In h) (G : h.Ns mainGlobals mg) (c : SaysP P fl bs xs fa gl fn K) : GB P w K mg base 1 2 "_law_bag" g__law_bag := by
  obtain ⟨fd, F, b⟩ := fun__law_bag c
  refine ⟨_, fd, ["_law_script", "_law_k"], 1, Nat.le_refl _, rfl, mg__law_bag X G c, F.kp, b, ?_⟩
  exact bag_ok (lv := 0) F sc__law_bag (blt_ok X G c) _ _ _ (by repeat' (first | exact True.intro | refine And.intro ?_ ?_)) ck__law_bag
theorem fun__law_take (c : SaysP P fl bs xs fa gl fn K) : ∃ fd, FunD K "_law_take" "_law_take" (defArgs (top 21)) (defBody (top 21)) (defScope (top 21)) [] [] (He.ga K "_law_take") fd ∧ Binds K fd ["_law_bag_here", "_law_many"] [] := by
  obtain ⟨fd, F⟩ := c.old.def_ 4 (d := d__law_take) rfl
  exact ⟨fd, F, FunD.bindsN F fun _ _ _ _ _ _ us hl => match us, hl with | [_, _], _ => rfl⟩
theorem mg__law_take (X : K.In h) (G : h.Ns mainGlobals mg) (c : SaysP P fl bs xs fa gl fn K) : mg "_law_take" = some (.ref (He.ga K "_law_take")) := He.glo_ok X G (c.old.fact 4 (f := .glo "_law_take") rfl)
theorem gf__law_take (X : K.In h) (G : h.Ns mainGlobals mg) (c : SaysP P fl bs xs fa gl fn K) : GF P w K mg base 1 2 "_law_take" g__law_take := by
  obtain ⟨fd, F, b⟩ := fun__law_take c
  refine ⟨_, fd, ["_law_bag_here", "_law_many"], 1, Nat.le_refl _, rfl, mg__law_take X G c, F.kp, b, ?_⟩
  exact def_ok (lv := 0) F sc__law_take (blt_ok X G c) _ (by repeat' (first | exact True.intro | refine And.intro ?_ ?_)) (ck__law_take)
theorem fun__law_of (c : SaysP P fl bs xs fa gl fn K) : ∃ fd, FunD K "_law_of" "_law_of" (defArgs (top 22)) (defBody (top 22)) (defScope (top 22)) [] [] (He.ga K "_law_of") fd ∧ Binds K fd ["_law_bag_here", "_law_some"] [] := by
  obtain ⟨fd, F⟩ := c.old.def_ 5 (d := d__law_of) rfl
  exact ⟨fd, F, FunD.bindsN F fun _ _ _ _ _ _ us hl => match us, hl with | [_, _], _ => rfl⟩
theorem mg__law_of (X : K.In h) (G : h.Ns mainGlobals mg) (c : SaysP P fl bs xs fa gl fn K) : mg "_law_of" = some (.ref (He.ga K "_law_of")) := He.glo_ok X G (c.old.fact 5 (f := .glo "_law_of") rfl)
theorem gf__law_of (X : K.In h) (G : h.Ns mainGlobals mg) (c : SaysP P fl bs xs fa gl fn K) : GF P w K mg base 2 2 "_law_of" g__law_of := by
  obtain ⟨fd, F, b⟩ := fun__law_of c
  refine ⟨_, fd, ["_law_bag_here", "_law_some"], 2, Nat.le_refl _, rfl, mg__law_of X G c, F.kp, b, ?_⟩
  have h__law_take := (gf__law_take (P := P) (w := w) (base := base) X G c).mono (by decide : 1 ≤ 1)
  exact def_ok (lv := 1) F sc__law_of (blt_ok X G c) _ (by repeat' (first | exact True.intro | refine And.intro ?_ ?_ | exact h__law_take)) (ck__law_of _)
theorem fun__law_phrase (c : SaysP P fl bs xs fa gl fn K) : ∃ fd, FunD K "_law_phrase" "_law_phrase" (defArgs (top 23)) (defBody (top 23)) (defScope (top 23)) [] [] (He.ga K "_law_phrase") fd ∧ Binds K fd ["_law_bag_here", "_law_most"] [] := by
  obtain ⟨fd, F⟩ := c.old.def_ 6 (d := d__law_phrase) rfl
  exact ⟨fd, F, FunD.bindsN F fun _ _ _ _ _ _ us hl => match us, hl with | [_, _], _ => rfl⟩
theorem mg__law_phrase (X : K.In h) (G : h.Ns mainGlobals mg) (c : SaysP P fl bs xs fa gl fn K) : mg "_law_phrase" = some (.ref (He.ga K "_law_phrase")) := He.glo_ok X G (c.old.fact 6 (f := .glo "_law_phrase") rfl)
theorem gf__law_phrase (X : K.In h) (G : h.Ns mainGlobals mg) (c : SaysP P fl bs xs fa gl fn K) : ∀ n, GF P w K mg base (2 + n) 2 "_law_phrase" (g__law_phrase n)
  | 0 => by
    obtain ⟨fd, F, b⟩ := fun__law_phrase c
    exact ⟨_, fd, ["_law_bag_here", "_law_most"], 2, Nat.le_refl _, rfl, mg__law_phrase X G c, F.kp, b, fn_stuck⟩
  | n + 1 => by
    obtain ⟨fd, F, b⟩ := fun__law_phrase c
    have ih := gf__law_phrase X G c n
    refine ⟨_, fd, ["_law_bag_here", "_law_most"], 2 + n + 1, Nat.le_refl _, rfl, mg__law_phrase X G c, F.kp, b, ?_⟩
    have h__law_take := (gf__law_take (P := P) (w := w) (base := base) X G c).mono (Nat.le_add_right 2 n |> Nat.le_trans (by decide : 1 ≤ 2))
    have h__law_of := (gf__law_of (P := P) (w := w) (base := base) X G c).mono (Nat.le_add_right 2 n |> Nat.le_trans (by decide : 2 ≤ 2))
    exact def_ok (lv := 2 + n) F sc__law_phrase (blt_ok X G c) _ (by repeat' (first | exact True.intro | refine And.intro ?_ ?_ | exact ih | exact h__law_take | exact h__law_of)) (ck__law_phrase _ _ _)
theorem fun__law_words (c : SaysP P fl bs xs fa gl fn K) : ∃ fd, FunD K "_law_words" "_law_words" (defArgs (top 24)) (defBody (top 24)) (defScope (top 24)) [] [] (He.ga K "_law_words") fd ∧ Binds K fd ["_law_phrase_here"] [] := by
  obtain ⟨fd, F⟩ := c.old.def_ 7 (d := d__law_words) rfl
  exact ⟨fd, F, FunD.bindsN F fun _ _ _ _ _ _ us hl => match us, hl with | [_], _ => rfl⟩
theorem mg__law_words (X : K.In h) (G : h.Ns mainGlobals mg) (c : SaysP P fl bs xs fa gl fn K) : mg "_law_words" = some (.ref (He.ga K "_law_words")) := He.glo_ok X G (c.old.fact 7 (f := .glo "_law_words") rfl)
theorem gf__law_words (X : K.In h) (G : h.Ns mainGlobals mg) (c : SaysP P fl bs xs fa gl fn K) : ∀ n, GF P w K mg base (0 + n) 1 "_law_words" (g__law_words n)
  | 0 => by
    obtain ⟨fd, F, b⟩ := fun__law_words c
    exact ⟨_, fd, ["_law_phrase_here"], 0, Nat.le_refl _, rfl, mg__law_words X G c, F.kp, b, fn_stuck⟩
  | n + 1 => by
    obtain ⟨fd, F, b⟩ := fun__law_words c
    have ih := gf__law_words X G c n
    refine ⟨_, fd, ["_law_phrase_here"], 0 + n + 1, Nat.le_refl _, rfl, mg__law_words X G c, F.kp, b, ?_⟩
    exact def_ok (lv := 0 + n) F sc__law_words (blt_ok X G c) _ (by repeat' (first | exact True.intro | refine And.intro ?_ ?_ | exact ih)) (ck__law_words _)
theorem fun__law_is_int (c : SaysP P fl bs xs fa gl fn K) : ∃ fd, FunD K "_law_is_int" "_law_is_int" (defArgs (top 25)) (defBody (top 25)) (defScope (top 25)) [] [] (He.ga K "_law_is_int") fd ∧ Binds K fd ["_law_value", "_law_low", "_law_high"] [] := by
  obtain ⟨fd, F⟩ := c.old.def_ 8 (d := d__law_is_int) rfl
  exact ⟨fd, F, FunD.bindsN F fun _ _ _ _ _ _ us hl => match us, hl with | [_, _, _], _ => rfl⟩
theorem mg__law_is_int (X : K.In h) (G : h.Ns mainGlobals mg) (c : SaysP P fl bs xs fa gl fn K) : mg "_law_is_int" = some (.ref (He.ga K "_law_is_int")) := He.glo_ok X G (c.old.fact 8 (f := .glo "_law_is_int") rfl)
theorem gf__law_is_int (X : K.In h) (G : h.Ns mainGlobals mg) (c : SaysP P fl bs xs fa gl fn K) : GF P w K mg base 1 3 "_law_is_int" g__law_is_int := by
  obtain ⟨fd, F, b⟩ := fun__law_is_int c
  refine ⟨_, fd, ["_law_value", "_law_low", "_law_high"], 1, Nat.le_refl _, rfl, mg__law_is_int X G c, F.kp, b, ?_⟩
  exact def_ok (lv := 0) F sc__law_is_int (blt_ok X G c) _ (by repeat' (first | exact True.intro | refine And.intro ?_ ?_)) (ck__law_is_int)
theorem fun__law_is_phrase (c : SaysP P fl bs xs fa gl fn K) : ∃ fd, FunD K "_law_is_phrase" "_law_is_phrase" (defArgs (top 26)) (defBody (top 26)) (defScope (top 26)) [] [] (He.ga K "_law_is_phrase") fd ∧ Binds K fd ["_law_value", "_law_most"] [] := by
  obtain ⟨fd, F⟩ := c.old.def_ 9 (d := d__law_is_phrase) rfl
  exact ⟨fd, F, FunD.bindsN F fun _ _ _ _ _ _ us hl => match us, hl with | [_, _], _ => rfl⟩
theorem mg__law_is_phrase (X : K.In h) (G : h.Ns mainGlobals mg) (c : SaysP P fl bs xs fa gl fn K) : mg "_law_is_phrase" = some (.ref (He.ga K "_law_is_phrase")) := He.glo_ok X G (c.old.fact 9 (f := .glo "_law_is_phrase") rfl)
theorem gf__law_is_phrase (X : K.In h) (G : h.Ns mainGlobals mg) (c : SaysP P fl bs xs fa gl fn K) : ∀ n, GF P w K mg base (1 + n) 2 "_law_is_phrase" (g__law_is_phrase n)
  | 0 => by
    obtain ⟨fd, F, b⟩ := fun__law_is_phrase c
    exact ⟨_, fd, ["_law_value", "_law_most"], 1, Nat.le_refl _, rfl, mg__law_is_phrase X G c, F.kp, b, fn_stuck⟩
  | n + 1 => by
    obtain ⟨fd, F, b⟩ := fun__law_is_phrase c
    have ih := gf__law_is_phrase X G c n
    refine ⟨_, fd, ["_law_value", "_law_most"], 1 + n + 1, Nat.le_refl _, rfl, mg__law_is_phrase X G c, F.kp, b, ?_⟩
    have h__law_is_int := (gf__law_is_int (P := P) (w := w) (base := base) X G c).mono (Nat.le_add_right 1 n |> Nat.le_trans (by decide : 1 ≤ 1))
    exact def_ok (lv := 1 + n) F sc__law_is_phrase (blt_ok X G c) _ (by repeat' (first | exact True.intro | refine And.intro ?_ ?_ | exact ih | exact h__law_is_int)) (ck__law_is_phrase _ _)
theorem fun__law_begins (c : SaysP P fl bs xs fa gl fn K) : ∃ fd, FunD K "_law_begins" "_law_begins" (defArgs (top 27)) (defBody (top 27)) (defScope (top 27)) [] [] (He.ga K "_law_begins") fd ∧ Binds K fd ["_law_parts"] [] := by
  obtain ⟨fd, F⟩ := c.old.def_ 10 (d := d__law_begins) rfl
  exact ⟨fd, F, FunD.bindsN F fun _ _ _ _ _ _ us hl => match us, hl with | [_], _ => rfl⟩
theorem mg__law_begins (X : K.In h) (G : h.Ns mainGlobals mg) (c : SaysP P fl bs xs fa gl fn K) : mg "_law_begins" = some (.ref (He.ga K "_law_begins")) := He.glo_ok X G (c.old.fact 10 (f := .glo "_law_begins") rfl)
theorem gf__law_begins (X : K.In h) (G : h.Ns mainGlobals mg) (c : SaysP P fl bs xs fa gl fn K) : GF P w K mg base 1 1 "_law_begins" K15.g__law_begins := by
  obtain ⟨fd, F, b⟩ := fun__law_begins c
  refine ⟨_, fd, ["_law_parts"], 1, Nat.le_refl _, rfl, mg__law_begins X G c, F.kp, b, ?_⟩
  exact def_ok (lv := 0) F sc__law_begins (blt_ok X G c) _ (by repeat' (first | exact True.intro | refine And.intro ?_ ?_)) (ck__law_begins)
theorem fun__law_read (c : SaysP P fl bs xs fa gl fn K) : ∃ fd, FunD K "_law_read" "_law_read" (defArgs (top 28)) (defBody (top 28)) (defScope (top 28)) [] [] (He.ga K "_law_read") fd ∧ Binds K fd ["_law_value"] [] := by
  obtain ⟨fd, F⟩ := c.old.def_ 11 (d := d__law_read) rfl
  exact ⟨fd, F, FunD.bindsN F fun _ _ _ _ _ _ us hl => match us, hl with | [_], _ => rfl⟩
theorem mg__law_read (X : K.In h) (G : h.Ns mainGlobals mg) (c : SaysP P fl bs xs fa gl fn K) : mg "_law_read" = some (.ref (He.ga K "_law_read")) := He.glo_ok X G (c.old.fact 11 (f := .glo "_law_read") rfl)
theorem gf__law_read (X : K.In h) (G : h.Ns mainGlobals mg) (c : SaysP P fl bs xs fa gl fn K) : GF P w K mg base 5 1 "_law_read" K15.g__law_read := by
  obtain ⟨fd, F, b⟩ := fun__law_read c
  refine ⟨_, fd, ["_law_value"], 5, Nat.le_refl _, rfl, mg__law_read X G c, F.kp, b, ?_⟩
  have h_read_phrase := (gf_read_phrase (P := P) (w := w) (base := base) X G c).mono (by decide : 4 ≤ 4)
  exact def_ok (lv := 4) F sc__law_read (blt_ok X G c) _ (by repeat' (first | exact True.intro | refine And.intro ?_ ?_ | exact h_read_phrase | exact ext_raiseW (xw_InvalidText X G c (by decide)) | exact ext_tryW (xw_InvalidText X G c (by decide)) (xq_InvalidText c))) (ck__law_read _)
theorem fun__law_right (c : SaysP P fl bs xs fa gl fn K) : ∃ fd, FunD K "_law_right" "_law_right" (defArgs (top 29)) (defBody (top 29)) (defScope (top 29)) [] [] (He.ga K "_law_right") fd ∧ Binds K fd ["_law_value"] [] := by
  obtain ⟨fd, F⟩ := c.old.def_ 12 (d := d__law_right) rfl
  exact ⟨fd, F, FunD.bindsN F fun _ _ _ _ _ _ us hl => match us, hl with | [_], _ => rfl⟩
theorem mg__law_right (X : K.In h) (G : h.Ns mainGlobals mg) (c : SaysP P fl bs xs fa gl fn K) : mg "_law_right" = some (.ref (He.ga K "_law_right")) := He.glo_ok X G (c.old.fact 12 (f := .glo "_law_right") rfl)
theorem gf__law_right (X : K.In h) (G : h.Ns mainGlobals mg) (c : SaysP P fl bs xs fa gl fn K) : GF P w K mg base 8 1 "_law_right" K15.g__law_right := by
  obtain ⟨fd, F, b⟩ := fun__law_right c
  refine ⟨_, fd, ["_law_value"], 8, Nat.le_refl _, rfl, mg__law_right X G c, F.kp, b, ?_⟩
  have h__law_read := (gf__law_read (P := P) (w := w) (base := base) X G c).mono (by decide : 5 ≤ 7)
  have h__law_begins := (gf__law_begins (P := P) (w := w) (base := base) X G c).mono (by decide : 1 ≤ 7)
  have h__law_is_phrase := (gf__law_is_phrase (P := P) (w := w) (base := base) X G c 6).mono (by decide : 7 ≤ 7)
  have h__law_words := (gf__law_words (P := P) (w := w) (base := base) X G c 6).mono (by decide : 6 ≤ 7)
  exact def_ok (lv := 7) F sc__law_right (blt_ok X G c) _ (by repeat' (first | exact True.intro | refine And.intro ?_ ?_ | exact h__law_read | exact h__law_begins | exact h__law_is_phrase | exact h__law_words)) (ck__law_right _ _ _ _)
theorem fun__law_bent_text (c : SaysP P fl bs xs fa gl fn K) : ∃ fd, FunD K "_law_bent_text" "_law_bent_text" (defArgs (top 30)) (defBody (top 30)) (defScope (top 30)) [] [] (He.ga K "_law_bent_text") fd ∧ Binds K fd ["_law_bag_here", "_law_text"] [] := by
  obtain ⟨fd, F⟩ := c.old.def_ 13 (d := d__law_bent_text) rfl
  exact ⟨fd, F, FunD.bindsN F fun _ _ _ _ _ _ us hl => match us, hl with | [_, _], _ => rfl⟩
theorem mg__law_bent_text (X : K.In h) (G : h.Ns mainGlobals mg) (c : SaysP P fl bs xs fa gl fn K) : mg "_law_bent_text" = some (.ref (He.ga K "_law_bent_text")) := He.glo_ok X G (c.old.fact 13 (f := .glo "_law_bent_text") rfl)
theorem gf__law_bent_text (X : K.In h) (G : h.Ns mainGlobals mg) (c : SaysP P fl bs xs fa gl fn K) : GF P w K mg base 3 2 "_law_bent_text" K15.g__law_bent_text := by
  obtain ⟨fd, F, b⟩ := fun__law_bent_text c
  refine ⟨_, fd, ["_law_bag_here", "_law_text"], 3, Nat.le_refl _, rfl, mg__law_bent_text X G c, F.kp, b, ?_⟩
  have h__law_take := (gf__law_take (P := P) (w := w) (base := base) X G c).mono (by decide : 1 ≤ 2)
  have h__law_of := (gf__law_of (P := P) (w := w) (base := base) X G c).mono (by decide : 2 ≤ 2)
  exact def_ok (lv := 2) F sc__law_bent_text (blt_ok X G c) _ (by repeat' (first | exact True.intro | refine And.intro ?_ ?_ | exact h__law_take | exact h__law_of)) (ck__law_bent_text _ _)
theorem fun_law (c : SaysP P fl bs xs fa gl fn K) : ∃ fd, FunD K "law" "law" (defArgs (top 31)) (defBody (top 31)) (defScope (top 31)) [] [] (He.ga K "law") fd ∧ Binds K fd ["_law_script"] [] := by
  obtain ⟨fd, F⟩ := c.old.def_ 14 (d := d_law) rfl
  exact ⟨fd, F, FunD.bindsN F fun _ _ _ _ _ _ us hl => match us, hl with | [_], _ => rfl⟩
theorem mg_law (X : K.In h) (G : h.Ns mainGlobals mg) (c : SaysP P fl bs xs fa gl fn K) : mg "law" = some (.ref (He.ga K "law")) := He.glo_ok X G (c.old.fact 14 (f := .glo "law") rfl)
theorem fn_law (X : K.In h) (G : h.Ns mainGlobals mg) (c : SaysP P fl bs xs fa gl fn K) {fd : FuncData} (F : FunD K "law" "law" (defArgs (top 31)) (defBody (top 31)) (defScope (top 31)) [] [] (He.ga K "law") fd) : FnOk P w K mg base (L2.CX P w) 9 (He.ga K "law") fd ["_law_script"] (spG K mg 1 K15.g_law) := by
  have h__law_bag := (gb__law_bag (P := P) (w := w) (base := base) X G c).mono (by decide : 1 ≤ 8)
  have h__law_words := (gf__law_words (P := P) (w := w) (base := base) X G c 6).mono (by decide : 6 ≤ 8)
  have h__law_phrase := (gf__law_phrase (P := P) (w := w) (base := base) X G c 4).mono (by decide : 6 ≤ 8)
  have h__law_right := (gf__law_right (P := P) (w := w) (base := base) X G c).mono (by decide : 8 ≤ 8)
  have h__law_bent_text := (gf__law_bent_text (P := P) (w := w) (base := base) X G c).mono (by decide : 3 ≤ 8)
  have h__law_read := (gf__law_read (P := P) (w := w) (base := base) X G c).mono (by decide : 5 ≤ 8)
  exact def_ok (lv := 8) F sc_law (blt_ok X G c) _ (by repeat' (first | exact True.intro | refine And.intro ?_ ?_ | exact h__law_bag | exact h__law_words | exact h__law_phrase | exact h__law_right | exact h__law_bent_text | exact h__law_read)) (ck_law _ _ _ _ _ _)
end
end K15
set_option Elab.async false
set_option linter.all false
set_option maxRecDepth 100000
/-! K15E: the end, the law over the trees granted. -/
section
open PySem PySem.W PySem.Calls PyProof.Rows
set_option maxRecDepth 100000 in
set_option maxHeartbeats 0 in
theorem K15.ends (lt : ∀ ns : List Int, ns.length ≤ 63 → K15.g_law [.scr ns] none = .ok (.d (.bool true)) none) : PySem.Challenge.rw_retolddays_k15_texts_that_are_no_phrases.Holds := by
  w_on; o_law
  refine HandSHeadRun.head_any (r := OpenLaw.row PySem.Challenge.rw_retolddays_k15_texts_that_are_no_phrases) (q := view (OpenLaw.row PySem.Challenge.rw_retolddays_k15_texts_that_are_no_phrases).prog [31]) (H := K15.hk) (ob := K15.ob) (M := 8000) (loose := K15.loose)
    (d := HandSHeadRun.topDef (OpenLaw.row PySem.Challenge.rw_retolddays_k15_texts_that_are_no_phrases).prog 31) (kwd := []) K15.ob_eq
    (by kernel_rfl) (fun s => by kernel_rfl) K15.run_top (by kernel_rfl) (by kernel_rfl) (by kernel_rfl) (by rfl)
    (by first | assumption | decide +kernel) (by decide +kernel) ⟨rfl, rfl, rfl, rfl, rfl, by decide +kernel⟩ ?hw ?hc
  case hw => w_witness2
  case hc =>
    refine L2.walk_ofE (l := PySem.Challenge.rw_retolddays_k15_texts_that_are_no_phrases) (n := 63) (k := 9) (x := "_law_script") (CX := RD.CXA) rfl (by decide) (by kernel_rfl) ⟨rfl, by decide, by decide⟩ ?F RD.law_out
    intro w mg fa h Y G hmg0
    obtain ⟨K, KX, c⟩ := Y
    have c : RD.SaysP PySem.Challenge.pw_retolddays_k15_texts_that_are_no_phrases K15.fl K15.bs K15.xs K15.fa K15.gl K15.fn K := ⟨c, by kernel_rfl, by kernel_rfl⟩
    have en : (HandSHeadRun.topDef (OpenLaw.row PySem.Challenge.rw_retolddays_k15_texts_that_are_no_phrases).prog 31).name = ("law" : PySem.Str) := by kernel_rfl
    rw [en] at hmg0
    have e := hmg0.symm.trans (K15.mg_law KX G c)
    cases e
    obtain ⟨fd, F, b⟩ := K15.fun_law c
    exact ⟨K, fd, RD.spG K mg 1 K15.g_law, KX, fun s u => L2.FunD.bindsA (ps := ["_law_script"]) F (fun _ _ _ _ _ _ us hl => match us, hl with | [_], _ => rfl) s [u] rfl,
      fun H a ns hl _ hS => RD.spG_law hS (lt ns hl), fun base _ _ => RD.fn_cxa (K15.fn_law KX G c F)⟩
end
set_option Elab.async false
set_option linter.all false
set_option maxRecDepth 100000
set_option maxHeartbeats 4000000
/-! PgB: what the law's defs compute. -/
namespace PG
open PySem L2 RD
theorem fm0 (x : Int) {m : Int} (h : 0 < m) : 0 ≤ x.fmod m := by
  rw [Int.fmod_eq_emod_of_nonneg x (Int.le_of_lt h)]
  exact Int.emod_nonneg x (by omega)
theorem fm1 (x : Int) {m : Int} (h : 0 < m) : x.fmod m < m := by
  rw [Int.fmod_eq_emod_of_nonneg x (Int.le_of_lt h)]
  exact Int.emod_lt_of_pos x h
theorem take_ok {m : Int} (h1 : 1 ≤ m) (h2 : m < 1073741824) (x y : Int) : ∃ r x' y', 0 ≤ r ∧ r < m ∧ g__law_take [.bag, .d (.int m)] (some (x, y)) = .ok (.d (.int r)) (some (x', y')) := by
  have hm : m ≠ 0 := by omega
  have hd : CDivN x m := ⟨hm, by omega⟩
  by_cases hx : 0 < x
  · refine ⟨x.fmod m, x.fdiv m, y, fm0 x (by omega), fm1 x (by omega), ?_⟩
    simp [g__law_take, RD.run, ex, ev, evA, big, t__law_take, hx, hm, hd]
  · have c1 : CMul y 39373 := .inr ⟨by decide, by decide⟩
    have b0 := fm0 (y * 39373 + 307) (m := 2147483353) (by decide)
    have b1 := fm1 (y * 39373 + 307) (m := 2147483353) (by decide)
    have c3 : ∀ z, CDivN z 11 := fun z => ⟨by decide, by decide⟩
    have c4 : ∀ z, CDivN z 13 := fun z => ⟨by decide, by decide⟩
    have c2 : ∀ z, CMul ((y * 39373 + 307).fmod 2147483353) z := fun z => .inl ⟨by omega, by omega⟩
    refine ⟨((((y * 39373 + 307).fmod 2147483353 * (((y * 39373 + 307).fmod 2147483353).fdiv 11 + 29)).fmod 2147483323).fdiv 13).fmod m, x, (y * 39373 + 307).fmod 2147483353, fm0 _ (m := m) (by omega), fm1 _ (m := m) (by omega), ?_⟩
    simp [g__law_take, RD.run, ex, ev, evA, big, t__law_take, hx, hm, c1, c2, c3, c4]
/-- one of a list -/
theorem of_ok (l : List PyData) (h0 : l ≠ []) (h1 : l.length < 1000) (x y : Int) : ∃ v x' y', v ∈ l ∧ g__law_of [.bag, .d (.list l)] (some (x, y)) = .ok (.d v) (some (x', y')) := by
  have hl : 1 ≤ l.length := by
    cases l with
    | nil => exact absurd rfl h0
    | cons _ _ => exact Nat.succ_le_succ (Nat.zero_le _)
  obtain ⟨r, x', y', a, b, e⟩ := take_ok (m := l.length) (by omega) (by omega) x y
  have hr : r.toNat < l.length := by omega
  refine ⟨l[r.toNat], x', y', List.getElem_mem hr, ?_⟩
  have ei : atI l r = some l[r.toNat] := by
    have h := atI_nat (List.getElem?_eq_getElem hr)
    rwa [show ((r.toNat : Nat) : Int) = r by omega] at h
  simp [g__law_of, RD.run, ex, ev, evA, big, t__law_of, e, ei]
def ws : List PyData := [.str "after", .str "before", .str "week"]
def ls : List PyData := [.str "name", .str "this", .str "next", .str "last"]
def leaves : List PyData := (ls.flatMap fun w => (List.range 7).map fun (k : Nat) => PyData.tuple [w, .int (k : Int)]) ++ (List.range 15).map fun (k : Nat) => PyData.tuple [.str "in", .int (1 + (k : Int))]
/-- all phrases of at most n + 1 words -/
def phs : Nat → List PyData
  | 0 => leaves
  | n + 1 => leaves ++ ws.flatMap fun w => (phs n).map fun p => PyData.tuple [w, p]
theorem leaf_in : ∀ (n : Nat) (p : PyData), p ∈ leaves → p ∈ phs n
  | 0, _, h => h
  | _ + 1, _, h => List.mem_append_left _ h
theorem wrap_in {n : Nat} {p w : PyData} (hw : w ∈ ws) (h : p ∈ phs n) : PyData.tuple [w, p] ∈ phs (n + 1) :=
  List.mem_append_right _ (List.mem_flatMap.mpr ⟨w, hw, List.mem_map_of_mem h⟩)
theorem leaf1 {w : PyData} {k : Int} (hw : w ∈ ls) (h0 : 0 ≤ k) (h1 : k < 7) : PyData.tuple [w, .int k] ∈ leaves := by
  refine List.mem_append_left _ (List.mem_flatMap.mpr ⟨w, hw, ?_⟩)
  have : k = ((k.toNat : Nat) : Int) := by omega
  rw [this]
  exact List.mem_map_of_mem (a := k.toNat) (f := fun (k : Nat) => PyData.tuple [w, .int (k : Int)]) (List.mem_range.mpr (by omega))
theorem leaf2 {k : Int} (h0 : 0 ≤ k) (h1 : k < 15) : PyData.tuple [.str "in", .int (1 + k)] ∈ leaves := by
  refine List.mem_append_right _ ?_
  have : k = ((k.toNat : Nat) : Int) := by omega
  rw [this]
  exact List.mem_map_of_mem (a := k.toNat) (f := fun (k : Nat) => PyData.tuple [.str "in", .int (1 + (k : Int))]) (List.mem_range.mpr (by omega))
/-- the words that are drawn -/
def six : List PyData := [.str "name", .str "this", .str "next", .str "next", .str "last", .str "in"]
theorem six_in {w : PyData} (h : w ∈ six) : ∃ z, w = .str z ∧ cmpop .eq (.str z) (.str "in") = some (z == ("in" : Str)) ∧ ((z == ("in" : Str)) = true ∧ w = .str "in" ∨ (z == ("in" : Str)) = false ∧ w ∈ ls) := by
  unfold six at h
  simp only [List.mem_cons, List.not_mem_nil, or_false] at h
  rcases h with rfl | rfl | rfl | rfl | rfl | rfl
  · exact ⟨_, rfl, cmp_eqs (by decide +kernel) (by decide +kernel), .inr ⟨by decide +kernel, by simp [ls]⟩⟩
  · exact ⟨_, rfl, cmp_eqs (by decide +kernel) (by decide +kernel), .inr ⟨by decide +kernel, by simp [ls]⟩⟩
  · exact ⟨_, rfl, cmp_eqs (by decide +kernel) (by decide +kernel), .inr ⟨by decide +kernel, by simp [ls]⟩⟩
  · exact ⟨_, rfl, cmp_eqs (by decide +kernel) (by decide +kernel), .inr ⟨by decide +kernel, by simp [ls]⟩⟩
  · exact ⟨_, rfl, cmp_eqs (by decide +kernel) (by decide +kernel), .inr ⟨by decide +kernel, by simp [ls]⟩⟩
  · exact ⟨_, rfl, cmp_eqs (by decide +kernel) (by decide +kernel), .inl ⟨by decide +kernel, rfl⟩⟩
/-- the word and its number -/
theorem leaf_ok (x y : Int) : ∃ (z : Str) (x1 y1 x2 y2 : Int) (r : Int), g__law_of [.bag, .d (.list six)] (some (x, y)) = .ok (.d (.str z)) (some (x1, y1)) ∧ cmpop .eq (.str z) (.str "in") = some (z == ("in" : Str)) ∧
    ((z == ("in" : Str)) = true ∧ g__law_take [.bag, .d (.int 15)] (some (x1, y1)) = .ok (.d (.int r)) (some (x2, y2)) ∧ PyData.tuple [.str z, .int (1 + r)] ∈ leaves ∨
     (z == ("in" : Str)) = false ∧ g__law_take [.bag, .d (.int 7)] (some (x1, y1)) = .ok (.d (.int r)) (some (x2, y2)) ∧ PyData.tuple [.str z, .int r] ∈ leaves) := by
  obtain ⟨w, x1, y1, hw, e1⟩ := of_ok six (by simp [six]) (by simp [six]) x y
  obtain ⟨z, rfl, hc, hz | hz⟩ := six_in hw
  · obtain ⟨r, x2, y2, a, b, e2⟩ := take_ok (m := 15) (by decide) (by decide) x1 y1
    have : z = "in" := eq_of_beq hz.1
    exact ⟨z, x1, y1, x2, y2, r, e1, hc, .inl ⟨hz.1, e2, by rw [this]; exact leaf2 a b⟩⟩
  · obtain ⟨r, x2, y2, a, b, e2⟩ := take_ok (m := 7) (by decide) (by decide) x1 y1
    exact ⟨z, x1, y1, x2, y2, r, e1, hc, .inr ⟨hz.1, e2, leaf1 hz.2 a b⟩⟩
theorem phrase_ok : ∀ (n : Nat) (x y : Int), ∃ p x' y', p ∈ phs n ∧ g__law_phrase (n + 1) [.bag, .d (.int ((n : Int) + 1))] (some (x, y)) = .ok (.d p) (some (x', y')) := by
  intro n
  induction n with
  | zero =>
    intro x y
    obtain ⟨z, x1, y1, x2, y2, r, e1, hc, ⟨hz, e2, hm⟩ | ⟨hz, e2, hm⟩⟩ := leaf_ok x y
    all_goals (
      unfold six at e1
      refine ⟨_, x2, y2, hm, ?_⟩
      simp [g__law_phrase, RD.run, ex, ev, evA, big, t__law_phrase, e1, e2, hz, hc])
  | succ n ih =>
    intro x y
    have hn : (1 : Int) < ((n + 1 : Nat) : Int) + 1 := by omega
    have hn2 : ((n + 1 : Nat) : Int) + 1 - 1 = (n : Int) + 1 := by omega
    obtain ⟨r, x0, y0, _, _, e0⟩ := take_ok (m := 3) (by decide) (by decide) x y
    generalize ((n + 1 : Nat) : Int) + 1 = N at hn hn2
    by_cases hr : r = 0
    · subst hr
      obtain ⟨w, x1, y1, hw, e1⟩ := of_ok ws (by simp [ws]) (by simp [ws]) x0 y0
      obtain ⟨p, x2, y2, hp, e2⟩ := ih x1 y1
      refine ⟨_, x2, y2, wrap_in hw hp, ?_⟩
      unfold ws at e1
      rw [g__law_phrase]
      simp [RD.run, ex, ev, evA, big, t__law_phrase, e0, e1, hn, hn2, e2]
    · obtain ⟨z, x1, y1, x2, y2, r, e1, hc, ⟨hz, e2, hm⟩ | ⟨hz, e2, hm⟩⟩ := leaf_ok x0 y0
      all_goals (
        unfold six at e1
        refine ⟨_, x2, y2, leaf_in _ _ hm, ?_⟩
        rw [g__law_phrase]
        simp [RD.run, ex, ev, evA, big, t__law_phrase, e0, e1, hn, hn2, e2, hz, hc, hr])
end PG
set_option Elab.async false
set_option linter.all false
set_option maxRecDepth 1000000
set_option maxHeartbeats 0
/-! PgC: steps. -/
namespace PG
open PySem L2 RD
theorem fe (x : Int) : x.fmod 7 = x % 7 := Int.fmod_eq_emod_of_nonneg x (by decide)
/-! ### words -/
/-- a habit's words -/
structure Hb (o nx c : Str) (on wk sc wi : Bool) : Prop where
  on : cmpop .eq (.str o) (.str "now") = some on
  wk : cmpop .eq (.str nx) (.str "week") = some wk
  sc : cmpop .eq (.str nx) (.str "second") = some sc
  wi : cmpop .eq (.str c) (.str "with") = some wi
def hab (b : Int) (o nx c : Str) : PyData := .tuple [.int b, .str o, .str nx, .str c]
inductive Kd where
  | nm | th | nx | lt | inn
def Kd.str : Kd → Str
  | .nm => "name" | .th => "this" | .nx => "next" | .lt => "last" | .inn => "in"
/-! ### words around -/
inductive Ar where
  | af | bf | wk
def Ar.str : Ar → Str
  | .af => "after" | .bf => "before" | .wk => "week"
def Ar.val : Ar → Int
  | .af => 1 | .bf => -1 | .wk => 7
def encP (kd : Kd) (r : Int) : List Ar → PyData
  | [] => .tuple [.str kd.str, .int r]
  | a :: W => .tuple [.str a.str, encP kd r W]
/-! ### the law's own -/
end PG
set_option Elab.async false
set_option linter.all false
set_option maxRecDepth 1000000
set_option maxHeartbeats 0
/-! PgD: what is a phrase, on both sides. -/
namespace PG
open PySem L2 RD
/-- a whole number, no bool, within -/
def intB (lo hi : Int) : PyData → Bool
  | .int i => decide (lo ≤ i ∧ i ≤ hi)
  | _ => false
theorem lawint_ok (d : PyData) (h : d.canLay0 = true) (lo hi : Int) (q : Bag) : g__law_is_int [.d d, .d (.int lo), .d (.int hi)] q = .ok (.d (.bool (intB lo hi d))) q := by
  cases d <;> first | (simp [g__law_is_int, RD.run, ex, ev, evA, big, t__law_is_int, isiD, intB]; done) | skip
  · rename_i i
    by_cases a : lo ≤ i
    · simp [g__law_is_int, RD.run, ex, ev, evA, big, t__law_is_int, isiD, intB, a]
    · simp [g__law_is_int, RD.run, ex, ev, evA, big, t__law_is_int, isiD, intB, a]
  · cases h
/-- the words around; the named words -/
def arB (z : Str) : Bool := [("after" : Str), "before", "week"].any fun a => a == z
def nmB (z : Str) : Bool := [("name" : Str), "this", "next", "last"].any fun a => a == z
theorem inA (z : Str) (h : (PyData.str z).canLay0 = true) : cmpop .isin (.str z) k_AROUND = some (arB z) := by
  have h2 : SeqAt.shaped k_AROUND = true := by decide +kernel
  show (if (SeqAt.shaped (.str z) && SeqAt.shaped k_AROUND) = true then some _ else none) = _
  rw [shaped_str h, h2]
  rfl
theorem inAL (z : Str) (h : (PyData.str z).canLay0 = true) : cmpop .isin (.str z) (.list [.str "after", .str "before", .str "week"]) = some (arB z) := by
  have h2 : SeqAt.shaped (.list [.str "after", .str "before", .str "week"]) = true := by decide +kernel
  show (if (SeqAt.shaped (.str z) && SeqAt.shaped (.list [.str "after", .str "before", .str "week"])) = true then some _ else none) = _
  rw [shaped_str h, h2]
  rfl
theorem inNL (z : Str) (h : (PyData.str z).canLay0 = true) : cmpop .isin (.str z) (.list [.str "name", .str "this", .str "next", .str "last"]) = some (nmB z) := by
  have h2 : SeqAt.shaped (.list [.str "name", .str "this", .str "next", .str "last"]) = true := by decide +kernel
  show (if (SeqAt.shaped (.str z) && SeqAt.shaped (.list [.str "name", .str "this", .str "next", .str "last"])) = true then some _ else none) = _
  rw [shaped_str h, h2]
  rfl
def phB : Nat → PyData → Bool
  | m + 1, .tuple [.str z, x] => if arB z = true then phB m x else if (z == ("in" : Str)) = true then intB 1 15 x else nmB z && intB 0 6 x
  | _, _ => false
theorem can2 {a b : PyData} (h : (PyData.tuple [a, b]).canLay0 = true) : a.canLay0 = true ∧ b.canLay0 = true := by
  simpa [PyData.canLay0, PyData.canLayAll0] using h
theorem lisp_any : ∀ (m n : Nat) (d : PyData) (q : Bag), m < n → d.canLay0 = true → g__law_is_phrase n [.d d, .d (.int (m : Int))] q = .ok (.d (.bool (phB m d))) q
  | m, 0, d, q, h, _ => absurd h (Nat.not_lt_zero _)
  | 0, n + 1, .tuple [.str z, x], q, _, hd => by
    simp [g__law_is_phrase, RD.run, ex, ev, evA, big, t__law_is_phrase, isiD, phB]
  | m + 1, n + 1, .tuple [.str z, x], q, h, hd => by
    obtain ⟨hz, hx⟩ := can2 hd
    have ih := lisp_any m n x q (Nat.lt_of_succ_lt_succ h) hx
    have e0 : (((m + 1 : Nat) : Int) == 0) = false := by rw [beq_eq_false_iff_ne]; omega
    have e1 : ((m + 1 : Nat) : Int) - 1 = (m : Int) := by omega
    have hi : cmpop .eq (.str z) (.str "in") = some (z == ("in" : Str)) := cmp_eqs hz (by decide +kernel)
    have f1 := lawint_ok x hx 1 15 q
    have f2 := lawint_ok x hx 0 6 q
    generalize ((m + 1 : Nat) : Int) = M at e0 e1 ⊢
    cases ha : arB z <;> cases hb : (z == ("in" : Str)) <;> cases hc : nmB z <;>
      simp [g__law_is_phrase, RD.run, ex, ev, evA, big, t__law_is_phrase, isiD, phB, inAL z hz, inNL z hz, ha, hb, hc, hi, e0, e1, ih, f1, f2, k_MOST_DAYS]
  | m, n + 1, .none, q, _, hd => by
    cases m with
    | zero => simp [g__law_is_phrase, RD.run, ex, ev, evA, big, t__law_is_phrase, isiD, phB]
    | succ m =>
      have e0 : (((m : Nat) : Int) + 1 == 0) = false := by rw [beq_eq_false_iff_ne]; omega
      simp [g__law_is_phrase, RD.run, ex, ev, evA, big, t__law_is_phrase, isiD, phB, e0]
  | m, n + 1, .bool _, q, _, hd => by
    cases m with
    | zero => simp [g__law_is_phrase, RD.run, ex, ev, evA, big, t__law_is_phrase, isiD, phB]
    | succ m =>
      have e0 : (((m : Nat) : Int) + 1 == 0) = false := by rw [beq_eq_false_iff_ne]; omega
      simp [g__law_is_phrase, RD.run, ex, ev, evA, big, t__law_is_phrase, isiD, phB, e0]
  | m, n + 1, .int _, q, _, hd => by
    cases m with
    | zero => simp [g__law_is_phrase, RD.run, ex, ev, evA, big, t__law_is_phrase, isiD, phB]
    | succ m =>
      have e0 : (((m : Nat) : Int) + 1 == 0) = false := by rw [beq_eq_false_iff_ne]; omega
      simp [g__law_is_phrase, RD.run, ex, ev, evA, big, t__law_is_phrase, isiD, phB, e0]
  | m, n + 1, .str _, q, _, hd => by
    cases m with
    | zero => simp [g__law_is_phrase, RD.run, ex, ev, evA, big, t__law_is_phrase, isiD, phB]
    | succ m =>
      have e0 : (((m : Nat) : Int) + 1 == 0) = false := by rw [beq_eq_false_iff_ne]; omega
      simp [g__law_is_phrase, RD.run, ex, ev, evA, big, t__law_is_phrase, isiD, phB, e0]
  | m, n + 1, .list _, q, _, hd => by
    cases m with
    | zero => simp [g__law_is_phrase, RD.run, ex, ev, evA, big, t__law_is_phrase, isiD, phB]
    | succ m =>
      have e0 : (((m : Nat) : Int) + 1 == 0) = false := by rw [beq_eq_false_iff_ne]; omega
      simp [g__law_is_phrase, RD.run, ex, ev, evA, big, t__law_is_phrase, isiD, phB, e0]
  | m, n + 1, .dict _, q, _, hd => by cases hd
  | m, n + 1, .tuple [], q, _, hd => by
    cases m with
    | zero => simp [g__law_is_phrase, RD.run, ex, ev, evA, big, t__law_is_phrase, isiD, phB]
    | succ m =>
      have e0 : (((m : Nat) : Int) + 1 == 0) = false := by rw [beq_eq_false_iff_ne]; omega
      simp [g__law_is_phrase, RD.run, ex, ev, evA, big, t__law_is_phrase, isiD, phB, e0]
  | m, n + 1, .tuple [_], q, _, hd => by
    cases m with
    | zero => simp [g__law_is_phrase, RD.run, ex, ev, evA, big, t__law_is_phrase, isiD, phB]
    | succ m =>
      have e0 : (((m : Nat) : Int) + 1 == 0) = false := by rw [beq_eq_false_iff_ne]; omega
      simp [g__law_is_phrase, RD.run, ex, ev, evA, big, t__law_is_phrase, isiD, phB, e0]
  | m, n + 1, .tuple (_ :: _ :: _ :: r), q, _, hd => by
    have e : (((r.length : Int) + 1 + 1 + 1) == 2) = false := by rw [beq_eq_false_iff_ne]; omega
    cases m with
    | zero => simp [g__law_is_phrase, RD.run, ex, ev, evA, big, t__law_is_phrase, isiD, phB, e]
    | succ m =>
      have e0 : (((m : Nat) : Int) + 1 == 0) = false := by rw [beq_eq_false_iff_ne]; omega
      simp [g__law_is_phrase, RD.run, ex, ev, evA, big, t__law_is_phrase, isiD, phB, e, e0]
  | m, n + 1, .tuple [.none, _], q, _, hd => by
    cases m with
    | zero => simp [g__law_is_phrase, RD.run, ex, ev, evA, big, t__law_is_phrase, isiD, phB]
    | succ m =>
      have e0 : (((m : Nat) : Int) + 1 == 0) = false := by rw [beq_eq_false_iff_ne]; omega
      simp [g__law_is_phrase, RD.run, ex, ev, evA, big, t__law_is_phrase, isiD, phB, e0]
  | m, n + 1, .tuple [.bool _, _], q, _, hd => by
    cases m with
    | zero => simp [g__law_is_phrase, RD.run, ex, ev, evA, big, t__law_is_phrase, isiD, phB]
    | succ m =>
      have e0 : (((m : Nat) : Int) + 1 == 0) = false := by rw [beq_eq_false_iff_ne]; omega
      simp [g__law_is_phrase, RD.run, ex, ev, evA, big, t__law_is_phrase, isiD, phB, e0]
  | m, n + 1, .tuple [.int _, _], q, _, hd => by
    cases m with
    | zero => simp [g__law_is_phrase, RD.run, ex, ev, evA, big, t__law_is_phrase, isiD, phB]
    | succ m =>
      have e0 : (((m : Nat) : Int) + 1 == 0) = false := by rw [beq_eq_false_iff_ne]; omega
      simp [g__law_is_phrase, RD.run, ex, ev, evA, big, t__law_is_phrase, isiD, phB, e0]
  | m, n + 1, .tuple [.list _, _], q, _, hd => by
    cases m with
    | zero => simp [g__law_is_phrase, RD.run, ex, ev, evA, big, t__law_is_phrase, isiD, phB]
    | succ m =>
      have e0 : (((m : Nat) : Int) + 1 == 0) = false := by rw [beq_eq_false_iff_ne]; omega
      simp [g__law_is_phrase, RD.run, ex, ev, evA, big, t__law_is_phrase, isiD, phB, e0]
  | m, n + 1, .tuple [.tuple _, _], q, _, hd => by
    cases m with
    | zero => simp [g__law_is_phrase, RD.run, ex, ev, evA, big, t__law_is_phrase, isiD, phB]
    | succ m =>
      have e0 : (((m : Nat) : Int) + 1 == 0) = false := by rw [beq_eq_false_iff_ne]; omega
      simp [g__law_is_phrase, RD.run, ex, ev, evA, big, t__law_is_phrase, isiD, phB, e0]
  | m, n + 1, .tuple [.dict _, _], q, _, hd => by cases (can2 hd).1
end PG
set_option Elab.async false
set_option linter.all false
set_option maxRecDepth 1000000
set_option maxHeartbeats 0
/-! PgF: facts, on both sides. -/
namespace PG
open PySem L2 RD
def isI : PyData → Bool
  | .int _ => true
  | _ => false
end PG
set_option Elab.async false
set_option linter.all false
set_option maxRecDepth 1000000
set_option maxHeartbeats 0
/-! PgG: habits told back, on both sides. -/
namespace PG
open PySem L2 RD
theorem any_eq {l : List Str} {z : Str} (h : (l.any fun a => a == z) = true) : z ∈ l := by
  obtain ⟨a, ha, e⟩ := List.any_eq_true.mp h
  have : a = z := eq_of_beq e
  rwa [← this]
/-- what is recognized is a phrase -/
theorem phB_enc : ∀ (m : Nat) (p : PyData), phB m p = true → ∃ kd r W, p = encP kd r W ∧ W.length < m ∧ (kd = .inn ∨ 0 ≤ r ∧ r < 7)
  | 0, p, h => by
    unfold phB at h
    cases h
  | m + 1, p, h => by
    unfold phB at h
    split at h
    · rename_i m' z x e
      cases e
      split at h
      · rename_i ha
        obtain ⟨kd, r, W, rfl, h1, h2⟩ := phB_enc m x h
        have hz := any_eq ha
        simp only [List.mem_cons, List.not_mem_nil, or_false] at hz
        rcases hz with rfl | rfl | rfl
        · exact ⟨kd, r, .af :: W, rfl, Nat.succ_lt_succ h1, h2⟩
        · exact ⟨kd, r, .bf :: W, rfl, Nat.succ_lt_succ h1, h2⟩
        · exact ⟨kd, r, .wk :: W, rfl, Nat.succ_lt_succ h1, h2⟩
      · split at h
        · rename_i hi
          have hz : z = "in" := eq_of_beq hi
          subst hz
          cases x <;> first | cases h | skip
          rename_i r
          exact ⟨.inn, r, [], rfl, Nat.succ_pos m, .inl rfl⟩
        · rw [Bool.and_eq_true] at h
          have hz := any_eq h.1
          have h2 := h.2
          cases x <;> first | cases h2 | skip
          rename_i r
          have hr : 0 ≤ r ∧ r ≤ 6 := of_decide_eq_true h2
          simp only [List.mem_cons, List.not_mem_nil, or_false] at hz
          rcases hz with rfl | rfl | rfl | rfl
          · exact ⟨.nm, r, [], rfl, Nat.succ_pos m, .inr (by omega)⟩
          · exact ⟨.th, r, [], rfl, Nat.succ_pos m, .inr (by omega)⟩
          · exact ⟨.nx, r, [], rfl, Nat.succ_pos m, .inr (by omega)⟩
          · exact ⟨.lt, r, [], rfl, Nat.succ_pos m, .inr (by omega)⟩
    · cases h
def every : List PyData := ([0, 5, 6] : List Int).flatMap fun b => ([("later" : Str), "now"]).flatMap fun o => ([("coming" : Str), "second", "week"]).flatMap fun n => ([("from" : Str), "with"]).map fun c => hab b o n c
end PG
set_option Elab.async false
set_option linter.all false
set_option maxRecDepth 1000000
set_option maxHeartbeats 0
/-! PgH: habits and lots: what is one, what is drawn. -/
namespace PG
open PySem L2 RD
/-! ### habits -/
def beginB : PyData → Bool
  | .int i => i == 0 || (i == 5 || i == 6)
  | _ => false
def wordB (l : List Str) : PyData → Bool
  | .str z => l.any fun a => a == z
  | _ => false
def habB : PyData → Bool
  | .tuple [b, o, n, c] => beginB b && (wordB ["later", "now"] o && (wordB ["coming", "second", "week"] n && wordB ["from", "with"] c))
  | _ => false
def okHab (h : PyData) : Bool := habB h && (h.canLay0 && (decide (h.depth ≤ 1) && (nestB h && (tup1 h && isTupD h))))
theorem every_all : every.all okHab = true := by decide +kernel
theorem every_hab {h : PyData} (hh : h ∈ every) : habB h = true ∧ h.canLay0 = true ∧ h.depth ≤ 1 ∧ nestB h = true ∧ tup1 h = true ∧ isTupD h = true := by
  have := List.all_eq_true.mp every_all h hh
  unfold okHab at this
  simp only [Bool.and_eq_true, decide_eq_true_eq] at this
  exact this
/-! ### lots -/
theorem shaped_habsT {xs : List PyData} (h : ∀ x ∈ xs, x ∈ every) : SeqAt.shaped (.tuple xs) = true := shaped_tup (n := 1) (fun x hx => (every_hab (h x hx)).2.1) (fun x hx => (every_hab (h x hx)).2.2.1) (by decide)
/-- each is less than the next -/
def upB : List PyData → Bool
  | x :: y :: r => PySem.W.dataLt x y && upB (y :: r)
  | _ => true
theorem upB_up : ∀ {xs : List PyData}, upB xs = true ↔ Up xs
  | [] => by simp [upB, Up]
  | [x] => by simp [upB, Up]
  | x :: y :: r => by
    have ih := upB_up (xs := y :: r)
    unfold upB
    rw [Bool.and_eq_true, ih]
    constructor
    · rintro ⟨h1, h2⟩
      refine List.pairwise_cons.mpr ⟨fun z hz => ?_, h2⟩
      rcases List.mem_cons.mp hz with rfl | hz
      · exact h1
      · exact lt_tr h1 ((List.pairwise_cons.mp h2).1 z hz)
    · intro h
      obtain ⟨h1, h2⟩ := List.pairwise_cons.mp h
      exact ⟨h1 y List.mem_cons_self, h2⟩
def lotB : PyData → Bool
  | .tuple xs => decide (1 ≤ xs.length ∧ xs.length ≤ 8) && (xs.all habB && upB xs)
  | _ => false
/-- a lot, as the law draws it -/
structure LotD (l : List PyData) : Prop where
  hab : ∀ h ∈ l, h ∈ every
  up : Up l
  few : l.length ≤ 8
  some : 1 ≤ l.length
theorem LotD.lot {l : List PyData} (L : LotD l) : lotB (.tuple l) = true := by
  show (decide _ && (l.all habB && upB l)) = true
  rw [decide_eq_true ⟨L.some, L.few⟩, List.all_eq_true.mpr fun h hh => (every_hab (L.hab h hh)).1, upB_up.mpr L.up]
  rfl
theorem LotD.lay {l : List PyData} (L : LotD l) : (PyData.tuple l).canLay0 = true := SeqAt.canLay_of_shaped (shaped_habsT L.hab)
/-! ### drawing -/
end PG
set_option Elab.async false
set_option linter.all false
set_option maxRecDepth 1000000
set_option maxHeartbeats 0
/-! PgI: steps, on both sides, as one number. -/
namespace PG
open PySem L2 RD
theorem phB_mono : ∀ {m : Nat} {p : PyData}, phB m p = true → phB (m + 1) p = true
  | 0, p, h => by
    unfold phB at h
    cases h
  | m + 1, p, h => by
    unfold phB at h
    split at h
    · rename_i m' z x e
      cases e
      show (if arB z = true then phB (m + 1) x else if (z == ("in" : Str)) = true then intB 1 15 x else nmB z && intB 0 6 x) = true
      split at h
      · rename_i ha
        rw [if_pos ha]
        exact phB_mono h
      · rename_i ha
        rw [if_neg ha]
        exact h
    · cases h
theorem phB_le {m n : Nat} {p : PyData} (h : phB m p = true) (hl : m ≤ n) : phB n p = true := by
  induction hl with
  | refl => exact h
  | step _ ih => exact phB_mono ih
theorem leaf_ph {p : PyData} (h : p ∈ leaves) : phB 1 p = true := by
  have : leaves.all (fun p => phB 1 p) = true := by decide +kernel
  exact List.all_eq_true.mp this p h
theorem phs_ph : ∀ (n : Nat) (p : PyData), p ∈ phs n → phB (n + 1) p = true
  | 0, p, h => leaf_ph h
  | n + 1, p, h => by
    rcases List.mem_append.mp h with h | h
    · exact phB_le (leaf_ph h) (by omega)
    · obtain ⟨w, hw, h⟩ := List.mem_flatMap.mp h
      obtain ⟨p, hp, rfl⟩ := List.mem_map.mp h
      have ih := phs_ph n p hp
      have hz : ∃ z, w = .str z ∧ arB z = true := by
        unfold ws at hw
        simp only [List.mem_cons, List.not_mem_nil, or_false] at hw
        rcases hw with rfl | rfl | rfl
        · exact ⟨_, rfl, by decide +kernel⟩
        · exact ⟨_, rfl, by decide +kernel⟩
        · exact ⟨_, rfl, by decide +kernel⟩
      obtain ⟨z, rfl, hz⟩ := hz
      show (if arB z = true then phB (n + 1) p else _) = true
      rw [if_pos hz]
      exact ih
theorem enc_lay (kd : Kd) (r : Int) : ∀ W : List Ar, (encP kd r W).canLay0 = true ∧ (encP kd r W).depth ≤ W.length + 1
  | [] => by
    cases kd <;> refine ⟨?_, ?_⟩ <;> first | (simp [encP, PyData.canLay0, PyData.canLayAll0, Kd.str]; decide +kernel) | simp [encP, PyData.depth, PyData.depthAll]
  | a :: W => by
    obtain ⟨h1, h2⟩ := enc_lay kd r W
    have hs : (PyData.str a.str).canLay0 = true := by cases a <;> decide +kernel
    refine ⟨?_, ?_⟩
    · simp only [encP, PyData.canLay0, PyData.canLayAll0]
      rw [h1]
      simpa [PyData.canLay0] using hs
    · simp only [encP, PyData.depth, PyData.depthAll, List.length_cons]
      omega
theorem ph_lay {m : Nat} {p : PyData} (h : phB m p = true) : p.canLay0 = true ∧ p.depth ≤ m := by
  obtain ⟨kd, r, W, rfl, h1, _⟩ := phB_enc m p h
  have := enc_lay kd r W
  exact ⟨this.1, by omega⟩
/-! ### what must be -/
/-! ### by the habits of a lot -/
/-- a walk over range(n), n written -/
theorem loop_r {n : Int} (h0n : 0 ≤ n) (hn : n ≤ 1000000) {i : Nat} {b : T} {P : S → Prop} (s : S) (h0 : P s) (hs : ∀ k : Int, 0 ≤ k → k < n → ∀ s, P s → ∃ s', ex b (s.set i (.int k)) = .ok .nx s' ∧ P s') :
    ∃ s', ex (.loop (.tname i) (.itr1 (.cst (.int n))) b) s = .ok .nx s' ∧ P s' := by
  refine loop_ok (xs := rangeD 0 n.toNat) (s1 := s) ?_ h0 fun x hx s h => ?_
  · show (if n ≤ 1000000 ∧ -1000000 ≤ n then _ else _) = _
    rw [if_pos (by omega)]
  · obtain ⟨k, hk, rfl⟩ := mem_rangeD hx
    exact hs _ (by omega) (by omega) s h
theorem run_rt {t : T} {np n : Nat} {us : List U} {b : Bag} {u : U} {s' : S} (hl : us.length = np) (h : ex t ⟨us.map Slot.val ++ List.replicate (n - np) Slot.un, b⟩ = .ok (.rt u) s') : RD.run t np n us b = .ok u s'.bag := by
  unfold RD.run
  rw [if_pos hl, h]
/-! ### the law's bags -/
theorem bag_made (ns : List Int) (k : Nat) : ∃ x y, g__law_bag [.scr ns, .d (.int k)] none = .ok (.d (.list [.int x, .int y])) none := by
  have c1 : CMul 59 k := .inl ⟨by decide, by decide⟩
  have c2 : CMul 80021 k := .inl ⟨by decide, by decide⟩
  have c3 : CPow 10 18 := ⟨by decide, by decide, by decide⟩
  by_cases h : (k : Int) < ns.length
  · have hk : k < ns.length := by omega
    have e : atI ns (k : Int) = some ns[k] := atI_nat (List.getElem?_eq_getElem hk)
    generalize hz : (if ns[k] < 0 then - ns[k] else ns[k]) = z
    by_cases h2 : (1000000000000000000 : Int) ≤ z
    · refine ⟨z, (z.fmod 2147483353 + 80021 * k + 41).fmod 2147483353, ?_⟩
      simp [g__law_bag, RD.run, ex, ev, evA, big, t__law_bag, h, e, c1, c2, c3, hz, h2]
    · refine ⟨0, (z.fmod 2147483353 + 80021 * k + 41).fmod 2147483353, ?_⟩
      simp [g__law_bag, RD.run, ex, ev, evA, big, t__law_bag, h, e, c1, c2, c3, hz, h2]
  · by_cases h2 : (1000000000000000000 : Int) ≤ 59 * (k : Int) + 19
    · refine ⟨59 * (k : Int) + 19, ((59 * (k : Int) + 19).fmod 2147483353 + 80021 * k + 41).fmod 2147483353, ?_⟩
      simp [g__law_bag, RD.run, ex, ev, evA, big, t__law_bag, h, c1, c2, c3, h2]
    · refine ⟨0, ((59 * (k : Int) + 19).fmod 2147483353 + 80021 * k + 41).fmod 2147483353, ?_⟩
      simp [g__law_bag, RD.run, ex, ev, evA, big, t__law_bag, h, c1, c2, c3, h2]
def turnsT (a b c : Int) : T := .itr1 (.blt .max2 (.acons (.cst (.int a)) (.acons (.blt .min2 (.acons (.cst (.int b)) (.acons (.bin .add (.lenS 0) (.cst (.int c))) .anil))) .anil)))
theorem turns_ok {a b c : Int} (ha : -1000 ≤ a ∧ a ≤ 1000) (hb : -1000 ≤ b ∧ b ≤ 1000) (hc : -1000 ≤ c ∧ c ≤ 1000) (ns : List Int) (r : List Slot) (hn : ns.length ≤ 63) : ∃ n : Nat, evI (turnsT a b c) ⟨.val (.scr ns) :: r, none⟩ = .ok (rangeD 0 n) ⟨.val (.scr ns) :: r, none⟩ := by
  have e : ev (.blt .max2 (.acons (.cst (.int a)) (.acons (.blt .min2 (.acons (.cst (.int b)) (.acons (.bin .add (.lenS 0) (.cst (.int c))) .anil))) .anil))) ⟨.val (.scr ns) :: r, none⟩ = .ok (.d (.int (if (if (ns.length : Int) + c < b then (ns.length : Int) + c else b) > a then (if (ns.length : Int) + c < b then (ns.length : Int) + c else b) else a))) ⟨.val (.scr ns) :: r, none⟩ := rfl
  generalize hj : (if (if (ns.length : Int) + c < b then (ns.length : Int) + c else b) > a then (if (ns.length : Int) + c < b then (ns.length : Int) + c else b) else a) = j at e
  have hb : j ≤ 1000000 ∧ -1000000 ≤ j := by
    rw [← hj]
    split <;> split <;> omega
  refine ⟨j.toNat, ?_⟩
  show (ev _ _).dat _ = _
  rw [e]
  show (if j ≤ 1000000 ∧ -1000000 ≤ j then _ else _) = _
  rw [if_pos hb]
/-- the walk over the bags: the rest of the frame meets Fr ahead of each bag and behind -/
theorem bags_ok {a b c : Int} (ha : -1000 ≤ a ∧ a ≤ 1000) (hb : -1000 ≤ b ∧ b ≤ 1000) (hc : -1000 ≤ c ∧ c ≤ 1000) {i j : Nat} {body : T} (ns : List Int) (hn : ns.length ≤ 63) (Fr : List Slot → Prop) (rho : List Slot) (h0 : Fr rho) (hs : ∀ r, Fr r → ∃ t, r = .val (.scr ns) :: t)
    (step : ∀ r (k : Nat) x y, Fr r → ((r.set i (.val (.d (.int k))))[i]? = some (.val (.d (.int k))) ∧ (r.set i (.val (.d (.int k))))[0]? = some (.val (.scr ns))) ∧ ∃ s', ex body ⟨(noBag (r.set i (.val (.d (.int k))))).set j (.val .bag), some (x, y)⟩ = .ok .nx s' ∧ Fr (noBag s'.rho)) :
    ∃ rho', Fr rho' ∧ ex (.loop (.tname i) (turnsT a b c) (.bagged j "_law_bag" g__law_bag (.acons (.var 0) (.acons (.var i) .anil)) body)) ⟨rho, none⟩ = .ok .nx ⟨rho', none⟩ := by
  obtain ⟨t, et⟩ := hs rho h0
  obtain ⟨n, hi⟩ := turns_ok ha hb hc ns t hn
  rw [← et] at hi
  obtain ⟨s', h1, r, rfl, h2⟩ := loop_ok (i := i) (b := .bagged j "_law_bag" g__law_bag (.acons (.var 0) (.acons (.var i) .anil)) body) (P := fun s => ∃ r, s = ⟨r, none⟩ ∧ Fr r) hi ⟨rho, rfl, h0⟩ fun x hx s ⟨r, hs', hr⟩ => by
    subst hs'
    obtain ⟨k, _, rfl⟩ := mem_rangeD hx
    rw [show (0 : Int) + (k : Int) = k by omega]
    obtain ⟨x, y, e⟩ := bag_made ns k
    obtain ⟨⟨g1, g2⟩, s', e1, e2⟩ := step r k x y hr
    refine ⟨_, bagged_ok (us := [.scr ns, .d (.int k)]) ?_ e e1, _, rfl, e2⟩
    have v1 : (⟨r.set i (.val (.d (.int k))), none⟩ : S).get 0 = .ok (.scr ns) ⟨r.set i (.val (.d (.int k))), none⟩ := get_mk g2
    have v2 : (⟨r.set i (.val (.d (.int k))), none⟩ : S).get i = .ok (.d (.int k)) ⟨r.set i (.val (.d (.int k))), none⟩ := get_mk g1
    simp [evA, ev, v1, v2]
  exact ⟨r, h2, h1⟩
end PG
set_option Elab.async false
set_option linter.all false
set_option maxRecDepth 1000000
set_option maxHeartbeats 0
/-! PgJ: what is sure; walks that count. -/
namespace RD
open PySem L2
theorem eq_nil {xs : List PyData} (h : SeqAt.shaped (.list xs) = true) : cmpop .eq (.list xs) (.list []) = some xs.isEmpty := by
  show (if (SeqAt.shaped (.list xs) && SeqAt.shaped (.list [])) = true then some (PyData.eqv (.list xs) (.list [])) else none) = _
  rw [h, show SeqAt.shaped (.list []) = true by decide +kernel]
  cases xs <;> rfl
end RD
namespace PG
open PySem L2 RD
/-! ### the spread -/
end PG
set_option Elab.async false
set_option linter.all false
set_option maxRecDepth 1000000
set_option maxHeartbeats 0
/-! PgK: the shortest sure phrases. -/
namespace RD
open PySem L2
theorem ne_nil {xs : List PyData} (h : SeqAt.shaped (.list xs) = true) : cmpop .ne (.list xs) (.list []) = some (!xs.isEmpty) := by
  show (if (SeqAt.shaped (.list xs) && SeqAt.shaped (.list [])) = true then some (!PyData.eqv (.list xs) (.list [])) else none) = _
  rw [h, show SeqAt.shaped (.list []) = true by decide +kernel]
  cases xs <;> rfl
end RD
namespace PG
open PySem L2 RD
end PG
set_option Elab.async false
set_option linter.all false
set_option maxRecDepth 1000000
set_option maxHeartbeats 0
/-! PgL: words; near phrases; where two phrases part. -/
namespace RD
open PySem L2
@[simp] theorem get_ol {rho : List Slot} {q : Bag} {i : Nat} {ds : List PyData} (h : rho[i]? = some (.ol ds)) : (S.mk rho q).get i = .ok (.d (.list ds)) ⟨rho.set i (.val (.d (.list ds))), q⟩ := by
  unfold S.get
  dsimp only
  rw [h]
/-- the first, or on -/
def outF : List PyData → Out
  | [] => .nx
  | x :: _ => .rt (.d x)
theorem forR_first {f : PyData → S → R Out} {P : S → Prop} {g : PyData → List PyData} : ∀ (xs : List PyData) (s : S), P s → (∀ x ∈ xs, ∀ s, P s → ∃ s', f x s = .ok (outF (g x)) s' ∧ P s') →
    ∃ s', forR f xs s = .ok (outF (xs.flatMap g)) s' ∧ P s'
  | [], s, h, _ => ⟨s, rfl, h⟩
  | x :: xs, s, h, st => by
    obtain ⟨s1, e1, h1⟩ := st x List.mem_cons_self s h
    rw [List.flatMap_cons]
    cases hg : g x with
    | nil =>
      rw [hg] at e1
      obtain ⟨s2, e2, h2⟩ := forR_first xs s1 h1 fun y hy => st y (List.mem_cons_of_mem _ hy)
      refine ⟨s2, ?_, h2⟩
      show (f x s).bind _ = _
      rw [e1]
      exact e2
    | cons z zs =>
      rw [hg] at e1
      refine ⟨s1, ?_, h1⟩
      show (f x s).bind _ = _
      rw [e1]
      rfl
end RD
namespace PG
open PySem L2 RD
def okR : Kd → Int → Prop
  | .inn, r => 1 ≤ r ∧ r ≤ 15
  | _, r => 0 ≤ r ∧ r ≤ 6
theorem phB_enc2 : ∀ (m : Nat) (p : PyData), phB m p = true → ∃ kd r W, p = encP kd r W ∧ W.length < m ∧ okR kd r
  | 0, p, h => by
    unfold phB at h
    cases h
  | m + 1, p, h => by
    unfold phB at h
    split at h
    · rename_i m' z x e
      cases e
      split at h
      · rename_i ha
        obtain ⟨kd, r, W, rfl, h1, h2⟩ := phB_enc2 m x h
        have hz := any_eq ha
        simp only [List.mem_cons, List.not_mem_nil, or_false] at hz
        rcases hz with rfl | rfl | rfl
        · exact ⟨kd, r, .af :: W, rfl, Nat.succ_lt_succ h1, h2⟩
        · exact ⟨kd, r, .bf :: W, rfl, Nat.succ_lt_succ h1, h2⟩
        · exact ⟨kd, r, .wk :: W, rfl, Nat.succ_lt_succ h1, h2⟩
      · split at h
        · rename_i hi
          have hz : z = "in" := eq_of_beq hi
          subst hz
          cases x <;> first | cases h | skip
          rename_i r
          have hr : 1 ≤ r ∧ r ≤ 15 := of_decide_eq_true h
          exact ⟨.inn, r, [], rfl, Nat.succ_pos m, hr⟩
        · rw [Bool.and_eq_true] at h
          have hz := any_eq h.1
          have h2 := h.2
          cases x <;> first | cases h2 | skip
          rename_i r
          have hr : 0 ≤ r ∧ r ≤ 6 := of_decide_eq_true h2
          simp only [List.mem_cons, List.not_mem_nil, or_false] at hz
          rcases hz with rfl | rfl | rfl | rfl
          · exact ⟨.nm, r, [], rfl, Nat.succ_pos m, hr⟩
          · exact ⟨.th, r, [], rfl, Nat.succ_pos m, hr⟩
          · exact ⟨.nx, r, [], rfl, Nat.succ_pos m, hr⟩
          · exact ⟨.lt, r, [], rfl, Nat.succ_pos m, hr⟩
    · cases h
theorem ar_arB (a : Ar) : arB a.str = true := by cases a <;> decide +kernel
theorem kd_arB (kd : Kd) : arB kd.str = false := by cases kd <;> decide +kernel
theorem enc_phB {kd : Kd} {r : Int} (h : okR kd r) : ∀ (W : List Ar) (m : Nat), W.length < m → phB m (encP kd r W) = true
  | _, 0, h => absurd h (Nat.not_lt_zero _)
  | [], m + 1, _ => by
    show (if arB kd.str = true then phB m (.int r) else if (kd.str == ("in" : Str)) = true then intB 1 15 (.int r) else nmB kd.str && intB 0 6 (.int r)) = true
    rw [kd_arB, if_neg (by decide)]
    cases kd with
    | inn =>
      have h : 1 ≤ r ∧ r ≤ 15 := h
      rw [if_pos (by decide +kernel)]
      exact decide_eq_true h
    | nm =>
      have h : 0 ≤ r ∧ r ≤ 6 := h
      rw [if_neg (by decide +kernel), show nmB (Kd.str .nm) = true by decide +kernel]
      exact decide_eq_true h
    | th =>
      have h : 0 ≤ r ∧ r ≤ 6 := h
      rw [if_neg (by decide +kernel), show nmB (Kd.str .th) = true by decide +kernel]
      exact decide_eq_true h
    | nx =>
      have h : 0 ≤ r ∧ r ≤ 6 := h
      rw [if_neg (by decide +kernel), show nmB (Kd.str .nx) = true by decide +kernel]
      exact decide_eq_true h
    | lt =>
      have h : 0 ≤ r ∧ r ≤ 6 := h
      rw [if_neg (by decide +kernel), show nmB (Kd.str .lt) = true by decide +kernel]
      exact decide_eq_true h
  | a :: W, m + 1, hl => by
    show (if arB a.str = true then phB m (encP kd r W) else if (a.str == ("in" : Str)) = true then intB 1 15 (encP kd r W) else nmB a.str && intB 0 6 (encP kd r W)) = true
    rw [ar_arB, if_pos rfl]
    exact enc_phB h W m (Nat.lt_of_succ_lt_succ hl)
/-! ### words -/
def Ar.strD (a : Ar) : PyData := .str a.str
def wordsD (kd : Kd) (W : List Ar) : List PyData := W.map Ar.strD ++ [.str kd.str]
theorem ar_isin (a : Ar) : cmpop .isin (.str a.str) (.list [.str "after", .str "before", .str "week"]) = some true := by cases a <;> kernel_rfl
theorem kd_isin (kd : Kd) : cmpop .isin (.str kd.str) (.list [.str "after", .str "before", .str "week"]) = some false := by cases kd <;> kernel_rfl
theorem words_ok (kd : Kd) (r : Int) : ∀ (W : List Ar) (n : Nat) (q : Bag), W.length < n → W.length ≤ 1000 → g__law_words n [.d (encP kd r W)] q = .ok (.d (.tuple [.list (wordsD kd W), .int r])) q
  | _, 0, _, h, _ => absurd h (Nat.not_lt_zero _)
  | [], n + 1, q, _, _ => by
    have h := kd_isin kd
    simp [g__law_words, RD.run, ex, ev, evA, big, t__law_words, encP, wordsD, h]
  | a :: W, n + 1, q, hl, hb => by
    have h := ar_isin a
    have ih := words_ok kd r W n q (Nat.lt_of_succ_lt_succ hl) (Nat.le_of_succ_le hb)
    have hb' : W.length + 1 ≤ 1000 := hb
    have hlen : 1 + (wordsD kd W).length ≤ 16777216 := by
      unfold wordsD
      rw [List.length_append, List.length_map, List.length_singleton]
      omega
    have e : wordsD kd (a :: W) = .str a.str :: wordsD kd W := rfl
    rw [e]
    generalize wordsD kd W = X at ih hlen
    simp [g__law_words, RD.run, ex, ev, evA, big, t__law_words, encP, h, ih, binop, hlen]
end PG
set_option Elab.async false
set_option linter.all false
set_option maxRecDepth 1000000
set_option maxHeartbeats 0
/-! K15B: how the program reads a text. -/
namespace K15
open PySem L2 RD PG
abbrev Ok (p : Str) : Prop := (PyData.str p).canLay0 = true
theorem run_exn {t : T} {np n : Nat} {us : List U} {b : Bag} {c : Str} {p : Option PyData} {s' : S} (hl : us.length = np) (h : ex t ⟨us.map Slot.val ++ List.replicate (n - np) Slot.un, b⟩ = .exn c p s') : RD.run t np n us b = .exn c p s'.bag := by
  unfold RD.run
  rw [if_pos hl, h]
/-- the words ahead -/
theorem parts_cases : ∀ ps : List Str, ∃ (W : List Ar) (rest : List Str), ps = W.map Ar.str ++ rest ∧ (rest = [] ∨ ∃ p r, rest = p :: r ∧ arB p = false)
  | [] => ⟨[], [], rfl, .inl rfl⟩
  | p :: ps => by
    by_cases h : arB p = true
    · obtain ⟨W, rest, e, hr⟩ := parts_cases ps
      have hz := any_eq h
      simp only [List.mem_cons, List.not_mem_nil, or_false] at hz
      rcases hz with rfl | rfl | rfl
      · exact ⟨.af :: W, rest, by rw [e]; rfl, hr⟩
      · exact ⟨.bf :: W, rest, by rw [e]; rfl, hr⟩
      · exact ⟨.wk :: W, rest, by rw [e]; rfl, hr⟩
    · exact ⟨[], p :: ps, rfl, .inr ⟨p, ps, rfl, by simpa using h⟩⟩
theorem ar_ok (a : Ar) : Ok a.str := by cases a <;> decide +kernel
/-! ### the number -/
def strI (i : Int) : Str := toString i
theorem strI_ok : ∀ k : Nat, k < 40 → Ok (strI (k : Int)) := by decide +kernel
theorem strI_lg : ∀ k : Nat, k < 40 → ((k : Int).natAbs.log2 < 1920) := by decide +kernel
def gN (p : Str) : PyData → List PyData
  | .int i => if (strI i == p) = true then [.int i] else []
  | _ => []
/-- the numbers that a part writes -/
def hits (lo n : Nat) (p : Str) : List PyData := (rangeD (lo : Int) n).flatMap (gN p)
def hitD : List PyData → PyData
  | [] => .none
  | x :: _ => x
theorem num_ok {p : Str} (hp : Ok p) (lo hi : Nat) (hb : lo ≤ 20 ∧ hi ≤ 20) (q : Bag) : g_number_of [.d (.str p), .d (.int lo), .d (.int hi)] q = .ok (.d (hitD (hits lo (hi + 1 - lo) p))) q := by
  have hi2 : evI (.itr2 (.var 1) (.bin .add (.var 2) (.cst (.int 1)))) ⟨[.val (.d (.str p)), .val (.d (.int lo)), .val (.d (.int hi)), .un], q⟩ = .ok (rangeD (lo : Int) (hi + 1 - lo)) ⟨[.val (.d (.str p)), .val (.d (.int lo)), .val (.d (.int hi)), .un], q⟩ := by
    have e : ((hi : Int) + 1 - (lo : Int)).toNat = hi + 1 - lo := by omega
    have c : (-1000000 ≤ (lo : Int) ∧ (lo : Int) ≤ 1000000) ∧ -1000000 ≤ (hi : Int) + 1 ∧ (hi : Int) + 1 ≤ 1000000 := by omega
    simp [evI, ev, c, e]
  obtain ⟨s', h1, c3, rfl⟩ := forR_first (f := fun x s => (R.ofS (asgT (.tname 3) x s)).bind fun _ s => ex b_number_of_1 s) (P := fun s => ∃ c3, s = ⟨[.val (.d (.str p)), .val (.d (.int lo)), .val (.d (.int hi)), c3], q⟩) (g := gN p) (rangeD (lo : Int) (hi + 1 - lo)) _ ⟨_, rfl⟩ fun x hx s ⟨c3, hs⟩ => by
    subst hs
    obtain ⟨k, hk, rfl⟩ := mem_rangeD hx
    have e : (lo : Int) + (k : Int) = ((lo + k : Nat) : Int) := by omega
    rw [e]
    have o1 := strI_ok (lo + k) (by omega)
    have o2 := strI_lg (lo + k) (by omega)
    have c := cmp_eqs (i := strI ((lo + k : Nat) : Int)) (j := p) o1 hp
    have eb : bltop .str [.int ((lo + k : Nat) : Int)] = some (.str (strI ((lo + k : Nat) : Int))) := by
      show (if ((lo + k : Nat) : Int).natAbs.log2 < 1920 then some _ else none) = _
      rw [if_pos o2]
      rfl
    refine ⟨⟨[.val (.d (.str p)), .val (.d (.int lo)), .val (.d (.int hi)), .val (.d (.int ((lo + k : Nat) : Int)))], q⟩, ?_, _, rfl⟩
    generalize ((lo + k : Nat) : Int) = z at c eb
    by_cases h : (strI z == p) = true
    · rw [h] at c
      rw [show gN p (.int z) = [.int z] from if_pos h]
      simp [b_number_of_1, ex, ev, evA, eb, c, outF]
    · have h' : (strI z == p) = false := by simpa using h
      rw [h'] at c
      rw [show gN p (.int z) = [] from if_neg h]
      simp [b_number_of_1, ex, ev, evA, eb, c, outF]
  have e1 : ex (.loop (.tname 3) (.itr2 (.var 1) (.bin .add (.var 2) (.cst (.int 1)))) b_number_of_1) ⟨[.val (.d (.str p)), .val (.d (.int lo)), .val (.d (.int hi)), .un], q⟩ = .ok (outF (hits lo (hi + 1 - lo) p)) ⟨[.val (.d (.str p)), .val (.d (.int lo)), .val (.d (.int hi)), c3], q⟩ := by
    show ((evI _ _).bind _) = _
    rw [hi2]
    exact h1
  cases hh : hits lo (hi + 1 - lo) p with
  | nil =>
    rw [hh] at e1
    refine run_rt (np := 3) (n := 4) (us := [.d (.str p), .d (.int lo), .d (.int hi)]) (s' := ⟨[.val (.d (.str p)), .val (.d (.int lo)), .val (.d (.int hi)), c3], q⟩) rfl ?_
    unfold t_number_of
    exact (seq_nx e1).trans rfl
  | cons x r =>
    rw [hh] at e1
    exact run_rt (np := 3) (n := 4) (us := [.d (.str p), .d (.int lo), .d (.int hi)]) (s' := ⟨[.val (.d (.str p)), .val (.d (.int lo)), .val (.d (.int hi)), c3], q⟩) rfl (seq_rt e1)
/-! ### the walk over the words ahead -/
def wc : T := (.and (.cmp .lt (.var 2) (.blt .len (.acons (.var 1) .anil))) (.and (.cmp .lt (.var 2) (.bin .sub (.glob "MOST_WORDS" k_MOST_WORDS) (.cst (.int 1)))) (.one (.cmp .isin (.idx (.var 1) (.var 2)) (.glob "AROUND" k_AROUND)))))
def wb : T := (.seq (.asg (.tname 2) (.bin .add (.var 2) (.cst (.int 1)))) (.nil))
def fr (s : Str) (P : List PyData) (j : Nat) (q : Bag) : S := ⟨[.val (.d (.str s)), .val (.d (.list P)), .val (.d (.int (j : Int))), .un, .un, .un, .un, .un], q⟩
theorem mw : binop .sub k_MOST_WORDS (.int 1) = some (.int 3) := by kernel_rfl
theorem wc_end (s : Str) (P : List PyData) (q : Bag) : ev wc (fr s P P.length q) = .ok (.d (.bool false)) (fr s P P.length q) := by
  simp [wc, fr, ev, evA]
theorem wc_3 (s : Str) (P : List PyData) (q : Bag) (h : 3 < P.length) : ev wc (fr s P 3 q) = .ok (.d (.bool false)) (fr s P 3 q) := by
  have h1 : (3 : Int) < (P.length : Int) := by omega
  simp [wc, fr, ev, evA, mw, h1]
theorem wc_in (s : Str) (P : List PyData) (j : Nat) (q : Bag) {p : Str} (hp : Ok p) (h : P[j]? = some (.str p)) (h3 : j < 3) : ev wc (fr s P j q) = .ok (.d (.bool (arB p))) (fr s P j q) := by
  have hj : j < P.length := (List.getElem?_eq_some_iff.mp h).1
  have h1 : (j : Int) < (P.length : Int) := by omega
  have h2 : (j : Int) < 3 := by omega
  have e := atI_nat h
  have c := inA p hp
  simp [wc, fr, ev, evA, mw, h1, h2, e, c]
theorem get_at (pre rest : List Str) (p : Str) : ((pre ++ (p :: rest)).map PyData.str)[pre.length]? = some (.str p) := by
  rw [List.getElem?_map, List.getElem?_append_right (Nat.le_refl _), Nat.sub_self]
  rfl
theorem while_ok (s : Str) (q : Bag) (rest : List Str) (hrest : rest = [] ∨ ∃ p r, rest = p :: r ∧ arB p = false ∧ Ok p) : ∀ (W : List Ar) (pre : List Str) (m n : Nat), pre.length + m = 3 → m < n →
    whileR (fun s => ev wc s) (fun s => ex wb s) n (fr s ((pre ++ (W.map Ar.str ++ rest)).map PyData.str) pre.length q) = .ok .nx (fr s ((pre ++ (W.map Ar.str ++ rest)).map PyData.str) (pre.length + min m W.length) q) := by
  have stop : ∀ (P : List PyData) (j n : Nat), ev wc (fr s P j q) = .ok (.d (.bool false)) (fr s P j q) → whileR (fun s => ev wc s) (fun s => ex wb s) (n + 1) (fr s P j q) = .ok .nx (fr s P j q) := by
    intro P j n h
    show ((ev wc (fr s P j q)).tst _) = _
    rw [h]
    rfl
  intro W
  induction W with
  | nil =>
    intro pre m n hm hn
    obtain ⟨n, rfl⟩ : ∃ k, n = k + 1 := ⟨n - 1, by omega⟩
    rw [show pre.length + min m ([] : List Ar).length = pre.length by simp]
    refine stop _ _ n ?_
    rcases hrest with rfl | ⟨p, r, rfl, ha, hp⟩
    · have e : pre.length = ((pre ++ (([] : List Ar).map Ar.str ++ [])).map PyData.str).length := by simp
      rw [e]
      have := wc_end s ((pre ++ (([] : List Ar).map Ar.str ++ [])).map PyData.str) q
      simpa using this
    · by_cases h3 : pre.length < 3
      · have := wc_in s ((pre ++ (([] : List Ar).map Ar.str ++ (p :: r))).map PyData.str) pre.length q hp (get_at pre r p) h3
        rw [ha] at this
        exact this
      · have e : pre.length = 3 := by omega
        rw [e]
        refine wc_3 s _ q ?_
        simp
        omega
  | cons a W ih =>
    intro pre m n hm hn
    obtain ⟨n, rfl⟩ : ∃ k, n = k + 1 := ⟨n - 1, by omega⟩
    cases m with
    | zero =>
      rw [show pre.length + min 0 (a :: W).length = pre.length by simp]
      have e : pre.length = 3 := by omega
      rw [e]
      refine stop _ 3 n (wc_3 s _ q ?_)
      simp
      omega
    | succ m =>
      have h1 := wc_in s ((pre ++ ((a :: W).map Ar.str ++ rest)).map PyData.str) pre.length q (ar_ok a) (get_at pre (W.map Ar.str ++ rest) a.str) (by omega)
      rw [ar_arB] at h1
      have ih1 := ih (pre ++ [a.str]) m n (by rw [List.length_append]; simp; omega) (by omega)
      have e1 : (pre ++ [a.str]) ++ (W.map Ar.str ++ rest) = pre ++ ((a :: W).map Ar.str ++ rest) := by simp
      rw [e1] at ih1
      have e2 : (pre ++ [a.str]).length = pre.length + 1 := by simp
      rw [e2] at ih1
      have e3 : pre.length + 1 + min m W.length = pre.length + min (m + 1) (a :: W).length := by
        rw [List.length_cons]
        omega
      rw [e3] at ih1
      show ((ev wc (fr s _ pre.length q)).tst _) = _
      rw [h1, R.tst_ok, if_pos rfl]
      have e4 : ex wb (fr s ((pre ++ ((a :: W).map Ar.str ++ rest)).map PyData.str) pre.length q) = .ok .nx (fr s ((pre ++ ((a :: W).map Ar.str ++ rest)).map PyData.str) (pre.length + 1) q) := by
        simp [wb, fr, ex, ev]
      show R.bind (ex wb (fr s ((pre ++ ((a :: W).map Ar.str ++ rest)).map PyData.str) pre.length q)) _ = _
      rw [e4]
      exact ih1
/-! ### a text read -/
/-- what the reading says: the error's word, or the phrase -/
inductive Rd where
  | bad (n : Nat)
  | good (d : PyData)
theorem ne_in {p : Str} (hp : Ok p) : cmpop .ne (.str p) k_IN = some (!(p == ("in" : Str))) := cmp_nes hp (by decide +kernel)
theorem eq_in {p : Str} (hp : Ok p) : cmpop .eq (.str p) k_IN = some (p == ("in" : Str)) := cmp_eqs hp (by decide +kernel)
theorem nin_nm {p : Str} (hp : Ok p) : cmpop .notin (.str p) k_NAMED = some (!nmB p) := by
  have h2 : SeqAt.shaped k_NAMED = true := by decide +kernel
  show (if (SeqAt.shaped (.str p) && SeqAt.shaped k_NAMED) = true then some _ else none) = _
  rw [shaped_str hp, h2]
  rfl
/-- the rest of the def, behind the walk -/
def t5 : T := (.seq (.asg (.tname 6) (.tup (.acons (.idx (.var 1) (.var 2)) (.acons (.var 5) .anil)))) (.seq (.loop (.tname 7) (.itl (.rev (.slc (.var 1) .nopart (.acons (.var 2) .anil)))) b_phrase_read_1) (.seq (.ret (.var 6)) (.nil))))
def t4 : T := (.seq (.iff (.cmp .gt (.blt .len (.acons (.var 1) .anil)) (.bin .add (.var 2) (.cst (.int 2)))) (.seq (.exs (ckRaiseW "InvalidText") (fRaiseW "InvalidText") (.bin .add (.var 2) (.cst (.int 3))) .anil .nil .nil) (.nil)) (.nil)) t5)
def t3 : T := (.seq (.iff (.isN (.var 5)) (.seq (.exs (ckRaiseW "InvalidText") (fRaiseW "InvalidText") (.bin .add (.var 2) (.cst (.int 2))) .anil .nil .nil) (.nil)) (.nil)) t4)
def t2 : T := (.seq (.asg (.ttup (.acons (.tname 3) (.acons (.tname 4) (.anil)))) (.ite (.cmp .eq (.idx (.var 1) (.var 2)) (.glob "IN" k_IN)) (.tup (.acons (.cst (.int 1)) (.acons (.glob "MOST_DAYS" k_MOST_DAYS) .anil))) (.tup (.acons (.cst (.int 0)) (.acons (.cst (.int 6)) .anil))))) (.seq (.asg (.tname 5) (.call "number_of" g_number_of (.acons (.idx (.var 1) (.bin .add (.var 2) (.cst (.int 1)))) (.acons (.var 3) (.acons (.var 4) .anil))))) t3))
def t1 : T := (.seq (.iff (.cmp .eq (.bin .add (.var 2) (.cst (.int 1))) (.blt .len (.acons (.var 1) .anil))) (.seq (.exs (ckRaiseW "InvalidText") (fRaiseW "InvalidText") (.bin .add (.var 2) (.cst (.int 2))) .anil .nil .nil) (.nil)) (.nil)) t2)
def t0 : T := (.seq (.iff (.cmp .eq (.var 2) (.blt .len (.acons (.var 1) .anil))) (.seq (.exs (ckRaiseW "InvalidText") (fRaiseW "InvalidText") (.bin .add (.var 2) (.cst (.int 1))) .anil .nil .nil) (.nil)) (.nil)) (.seq (.iff (.and (.cmp .ne (.idx (.var 1) (.var 2)) (.glob "IN" k_IN)) (.one (.cmp .notin (.idx (.var 1) (.var 2)) (.glob "NAMED" k_NAMED)))) (.seq (.exs (ckRaiseW "InvalidText") (fRaiseW "InvalidText") (.bin .add (.var 2) (.cst (.int 1))) .anil .nil .nil) (.nil)) (.nil)) t1))
theorem t_is : t_phrase_read g_number_of = .seq (.iff (.not (.isi .isStr (.var 0))) (.seq (.exs (ckRaiseW "InvalidText") (fRaiseW "InvalidText") (.cst (.int 0)) .anil .nil .nil) (.nil)) (.nil)) (.seq (.par [1, 2] (.acons (.mth .split (.var 0) (.cst (.str " "))) (.acons (.cst (.int 0)) .anil))) (.seq (.while 10 wc wb) t0)) := rfl
section
variable {s : Str} {P : List PyData} {j : Nat} {q : Bag}
theorem r_end (h : j = P.length) : ex t0 (fr s P j q) = .exn "InvalidText" (some (.int ((j + 1 : Nat) : Int))) (fr s P j q) := by
  have e : ((j : Int) == (P.length : Int)) = true := by rw [beq_iff_eq]; omega
  simp [t0, fr, ex, ev, evA, fRaiseW, e]
theorem r_word {p : Str} (hp : Ok p) (h : P[j]? = some (.str p)) (h1 : (p == ("in" : Str)) = false) (h2 : nmB p = false) : ex t0 (fr s P j q) = .exn "InvalidText" (some (.int ((j + 1 : Nat) : Int))) (fr s P j q) := by
  have hj : j < P.length := (List.getElem?_eq_some_iff.mp h).1
  have e : ((j : Int) == (P.length : Int)) = false := by rw [beq_eq_false_iff_ne]; omega
  have e1 := atI_nat h
  have e2 := ne_in hp
  have e3 := nin_nm hp
  rw [h1] at e2
  rw [h2] at e3
  simp [t0, fr, ex, ev, evA, fRaiseW, e, e1, e2, e3]
theorem r_on {p : Str} (hp : Ok p) (h : P[j]? = some (.str p)) (h1 : (p == ("in" : Str)) = true ∨ nmB p = true) : ex t0 (fr s P j q) = ex t1 (fr s P j q) := by
  have hj : j < P.length := (List.getElem?_eq_some_iff.mp h).1
  have e : ((j : Int) == (P.length : Int)) = false := by rw [beq_eq_false_iff_ne]; omega
  have e1 := atI_nat h
  have e2 := ne_in hp
  have e3 := nin_nm hp
  cases h2 : (p == ("in" : Str)) with
  | true =>
    rw [h2] at e2
    unfold t0
    rw [seq_nx (s' := fr s P j q) (by simp [fr, ex, ev, evA, e]), seq_nx (s' := fr s P j q) (by simp [fr, ex, ev, evA, e1, e2])]
  | false =>
    rw [h2] at e2 h1
    have h3 : nmB p = true := h1.resolve_left (by simp)
    rw [h3] at e3
    unfold t0
    rw [seq_nx (s' := fr s P j q) (by simp [fr, ex, ev, evA, e]), seq_nx (s' := fr s P j q) (by simp [fr, ex, ev, evA, e1, e2, e3])]
theorem r_last (h : j + 1 = P.length) : ex t1 (fr s P j q) = .exn "InvalidText" (some (.int ((j + 2 : Nat) : Int))) (fr s P j q) := by
  have e : (((j : Int) + 1) == (P.length : Int)) = true := by rw [beq_iff_eq]; omega
  simp [t1, fr, ex, ev, evA, fRaiseW, e]
/-- bounds of the number by the word -/
def lowB (p : Str) : Nat := if (p == ("in" : Str)) = true then 1 else 0
def highB (p : Str) : Nat := if (p == ("in" : Str)) = true then 15 else 6
def fr5 (s : Str) (P : List PyData) (j : Nat) (lo hi : Nat) (x : PyData) (q : Bag) : S := ⟨[.val (.d (.str s)), .val (.d (.list P)), .val (.d (.int (j : Int))), .val (.d (.int (lo : Int))), .val (.d (.int (hi : Int))), .val (.d x), .un, .un], q⟩
theorem r_num {p x : Str} (hp : Ok p) (hx : Ok x) (h : P[j]? = some (.str p)) (hn : P[j + 1]? = some (.str x)) : ex t1 (fr s P j q) = ex t3 (fr5 s P j (lowB p) (highB p) (hitD (hits (lowB p) (highB p + 1 - lowB p) x)) q) := by
  have hj : j + 1 < P.length := (List.getElem?_eq_some_iff.mp hn).1
  have nl : ¬ ((j : Int) + 1 = (P.length : Int) ) ∨ True := .inr trivial
  have e0 : (j + 1 = P.length) ∨ (j + 1 < P.length) := by omega
  have e1 := atI_nat h
  have e2 := eq_in hp
  have e3 := atI_nat hn
  have e4 : ((j + 1 : Nat) : Int) = (j : Int) + 1 := by omega
  rw [e4] at e3
  have md : k_MOST_DAYS = .int 15 := rfl
  by_cases hl : (((j : Int) + 1) == (P.length : Int)) = true
  · have := beq_iff_eq.mp hl
    omega
  · have hl' : (((j : Int) + 1) == (P.length : Int)) = false := by simpa using hl
    unfold t1 t2
    rw [seq_nx (s' := fr s P j q) (by simp [fr, ex, ev, evA, hl'])]
    cases h2 : (p == ("in" : Str)) with
    | true =>
      rw [h2] at e2
      have nm := num_ok hx 1 15 (by decide) q
      have l1 : lowB p = 1 := by unfold lowB; rw [h2]; rfl
      have l2 : highB p = 15 := by unfold highB; rw [h2]; rfl
      rw [l1, l2]
      have nm' : g_number_of [.d (.str x), .d (.int 1), .d (.int 15)] q = .ok (.d (hitD (hits 1 (15 + 1 - 1) x))) q := nm
      rw [seq_nx (s' := fr5 s P j 1 15 .none q |> fun z => ⟨[.val (.d (.str s)), .val (.d (.list P)), .val (.d (.int (j : Int))), .val (.d (.int 1)), .val (.d (.int 15)), .un, .un, .un], q⟩) (by simp [fr, ex, ev, evA, e1, e2, md, big])]
      rw [seq_nx (s' := fr5 s P j 1 15 (hitD (hits 1 (15 + 1 - 1) x)) q) (by simp [fr5, ex, ev, evA, e3, nm'])]
    | false =>
      rw [h2] at e2
      have nm := num_ok hx 0 6 (by decide) q
      have l1 : lowB p = 0 := by unfold lowB; rw [h2]; rfl
      have l2 : highB p = 6 := by unfold highB; rw [h2]; rfl
      rw [l1, l2]
      have nm' : g_number_of [.d (.str x), .d (.int 0), .d (.int 6)] q = .ok (.d (hitD (hits 0 (6 + 1 - 0) x))) q := nm
      rw [seq_nx (s' := ⟨[.val (.d (.str s)), .val (.d (.list P)), .val (.d (.int (j : Int))), .val (.d (.int 0)), .val (.d (.int 6)), .un, .un, .un], q⟩) (by simp [fr, ex, ev, evA, e1, e2, md, big])]
      rw [seq_nx (s' := fr5 s P j 0 6 (hitD (hits 0 (6 + 1 - 0) x)) q) (by simp [fr5, ex, ev, evA, e3, nm'])]
theorem r_none {lo hi : Nat} : ex t3 (fr5 s P j lo hi .none q) = .exn "InvalidText" (some (.int ((j + 2 : Nat) : Int))) (fr5 s P j lo hi .none q) := by
  simp [t3, fr5, ex, ev, evA, fRaiseW, isNone]
theorem r_more {lo hi : Nat} {i : Int} (h : j + 2 < P.length) : ex t3 (fr5 s P j lo hi (.int i) q) = .exn "InvalidText" (some (.int ((j + 3 : Nat) : Int))) (fr5 s P j lo hi (.int i) q) := by
  have e : (j : Int) + 2 < (P.length : Int) := by omega
  simp [t3, t4, fr5, ex, ev, evA, fRaiseW, isNone, e]
theorem fold_ok {v0 v1 v2 v3 v4 v5 : Slot} {q : Bag} : ∀ (W : List Ar) (kd : Kd) (r : Int) (V : List Ar) (c7 : Slot), ∃ c7',
    forR (fun x s => (R.ofS (asgT (.tname 7) x s)).bind fun _ s => ex b_phrase_read_1 s) (W.map Ar.strD) ⟨[v0, v1, v2, v3, v4, v5, .val (.d (encP kd r V)), c7], q⟩ = .ok .nx ⟨[v0, v1, v2, v3, v4, v5, .val (.d (encP kd r (W.reverse ++ V))), c7'], q⟩
  | [], kd, r, V, c7 => ⟨c7, rfl⟩
  | a :: W, kd, r, V, c7 => by
    obtain ⟨c7', ih⟩ := fold_ok (v0 := v0) (v1 := v1) (v2 := v2) (v3 := v3) (v4 := v4) (v5 := v5) (q := q) W kd r (a :: V) (.val (.d (.str a.str)))
    refine ⟨c7', ?_⟩
    have e : (a :: W).reverse ++ V = W.reverse ++ (a :: V) := by simp
    rw [e, ← ih]
    rfl
theorem r_good {lo hi : Nat} {i : Int} {kd : Kd} {W : List Ar} {x : Str} (hP : P = W.map Ar.strD ++ [.str kd.str, .str x]) (hj : j = W.length) : ∃ s', ex t3 (fr5 s P j lo hi (.int i) q) = .ok (.rt (.d (encP kd i W))) s' ∧ s'.bag = q := by
  subst hj
  have hl : P.length = W.length + 2 := by rw [hP]; simp
  have e : ¬ ((W.length : Int) + 2 < (P.length : Int)) := by omega
  have hk : P[W.length]? = some (.str kd.str) := by
    rw [hP, List.getElem?_append_right (by simp)]
    simp
  have e1 := atI_nat hk
  have ec : cutD P none (some (W.length : Int)) = W.map Ar.strD := by
    unfold cutD
    rw [HT.sIx_nat]
    show (P.drop 0).take (min W.length P.length - 0) = _
    rw [show min W.length P.length - 0 = W.length by omega, hP]
    simp
  obtain ⟨c7, h⟩ := fold_ok (v0 := .val (.d (.str s))) (v1 := .val (.d (.list P))) (v2 := .val (.d (.int (W.length : Int)))) (v3 := .val (.d (.int (lo : Int)))) (v4 := .val (.d (.int (hi : Int)))) (v5 := .val (.d (.int i))) (q := q) W.reverse kd i [] .un
  rw [List.reverse_reverse, List.append_nil] at h
  refine ⟨⟨[.val (.d (.str s)), .val (.d (.list P)), .val (.d (.int (W.length : Int))), .val (.d (.int (lo : Int))), .val (.d (.int (hi : Int))), .val (.d (.int i)), .val (.d (encP kd i W)), c7], q⟩, ?_, rfl⟩
  unfold t3 t4 t5
  rw [seq_nx (s' := fr5 s P W.length lo hi (.int i) q) (by simp [fr5, ex, ev, evA, isNone])]
  rw [seq_nx (s' := fr5 s P W.length lo hi (.int i) q) (by simp [fr5, ex, ev, evA, e])]
  rw [seq_nx (s' := ⟨[.val (.d (.str s)), .val (.d (.list P)), .val (.d (.int (W.length : Int))), .val (.d (.int (lo : Int))), .val (.d (.int (hi : Int))), .val (.d (.int i)), .val (.d (encP kd i [])), .un], q⟩) (by simp [fr5, ex, ev, evA, e1, encP, big])]
  have hi2 : evI (.itl (.rev (.slc (.var 1) .nopart (.acons (.var 2) .anil)))) ⟨[.val (.d (.str s)), .val (.d (.list P)), .val (.d (.int (W.length : Int))), .val (.d (.int (lo : Int))), .val (.d (.int (hi : Int))), .val (.d (.int i)), .val (.d (encP kd i [])), .un], q⟩ = .ok (W.reverse.map Ar.strD) ⟨[.val (.d (.str s)), .val (.d (.list P)), .val (.d (.int (W.length : Int))), .val (.d (.int (lo : Int))), .val (.d (.int (hi : Int))), .val (.d (.int i)), .val (.d (encP kd i [])), .un], q⟩ := by
    simp [evI, ev, evO, slcop, ec]
  have e2 : ex (.loop (.tname 7) (.itl (.rev (.slc (.var 1) .nopart (.acons (.var 2) .anil)))) b_phrase_read_1) ⟨[.val (.d (.str s)), .val (.d (.list P)), .val (.d (.int (W.length : Int))), .val (.d (.int (lo : Int))), .val (.d (.int (hi : Int))), .val (.d (.int i)), .val (.d (encP kd i [])), .un], q⟩ = .ok .nx ⟨[.val (.d (.str s)), .val (.d (.list P)), .val (.d (.int (W.length : Int))), .val (.d (.int (lo : Int))), .val (.d (.int (hi : Int))), .val (.d (.int i)), .val (.d (encP kd i W)), c7], q⟩ := by
    show ((evI _ _).bind _) = _
    rw [hi2]
    exact h
  rw [seq_nx e2]
  simp [ex, ev]
end
end K15
set_option Elab.async false
set_option linter.all false
set_option maxRecDepth 1000000
set_option maxHeartbeats 0
/-! K15C: the law's own look at the parts. -/
namespace K15
open PySem L2 RD PG
theorem strs_ok {l : List Str} (h : ∀ p ∈ l, Ok p) : SeqAt.shaped (.list (l.map PyData.str)) = true := shaped_list (n := 0) (fun x hx => by
  obtain ⟨p, hp, rfl⟩ := List.mem_map.mp hx
  exact h p hp) (fun x hx => by
  obtain ⟨p, hp, rfl⟩ := List.mem_map.mp hx
  simp [PyData.depth]) (by decide)
theorem nin_ar {p : Str} (hp : Ok p) : cmpop .notin (.str p) (.list [.str "after", .str "before", .str "week"]) = some (!arB p) := by
  have h2 : SeqAt.shaped (.list [.str "after", .str "before", .str "week"]) = true := by decide +kernel
  show (if (SeqAt.shaped (.str p) && SeqAt.shaped (.list [.str "after", .str "before", .str "week"])) = true then some _ else none) = _
  rw [shaped_str hp, h2]
  rfl
def fiveB (p : Str) : Bool := [("name" : Str), "this", "next", "last", "in"].any fun a => a == p
theorem nin_five {p : Str} (hp : Ok p) : cmpop .notin (.str p) (.list [.str "name", .str "this", .str "next", .str "last", .str "in"]) = some (!fiveB p) := by
  have h2 : SeqAt.shaped (.list [.str "name", .str "this", .str "next", .str "last", .str "in"]) = true := by decide +kernel
  show (if (SeqAt.shaped (.str p) && SeqAt.shaped (.list [.str "name", .str "this", .str "next", .str "last", .str "in"])) = true then some _ else none) = _
  rw [shaped_str hp, h2]
  rfl
theorem five_iff (p : Str) : fiveB p = (nmB p || (p == ("in" : Str))) := by
  have e : (("in" : Str) == p) = (p == ("in" : Str)) := by
    rw [Bool.eq_iff_iff, beq_iff_eq, beq_iff_eq]
    exact eq_comm
  unfold fiveB nmB
  simp only [List.any_cons, List.any_nil, Bool.or_false, e, Bool.or_assoc]
theorem flt_len : ∀ (n m : Nat), m ≤ n → ((List.range n).filter fun k => decide (k < m)).length = m
  | 0, m, h => by simp; omega
  | n + 1, m, h => by
    rw [List.range_succ, List.filter_append, List.length_append]
    by_cases hm : m ≤ n
    · rw [flt_len n m hm]
      simp
      omega
    · have e : m = n + 1 := by omega
      subst e
      have h2 : ((List.range n).filter fun k => decide (k < n + 1)) = List.range n := List.filter_eq_self.mpr fun k hk => by
        have := List.mem_range.mp hk
        simp
        omega
      rw [h2]
      simp
/-- the prefix of the words ahead is whole up to there -/
theorem all_take {W : List Ar} {rest : List Str} (hr : rest = [] ∨ ∃ p r, rest = p :: r ∧ arB p = false) {k : Nat} (hk : k < (W.map Ar.str ++ rest).length) : ((W.map Ar.str ++ rest).take (k + 1)).all arB = decide (k < W.length) := by
  by_cases h : k < W.length
  · rw [decide_eq_true h, List.take_append_of_le_length (by rw [List.length_map]; omega), List.all_eq_true]
    intro x hx
    have hx2 := List.mem_of_mem_take hx
    obtain ⟨a, _, rfl⟩ := List.mem_map.mp hx2
    exact ar_arB a
  · rw [decide_eq_false h]
    rcases hr with rfl | ⟨p, r, rfl, ha⟩
    · simp at hk
      omega
    · rw [List.all_eq_false]
      refine ⟨p, ?_, by rw [ha]; simp⟩
      rw [List.take_append]
      refine List.mem_append_right _ ?_
      rw [List.length_map, show k + 1 - W.length = (k - W.length) + 1 by omega, List.take_succ_cons]
      exact List.mem_cons_self
def nums (lo n : Nat) : List PyData := (rangeD (lo : Int) n).map fun x => match x with
  | .int i => .str (strI i)
  | x => x
theorem nums_in {p : Str} (hp : Ok p) {lo n : Nat} (hb : lo + n ≤ 40) : cmpop .isin (.str p) (.list (nums lo n)) = some (!(hits lo n p).isEmpty) := by
  have hs : SeqAt.shaped (.list (nums lo n)) = true := by
    refine shaped_list (n := 0) (fun x hx => ?_) (fun x hx => ?_) (by decide)
    · obtain ⟨y, hy, rfl⟩ := List.mem_map.mp hx
      obtain ⟨k, hk, rfl⟩ := mem_rangeD hy
      have := strI_ok (lo + k) (by omega)
      rw [show ((lo + k : Nat) : Int) = (lo : Int) + (k : Int) by omega] at this
      exact this
    · obtain ⟨y, hy, rfl⟩ := List.mem_map.mp hx
      obtain ⟨k, hk, rfl⟩ := mem_rangeD hy
      simp [PyData.depth]
  show (if (SeqAt.shaped (.str p) && SeqAt.shaped (.list (nums lo n))) = true then some ((nums lo n).any fun z => PyData.eqv z (.str p)) else none) = _
  rw [shaped_str hp, hs]
  show some _ = some _
  congr 1
  unfold nums hits
  have gen : ∀ R : List PyData, (∀ x ∈ R, ∃ i, x = .int i) → ((R.map fun x => match x with
      | .int i => .str (strI i)
      | x => x).any fun z => PyData.eqv z (.str p)) = !(R.flatMap (gN p)).isEmpty := by
    intro R
    induction R with
    | nil => intro _; rfl
    | cons x R ih =>
      intro hR
      obtain ⟨i, rfl⟩ := hR x List.mem_cons_self
      rw [List.map_cons, List.any_cons, List.flatMap_cons, ih fun y hy => hR y (List.mem_cons_of_mem _ hy)]
      show ((strI i == p) || _) = _
      by_cases h : (strI i == p) = true
      · rw [h, show gN p (.int i) = [.int i] from if_pos h]
        rfl
      · have h' : (strI i == p) = false := by simpa using h
        rw [h', show gN p (.int i) = [] from if_neg h]
        rfl
  exact gen _ fun x hx => by
    obtain ⟨k, _, rfl⟩ := mem_rangeD hx
    exact ⟨_, rfl⟩
/-- some text of a phrase begins so -/
def begB (m : Nat) : List Str → Bool
  | [] => decide (m ≤ 3)
  | p :: r => decide (m ≤ 3) && (fiveB p && match r with
    | [] => true
    | [x] => !(hits (lowB p) (highB p + 1 - lowB p) x).isEmpty
    | _ :: _ :: _ => false)
section
variable {rho : List Slot} {q : Bag}
theorem cut_to (P : List PyData) (k : Nat) : cutD P none (some (k : Int)) = P.take k := by
  unfold cutD
  rw [HT.sIx_nat]
  show (P.drop 0).take (min k P.length - 0) = _
  rw [List.drop_zero, Nat.sub_zero, List.take_eq_take_iff]
  omega
theorem cut_from (P : List PyData) (k : Nat) : cutD P (some (k : Int)) none = P.drop k := by
  unfold cutD
  rw [HT.sIx_nat]
  show (P.drop (min k P.length)).take (P.length - min k P.length) = _
  rw [List.take_of_length_le (by rw [List.length_drop]; omega)]
  by_cases h : k ≤ P.length
  · rw [Nat.min_eq_left h]
  · rw [Nat.min_eq_right (by omega), List.drop_length, List.drop_of_length_le (by omega)]
/-- the words ahead are counted -/
theorem many_ok {W : List Ar} {rest : List Str} (hr : rest = [] ∨ ∃ p r, rest = p :: r ∧ arB p = false) (ho : ∀ p ∈ W.map Ar.str ++ rest, Ok p) (hl : (W.map Ar.str ++ rest).length ≤ 100000) (c5 c6 c7 c8 c9 : Slot) :
    ∃ L : List PyData, L.length = W.length ∧ ev c__law_begins_2 ⟨[.val (.d (.list ((W.map Ar.str ++ rest).map PyData.str))), .val (.d (.list [.str "after", .str "before", .str "week"])), .un, .un, .un, c5, c6, c7, c8, c9], q⟩ =
      .ok (.d (.list L)) ⟨[.val (.d (.list ((W.map Ar.str ++ rest).map PyData.str))), .val (.d (.list [.str "after", .str "before", .str "week"])), .un, .un, .un, c5, c6, c7, c8, c9], q⟩ := by
  generalize hps : W.map Ar.str ++ rest = ps at *
  have hp : ∀ k, k < ps.length → (ps.take (k + 1)).all arB = decide (k < W.length) := fun k hk => by
    subst hps
    exact all_take hr hk
  have hWl : W.length ≤ ps.length := by
    rw [← hps]
    simp
  refine ⟨((rangeD 0 ps.length).filter fun x => match x with | .int i => decide (i.toNat < W.length) | _ => false).map fun _ => .int 1, ?_, ?_⟩
  · rw [List.length_map]
    unfold rangeD
    rw [List.filter_map, List.length_map]
    have e : ((fun x => match x with | PyData.int i => decide (i.toNat < W.length) | _ => false) ∘ fun (k : Nat) => PyData.int (0 + (k : Int))) = fun k => decide (k < W.length) := by
      funext k
      show decide ((0 + (k : Int)).toNat < W.length) = _
      congr 1
      simp
    rw [e]
    exact flt_len _ _ hWl
  · unfold c__law_begins_2
    refine comp_if (i := 3) (f := fun _ => .int 1) (xs := rangeD 0 ps.length) ?_ ?_ ?_ ?_
    · have c : (ps.length : Int) ≤ 1000000 ∧ -1000000 ≤ (ps.length : Int) := by omega
      simp [evI, ev, evA, c]
    · unfold rangeD
      simp [big]
      omega
    · intro x hx
      obtain ⟨k, hk, rfl⟩ := mem_rangeD hx
      rw [show (0 : Int) + (k : Int) = (k : Int) by omega]
      have h1 : ev c__law_begins_1 ⟨[.val (.d (.list (ps.map PyData.str))), .val (.d (.list [.str "after", .str "before", .str "week"])), .un, .val (.d (.int (k : Int))), .un, c5, c6, c7, c8, c9], q⟩ =
          .ok (.d (.list ((((ps.take (k + 1)).map PyData.str).filter fun x => match x with | .str p => !arB p | _ => false).map fun x => x))) ⟨[.val (.d (.list (ps.map PyData.str))), .val (.d (.list [.str "after", .str "before", .str "week"])), .un, .val (.d (.int (k : Int))), .un, c5, c6, c7, c8, c9], q⟩ := by
        unfold c__law_begins_1
        refine comp_if (i := 4) (f := fun x => x) (xs := (ps.take (k + 1)).map PyData.str) ?_ ?_ ?_ ?_
        · have e := cut_to (ps.map PyData.str) (k + 1)
          rw [show ((k + 1 : Nat) : Int) = (k : Int) + 1 by omega, ← List.map_take] at e
          simp [evI, ev, evO, slcop, e]
        · simp [big]
          omega
        · intro x hx
          obtain ⟨p, hpm, rfl⟩ := List.mem_map.mp hx
          have := nin_ar (ho p (List.mem_of_mem_take hpm))
          simp [ev, this]
        · intro x hx _
          simp [ev]
      have h2 : SeqAt.shaped (.list ((((ps.take (k + 1)).map PyData.str).filter fun x => match x with | .str p => !arB p | _ => false).map fun x => x)) = true := by
        have e : ((((ps.take (k + 1)).map PyData.str).filter fun x => match x with | .str p => !arB p | _ => false).map fun x => x) = (((ps.take (k + 1)).filter fun p => !arB p)).map PyData.str := by
          rw [List.map_id', List.filter_map]
          rfl
        rw [e]
        exact strs_ok fun p hp => ho p (List.mem_of_mem_take (List.mem_filter.mp hp).1)
      have h3 := eq_nil h2
      have h4 : ((((ps.take (k + 1)).map PyData.str).filter fun x => match x with | .str p => !arB p | _ => false).map fun x => x).isEmpty = decide (k < W.length) := by
        rw [← hp k hk, List.map_id', List.filter_map, List.isEmpty_map]
        show ((ps.take (k + 1)).filter fun p => !arB p).isEmpty = _
        rw [Bool.eq_iff_iff, List.isEmpty_iff, List.filter_eq_nil_iff, List.all_eq_true]
        simp
      rw [h4] at h3
      show ev (.one (.cmp .eq c__law_begins_1 (.lst .anil))) ⟨[.val (.d (.list (ps.map PyData.str))), .val (.d (.list [.str "after", .str "before", .str "week"])), .un, .val (.d (.int (k : Int))), .un, c5, c6, c7, c8, c9], q⟩ = _
      have e5 : ((k : Int)).toNat = k := by omega
      show ev (.one (.cmp .eq c__law_begins_1 (.lst .anil))) _ = .ok (.d (.bool (decide ((k : Int).toNat < W.length)))) _
      rw [e5]
      simp only [ev, h1, evA, R.dat_ok, R.bind_ok, datas_nil, List.length_nil, Nat.zero_le, if_true, h3, liftB_some]
      simp
    · intro x _ _
      rfl
end
end K15
set_option Elab.async false
set_option linter.all false
set_option maxRecDepth 1000000
set_option maxHeartbeats 0
/-! K15G: a prefix looked at; the text read by the law. -/
namespace K15
open PySem L2 RD PG
theorem eq_inS {p : Str} (hp : Ok p) : cmpop .eq (.str p) (.str "in") = some (p == ("in" : Str)) := cmp_eqs hp (by decide +kernel)
theorem comp3_ok {rho : List Slot} {q : Bag} {lo hi : Nat} (hb : lo ≤ 20 ∧ hi ≤ 20) (h6 : rho[6]? = some (.val (.d (.int (lo : Int))))) (h7 : rho[7]? = some (.val (.d (.int (hi : Int))))) (h9 : rho[9]? = some .un) : ev c__law_begins_3 ⟨rho, q⟩ = .ok (.d (.list (nums lo (hi - lo)))) ⟨rho, q⟩ := by
  unfold c__law_begins_3 nums
  have e9 : rho.set 9 .un = rho := by
    have hl := (List.getElem?_eq_some_iff.mp h9).1
    refine List.ext_getElem? fun j => ?_
    by_cases hj : 9 = j
    · subst hj
      rw [List.getElem?_set_self hl, h9]
    · rw [List.getElem?_set_ne hj]
  have key := comp_all (i := 9) (rho := rho) (q := q) (it := .itr2 (.var 6) (.var 7)) (e := .blt .str (.acons (.var 9) .anil)) (xs := rangeD (lo : Int) (hi - lo)) (f := fun x => match x with
    | .int i => .str (strI i)
    | x => x) (by
      have e : ((hi : Int) - (lo : Int)).toNat = hi - lo := by omega
      have c : (-1000000 ≤ (lo : Int) ∧ (lo : Int) ≤ 1000000) ∧ -1000000 ≤ (hi : Int) ∧ (hi : Int) ≤ 1000000 := by omega
      simp [evI, ev, h6, h7, c, e]) (by unfold rangeD; simp [big]; omega) (fun x hx => by
      obtain ⟨k, hk, rfl⟩ := mem_rangeD hx
      have e : (lo : Int) + (k : Int) = ((lo + k : Nat) : Int) := by omega
      rw [e]
      have o2 := strI_lg (lo + k) (by omega)
      have eb : bltop .str [.int ((lo + k : Nat) : Int)] = some (.str (strI ((lo + k : Nat) : Int))) := by
        show (if ((lo + k : Nat) : Int).natAbs.log2 < 1920 then some _ else none) = _
        rw [if_pos o2]
        rfl
      have hl := (List.getElem?_eq_some_iff.mp h9).1
      generalize ((lo + k : Nat) : Int) = z at eb
      have hg : (rho.set 9 (.val (.d (.int z))))[9]? = some (.val (.d (.int z))) := List.getElem?_set_self hl
      simp [ev, evA, hg, eb])
  rw [e9] at key
  exact key
theorem beg1 (m : Nat) (p : Str) : begB m [p] = (decide (m ≤ 3) && (fiveB p && true)) := rfl
theorem beg2 (m : Nat) (p x : Str) : begB m [p, x] = (decide (m ≤ 3) && (fiveB p && !(hits (lowB p) (highB p + 1 - lowB p) x).isEmpty)) := rfl
theorem begins_ok {W : List Ar} {rest : List Str} (hr : rest = [] ∨ ∃ p r, rest = p :: r ∧ arB p = false) (ho : ∀ p ∈ W.map Ar.str ++ rest, Ok p) (hl : (W.map Ar.str ++ rest).length ≤ 100000) (q : Bag) :
    g__law_begins [.d (.list ((W.map Ar.str ++ rest).map PyData.str))] q = .ok (.d (.bool (begB W.length rest))) q := by
  obtain ⟨L, hL, e2⟩ := many_ok (q := q) hr ho hl .un .un .un .un .un
  have hm : ((W.map Ar.str ++ rest).map PyData.str) = W.map Ar.strD ++ rest.map PyData.str := by
    rw [List.map_append, List.map_map]
    rfl
  have hor : ∀ p ∈ rest, Ok p := fun p hp => ho p (List.mem_append_right _ hp)
  rw [hm] at e2 ⊢
  have ec : cutD (W.map Ar.strD ++ rest.map PyData.str) (some (W.length : Int)) none = rest.map PyData.str := by
    rw [cut_from, List.drop_append_of_le_length (by simp), List.drop_of_length_le (by simp)]
    rfl
  have hs := strs_ok hor
  have hn := eq_nil hs
  generalize W.map Ar.strD ++ rest.map PyData.str = P at e2 ec
  have step : ∀ t, ex (.seq (.asg (.tname 1) (.lst (.acons (.cst (.str "after")) (.acons (.cst (.str "before")) (.acons (.cst (.str "week")) .anil))))) (.seq (.asg (.tname 2) (.blt .len (.acons (c__law_begins_2) .anil))) (.seq (.asg (.tname 5) (.slc (.var 0) (.acons (.var 2) .anil) .nopart)) t))) ⟨[.val (.d (.list P)), .un, .un, .un, .un, .un, .un, .un, .un, .un], q⟩ =
      ex t ⟨[.val (.d (.list P)), .val (.d (.list [.str "after", .str "before", .str "week"])), .val (.d (.int (W.length : Int))), .un, .un, .val (.d (.list (rest.map PyData.str))), .un, .un, .un, .un], q⟩ := by
    intro t
    rw [seq_nx (s' := ⟨[.val (.d (.list P)), .val (.d (.list [.str "after", .str "before", .str "week"])), .un, .un, .un, .un, .un, .un, .un, .un], q⟩) (by simp [ex, ev, evA, big])]
    rw [seq_nx (s' := ⟨[.val (.d (.list P)), .val (.d (.list [.str "after", .str "before", .str "week"])), .val (.d (.int (W.length : Int))), .un, .un, .un, .un, .un, .un, .un], q⟩) (by simp [ex, ev, evA, e2, hL])]
    rw [seq_nx (s' := ⟨[.val (.d (.list P)), .val (.d (.list [.str "after", .str "before", .str "week"])), .val (.d (.int (W.length : Int))), .un, .un, .val (.d (.list (rest.map PyData.str))), .un, .un, .un, .un], q⟩) (by simp [ex, ev, evO, slcop, ec])]
  have fin : ∀ b : Bool, (∃ s', ex t__law_begins ⟨[.val (.d (.list P)), .un, .un, .un, .un, .un, .un, .un, .un, .un], q⟩ = .ok (.rt (.d (.bool b))) s' ∧ s'.bag = q) → g__law_begins [.d (.list P)] q = .ok (.d (.bool b)) q := fun b ⟨s', h1, h2⟩ => by
    have := run_rt (t := t__law_begins) (np := 1) (n := 10) (us := [.d (.list P)]) (b := q) rfl h1
    rw [h2] at this
    exact this
  refine fin _ ?_
  unfold t__law_begins
  rw [step]
  by_cases h3 : W.length ≤ 3
  · have i1 : ¬ ((3 : Int) < (W.length : Int)) := by omega
    match rest, hor, hn with
    | [], _, hn =>
      refine ⟨⟨[.val (.d (.list P)), .val (.d (.list [.str "after", .str "before", .str "week"])), .val (.d (.int (W.length : Int))), .un, .un, .val (.d (.list [])), .un, .un, .un, .un], q⟩, ?_, rfl⟩
      have hn' : cmpop .eq (.list []) (.list []) = some true := hn
      have i2 : begB W.length [] = true := decide_eq_true h3
      rw [i2]
      simp [ex, ev, evA, i1, hn']
    | [p], hor, hn =>
      have hp := hor p List.mem_cons_self
      have n5 := nin_five hp
      have hn' : cmpop .eq (.list [.str p]) (.list []) = some false := hn
      cases h5 : fiveB p with
      | false =>
        rw [h5] at n5
        have i2 : begB W.length [p] = false := by rw [beg1, h5]; simp
        rw [i2]
        refine ⟨⟨[.val (.d (.list P)), .val (.d (.list [.str "after", .str "before", .str "week"])), .val (.d (.int (W.length : Int))), .un, .un, .val (.d (.list [.str p])), .un, .un, .un, .un], q⟩, ?_, rfl⟩
        simp [ex, ev, evA, i1, hn', n5, big]
      | true =>
        rw [h5] at n5
        have i2 : begB W.length [p] = true := by rw [beg1, h5, decide_eq_true h3]; rfl
        rw [i2]
        have ei := eq_inS hp
        rw [seq_nx (s' := ⟨[.val (.d (.list P)), .val (.d (.list [.str "after", .str "before", .str "week"])), .val (.d (.int (W.length : Int))), .un, .un, .val (.d (.list [.str p])), .un, .un, .un, .un], q⟩) (by simp [ex, ev, evA, i1])]
        rw [seq_nx (s' := ⟨[.val (.d (.list P)), .val (.d (.list [.str "after", .str "before", .str "week"])), .val (.d (.int (W.length : Int))), .un, .un, .val (.d (.list [.str p])), .un, .un, .un, .un], q⟩) (by simp [ex, ev, evA, hn'])]
        rw [seq_nx (s' := ⟨[.val (.d (.list P)), .val (.d (.list [.str "after", .str "before", .str "week"])), .val (.d (.int (W.length : Int))), .un, .un, .val (.d (.list [.str p])), .un, .un, .un, .un], q⟩) (by simp [ex, ev, evA, n5, big])]
        cases hi : (p == ("in" : Str)) with
        | true =>
          rw [hi] at ei
          rw [seq_nx (s' := ⟨[.val (.d (.list P)), .val (.d (.list [.str "after", .str "before", .str "week"])), .val (.d (.int (W.length : Int))), .un, .un, .val (.d (.list [.str p])), .val (.d (.int 1)), .val (.d (.int 16)), .un, .un], q⟩) (by simp [ex, ev, evA, ei, big])]
          have e3 := comp3_ok (rho := [.val (.d (.list P)), .val (.d (.list [.str "after", .str "before", .str "week"])), .val (.d (.int (W.length : Int))), .un, .un, .val (.d (.list [.str p])), .val (.d (.int 1)), .val (.d (.int 16)), .un, .un]) (q := q) (lo := 1) (hi := 16) (by decide) rfl rfl rfl
          refine ⟨⟨[.val (.d (.list P)), .val (.d (.list [.str "after", .str "before", .str "week"])), .val (.d (.int (W.length : Int))), .un, .un, .val (.d (.list [.str p])), .val (.d (.int 1)), .val (.d (.int 16)), .val (.d (.list (nums 1 (16 - 1)))), .un], q⟩, ?_, rfl⟩
          rw [seq_nx (s' := ⟨[.val (.d (.list P)), .val (.d (.list [.str "after", .str "before", .str "week"])), .val (.d (.int (W.length : Int))), .un, .un, .val (.d (.list [.str p])), .val (.d (.int 1)), .val (.d (.int 16)), .val (.d (.list (nums 1 (16 - 1)))), .un], q⟩) (by simp only [ex, e3, R.dat_ok]; rfl)]
          simp [ex, ev, evA]
        | false =>
          rw [hi] at ei
          rw [seq_nx (s' := ⟨[.val (.d (.list P)), .val (.d (.list [.str "after", .str "before", .str "week"])), .val (.d (.int (W.length : Int))), .un, .un, .val (.d (.list [.str p])), .val (.d (.int 0)), .val (.d (.int 7)), .un, .un], q⟩) (by simp [ex, ev, evA, ei, big])]
          have e3 := comp3_ok (rho := [.val (.d (.list P)), .val (.d (.list [.str "after", .str "before", .str "week"])), .val (.d (.int (W.length : Int))), .un, .un, .val (.d (.list [.str p])), .val (.d (.int 0)), .val (.d (.int 7)), .un, .un]) (q := q) (lo := 0) (hi := 7) (by decide) rfl rfl rfl
          refine ⟨⟨[.val (.d (.list P)), .val (.d (.list [.str "after", .str "before", .str "week"])), .val (.d (.int (W.length : Int))), .un, .un, .val (.d (.list [.str p])), .val (.d (.int 0)), .val (.d (.int 7)), .val (.d (.list (nums 0 (7 - 0)))), .un], q⟩, ?_, rfl⟩
          rw [seq_nx (s' := ⟨[.val (.d (.list P)), .val (.d (.list [.str "after", .str "before", .str "week"])), .val (.d (.int (W.length : Int))), .un, .un, .val (.d (.list [.str p])), .val (.d (.int 0)), .val (.d (.int 7)), .val (.d (.list (nums 0 (7 - 0)))), .un], q⟩) (by simp only [ex, e3, R.dat_ok]; rfl)]
          simp [ex, ev, evA]
    | [p, x], hor, hn =>
      have hp := hor p List.mem_cons_self
      have hx := hor x (List.mem_cons_of_mem _ List.mem_cons_self)
      have n5 := nin_five hp
      have hn' : cmpop .eq (.list [.str p, .str x]) (.list []) = some false := hn
      cases h5 : fiveB p with
      | false =>
        rw [h5] at n5
        have i2 : begB W.length [p, x] = false := by rw [beg2, h5]; simp
        rw [i2]
        refine ⟨⟨[.val (.d (.list P)), .val (.d (.list [.str "after", .str "before", .str "week"])), .val (.d (.int (W.length : Int))), .un, .un, .val (.d (.list [.str p, .str x])), .un, .un, .un, .un], q⟩, ?_, rfl⟩
        simp [ex, ev, evA, i1, hn', n5, big]
      | true =>
        rw [h5] at n5
        have i2 : begB W.length [p, x] = !(hits (lowB p) (highB p + 1 - lowB p) x).isEmpty := by rw [beg2, h5, decide_eq_true h3]; rfl
        rw [i2]
        have ei := eq_inS hp
        rw [seq_nx (s' := ⟨[.val (.d (.list P)), .val (.d (.list [.str "after", .str "before", .str "week"])), .val (.d (.int (W.length : Int))), .un, .un, .val (.d (.list [.str p, .str x])), .un, .un, .un, .un], q⟩) (by simp [ex, ev, evA, i1])]
        rw [seq_nx (s' := ⟨[.val (.d (.list P)), .val (.d (.list [.str "after", .str "before", .str "week"])), .val (.d (.int (W.length : Int))), .un, .un, .val (.d (.list [.str p, .str x])), .un, .un, .un, .un], q⟩) (by simp [ex, ev, evA, hn'])]
        rw [seq_nx (s' := ⟨[.val (.d (.list P)), .val (.d (.list [.str "after", .str "before", .str "week"])), .val (.d (.int (W.length : Int))), .un, .un, .val (.d (.list [.str p, .str x])), .un, .un, .un, .un], q⟩) (by simp [ex, ev, evA, n5, big])]
        cases hi : (p == ("in" : Str)) with
        | true =>
          rw [hi] at ei
          have l1 : lowB p = 1 := by unfold lowB; rw [hi]; rfl
          have l2 : highB p = 15 := by unfold highB; rw [hi]; rfl
          have hin := nums_in hx (lo := 1) (n := 16 - 1) (by decide)
          rw [l1, l2]
          rw [seq_nx (s' := ⟨[.val (.d (.list P)), .val (.d (.list [.str "after", .str "before", .str "week"])), .val (.d (.int (W.length : Int))), .un, .un, .val (.d (.list [.str p, .str x])), .val (.d (.int 1)), .val (.d (.int 16)), .un, .un], q⟩) (by simp [ex, ev, evA, ei, big])]
          have e3 := comp3_ok (rho := [.val (.d (.list P)), .val (.d (.list [.str "after", .str "before", .str "week"])), .val (.d (.int (W.length : Int))), .un, .un, .val (.d (.list [.str p, .str x])), .val (.d (.int 1)), .val (.d (.int 16)), .un, .un]) (q := q) (lo := 1) (hi := 16) (by decide) rfl rfl rfl
          refine ⟨⟨[.val (.d (.list P)), .val (.d (.list [.str "after", .str "before", .str "week"])), .val (.d (.int (W.length : Int))), .un, .un, .val (.d (.list [.str p, .str x])), .val (.d (.int 1)), .val (.d (.int 16)), .val (.d (.list (nums 1 (16 - 1)))), .un], q⟩, ?_, rfl⟩
          rw [seq_nx (s' := ⟨[.val (.d (.list P)), .val (.d (.list [.str "after", .str "before", .str "week"])), .val (.d (.int (W.length : Int))), .un, .un, .val (.d (.list [.str p, .str x])), .val (.d (.int 1)), .val (.d (.int 16)), .val (.d (.list (nums 1 (16 - 1)))), .un], q⟩) (by simp only [ex, e3, R.dat_ok]; rfl)]
          generalize nums 1 (16 - 1) = NN at hin
          rw [show 15 + 1 - 1 = 16 - 1 from rfl]
          simp [ex, ev, evA, hin]
        | false =>
          rw [hi] at ei
          have l1 : lowB p = 0 := by unfold lowB; rw [hi]; rfl
          have l2 : highB p = 6 := by unfold highB; rw [hi]; rfl
          have hin := nums_in hx (lo := 0) (n := 7 - 0) (by decide)
          rw [l1, l2]
          rw [seq_nx (s' := ⟨[.val (.d (.list P)), .val (.d (.list [.str "after", .str "before", .str "week"])), .val (.d (.int (W.length : Int))), .un, .un, .val (.d (.list [.str p, .str x])), .val (.d (.int 0)), .val (.d (.int 7)), .un, .un], q⟩) (by simp [ex, ev, evA, ei, big])]
          have e3 := comp3_ok (rho := [.val (.d (.list P)), .val (.d (.list [.str "after", .str "before", .str "week"])), .val (.d (.int (W.length : Int))), .un, .un, .val (.d (.list [.str p, .str x])), .val (.d (.int 0)), .val (.d (.int 7)), .un, .un]) (q := q) (lo := 0) (hi := 7) (by decide) rfl rfl rfl
          refine ⟨⟨[.val (.d (.list P)), .val (.d (.list [.str "after", .str "before", .str "week"])), .val (.d (.int (W.length : Int))), .un, .un, .val (.d (.list [.str p, .str x])), .val (.d (.int 0)), .val (.d (.int 7)), .val (.d (.list (nums 0 (7 - 0)))), .un], q⟩, ?_, rfl⟩
          rw [seq_nx (s' := ⟨[.val (.d (.list P)), .val (.d (.list [.str "after", .str "before", .str "week"])), .val (.d (.int (W.length : Int))), .un, .un, .val (.d (.list [.str p, .str x])), .val (.d (.int 0)), .val (.d (.int 7)), .val (.d (.list (nums 0 (7 - 0)))), .un], q⟩) (by simp only [ex, e3, R.dat_ok]; rfl)]
          generalize nums 0 (7 - 0) = NN at hin
          rw [show 6 + 1 - 0 = 7 - 0 from rfl]
          simp [ex, ev, evA, hin]
    | p :: x :: y :: r, _, _ =>
      have i2 : begB W.length (p :: x :: y :: r) = false := by
        unfold begB
        simp
      rw [i2]
      refine ⟨⟨[.val (.d (.list P)), .val (.d (.list [.str "after", .str "before", .str "week"])), .val (.d (.int (W.length : Int))), .un, .un, .val (.d (.list ((p :: x :: y :: r).map PyData.str))), .un, .un, .un, .un], q⟩, ?_, rfl⟩
      have i3 : (2 : Int) < (r.length : Int) + 1 + 1 + 1 := by omega
      simp [ex, ev, evA, i1, i3]
  · have i1 : (3 : Int) < (W.length : Int) := by omega
    have i2 : begB W.length rest = false := by
      unfold begB
      cases rest <;> simp [h3]
    rw [i2]
    refine ⟨⟨[.val (.d (.list P)), .val (.d (.list [.str "after", .str "before", .str "week"])), .val (.d (.int (W.length : Int))), .un, .un, .val (.d (.list (rest.map PyData.str))), .un, .un, .un, .un], q⟩, ?_, rfl⟩
    simp [ex, ev, evA, i1]
end K15
set_option Elab.async false
set_option linter.all false
set_option maxRecDepth 1000000
set_option maxHeartbeats 0
/-! K15H: a text cut and joined; what is read is right. -/
namespace K15
open PySem L2 RD PG TL
/-! ### cut at blanks -/
theorem pre1 (c : Nat) (r : List Nat) : pre [32] (c :: r) = (c == 32) := by
  show ([c] == [32]) = _
  rw [Bool.eq_iff_iff, beq_iff_eq, beq_iff_eq]
  simp
theorem spl_c (acc r : List Nat) (c : Nat) : spl [32] 0 acc (c :: r) = if c = 32 then acc :: spl [32] 0 [] r else spl [32] 0 (acc ++ [c]) r := by
  by_cases h : c = 32
  · rw [if_pos h]
    exact spl_hit (by rw [pre1, h]; rfl)
  · rw [if_neg h]
    exact spl_miss (by rw [pre1]; simpa using h)
theorem spl_ne : ∀ (l acc : List Nat), spl [32] 0 acc l ≠ []
  | [], acc => by rw [spl_nil]; simp
  | c :: r, acc => by
    rw [spl_c]
    split
    · simp
    · exact spl_ne r _
theorem spl_back : ∀ (l acc : List Nat), joinL [32] (spl [32] 0 acc l) = acc ++ l
  | [], acc => by rw [spl_nil]; simp [joinL]
  | c :: r, acc => by
    rw [spl_c]
    split
    · rename_i h
      have ih := spl_back r []
      have hne := spl_ne r []
      cases hs : spl [32] 0 [] r with
      | nil => exact absurd hs hne
      | cons p ps =>
        rw [hs] at ih
        show acc ++ ([32] ++ joinL [32] (p :: ps)) = _
        rw [ih, h]
        rfl
    · rw [spl_back r (acc ++ [c])]
      simp
theorem spl_mem : ∀ (l acc : List Nat) (p : List Nat), p ∈ spl [32] 0 acc l → ∀ c ∈ p, c ∈ acc ++ l
  | [], acc, p, h => by
    rw [spl_nil, List.mem_singleton] at h
    subst h
    simp
  | c :: r, acc, p, h => by
    rw [spl_c] at h
    intro d hd
    split at h
    · rcases List.mem_cons.mp h with rfl | h
      · exact List.mem_append_left _ hd
      · have := spl_mem r [] p h d hd
        rw [List.nil_append] at this
        exact List.mem_append_right _ (List.mem_cons_of_mem _ this)
    · have := spl_mem r (acc ++ [c]) p h d hd
      rw [List.append_assoc] at this
      exact this
theorem spl_sum : ∀ (l acc : List Nat), ((spl [32] 0 acc l).map List.length).sum + (spl [32] 0 acc l).length = acc.length + l.length + 1
  | [], acc => by rw [spl_nil]; simp
  | c :: r, acc => by
    rw [spl_c]
    split
    · have := spl_sum r []
      simp only [List.map_cons, List.sum_cons, List.length_cons, List.length_nil] at this ⊢
      omega
    · have := spl_sum r (acc ++ [c])
      simp only [List.length_append, List.length_cons, List.length_nil] at this ⊢
      omega
theorem ok_iff (p : Str) : Ok p ↔ ∀ c ∈ tl p, c < 0x110000 := by
  show PyData.strOk p = true ↔ _
  unfold PyData.strOk
  rw [← Array.all_toList, List.all_eq_true]
  simp
abbrev blank : Str := " "
theorem tl_blank : tl blank = [32] := by decide +kernel
theorem split_tl (s : Str) : (Txt.split s blank).map tl = spl [32] 0 [] (tl s) := by
  have h := split_spl s blank (by rw [tl_blank]; simp) (kind_ok (by decide +kernel))
  rw [tl_blank] at h
  exact h
theorem split_ok {s : Str} (h : Ok s) : ∀ p ∈ Txt.split s blank, Ok p := fun p hp => (ok_iff p).mpr fun c hc => by
  have h1 : tl p ∈ spl [32] 0 [] (tl s) := by
    rw [← split_tl]
    exact List.mem_map_of_mem hp
  exact (ok_iff s).mp h c (by simpa using spl_mem _ _ _ h1 c hc)
theorem len_sum (l : List Str) : (l.map (·.length)).sum = ((l.map tl).map List.length).sum := by
  rw [List.map_map]
  congr 1
theorem split_sum (s : Str) : ((Txt.split s blank).map (·.length)).sum + (Txt.split s blank).length = s.length + 1 := by
  have h := spl_sum (tl s) []
  rw [← split_tl, List.length_map] at h
  rw [len_sum, len_tl s]
  simpa using h
theorem split_ne (s : Str) : Txt.split s blank ≠ [] := fun e => by
  have h := split_tl s
  rw [e] at h
  exact spl_ne (tl s) [] h.symm
theorem split_back (s : Str) : Txt.join blank (Txt.split s blank) = s := by
  refine ext_tl ?_
  rw [join_eq, tl_join, split_tl, tl_blank, spl_back]
  rfl
/-! ### words and numbers -/
theorem five_kd {p : Str} (h : fiveB p = true) : ∃ kd : Kd, p = kd.str := by
  have hz := any_eq h
  simp only [List.mem_cons, List.not_mem_nil, or_false] at hz
  rcases hz with rfl | rfl | rfl | rfl | rfl
  · exact ⟨.nm, rfl⟩
  · exact ⟨.th, rfl⟩
  · exact ⟨.nx, rfl⟩
  · exact ⟨.lt, rfl⟩
  · exact ⟨.inn, rfl⟩
theorem hit_head {lo n : Nat} {x : Str} {y : PyData} {r : List PyData} (h : hits lo n x = y :: r) : ∃ k, k < n ∧ y = .int ((lo + k : Nat) : Int) ∧ strI ((lo + k : Nat) : Int) = x := by
  have hm : y ∈ hits lo n x := by rw [h]; exact List.mem_cons_self
  obtain ⟨z, hz, hy⟩ := List.mem_flatMap.mp hm
  obtain ⟨k, hk, rfl⟩ := mem_rangeD hz
  rw [show (lo : Int) + (k : Int) = ((lo + k : Nat) : Int) by omega] at hy
  unfold gN at hy
  by_cases hs : (strI ((lo + k : Nat) : Int) == x) = true
  · have hy' : y ∈ (if (strI ((lo + k : Nat) : Int) == x) = true then [PyData.int ((lo + k : Nat) : Int)] else []) := hy
    rw [if_pos hs, List.mem_singleton] at hy'
    exact ⟨k, hk, hy', eq_of_beq hs⟩
  · have hy' : y ∈ (if (strI ((lo + k : Nat) : Int) == x) = true then [PyData.int ((lo + k : Nat) : Int)] else []) := hy
    rw [if_neg hs] at hy'
    cases hy'
/-! ### the program's reading -/
theorem start_ok {s : Str} (hl : s.length ≤ 100000) (q : Bag) : ∀ t, ex (.seq (.iff (.not (.isi .isStr (.var 0))) (.seq (.exs (ckRaiseW "InvalidText") (fRaiseW "InvalidText") (.cst (.int 0)) .anil .nil .nil) (.nil)) (.nil)) (.seq (.par [1, 2] (.acons (.mth .split (.var 0) (.cst (.str " "))) (.acons (.cst (.int 0)) .anil))) t)) ⟨[.val (.d (.str s)), .un, .un, .un, .un, .un, .un, .un], q⟩ = ex t (fr s ((Txt.split s blank).map PyData.str) 0 q) := by
  intro t
  have e : mthop .split s (.str " ") = some (.list ((Txt.split s blank).map PyData.str)) := by
    show (if ((" " : Str).length == 0) = false ∧ s.length + 2 ≤ big then some _ else none) = _
    rw [if_pos ⟨by decide +kernel, by show s.length + 2 ≤ 16777216; omega⟩]
  rw [seq_nx (s' := ⟨[.val (.d (.str s)), .un, .un, .un, .un, .un, .un, .un], q⟩) (by simp [ex, ev, isiD])]
  rw [seq_nx (s' := fr s ((Txt.split s blank).map PyData.str) 0 q) (by simp [fr, ex, ev, evA, e])]
section
variable {s : Str} {W : List Ar} {rest : List Str} {q : Bag}
theorem walk_to (hl : s.length ≤ 100000) (hps : Txt.split s blank = W.map Ar.str ++ rest) (hr : rest = [] ∨ ∃ p r, rest = p :: r ∧ arB p = false ∧ Ok p) :
    ex (t_phrase_read g_number_of) ⟨[.val (.d (.str s)), .un, .un, .un, .un, .un, .un, .un], q⟩ = ex t0 (fr s ((Txt.split s blank).map PyData.str) (min 3 W.length) q) := by
  rw [t_is, start_ok hl q]
  have h := while_ok s q rest hr W [] 3 10 rfl (by decide)
  rw [List.nil_append, ← hps] at h
  have e : ex (.while 10 wc wb) (fr s ((Txt.split s blank).map PyData.str) 0 q) = .ok .nx (fr s ((Txt.split s blank).map PyData.str) (min 3 W.length) q) := by
    have h' : whileR (fun s => ev wc s) (fun s => ex wb s) 10 (fr s ((Txt.split s blank).map PyData.str) 0 q) = .ok .nx (fr s ((Txt.split s blank).map PyData.str) (0 + min 3 W.length) q) := h
    rw [Nat.zero_add] at h'
    exact h'
  rw [seq_nx e]
theorem read_bad {n : Nat} {s' : S} (hb : s'.bag = q) (h : ex (t_phrase_read g_number_of) ⟨[.val (.d (.str s)), .un, .un, .un, .un, .un, .un, .un], q⟩ = .exn "InvalidText" (some (.int (n : Int))) s') : g__law_read [.d (.str s)] q = .ok (.d (.int (n : Int))) q := by
  have h1 : g_phrase_read [.d (.str s)] q = .exn "InvalidText" (some (.int (n : Int))) q := by
    have := run_exn (t := t_phrase_read g_number_of) (np := 1) (n := 8) (us := [.d (.str s)]) (b := q) rfl h
    rw [hb] at this
    exact this
  have h2 : g_read_phrase [.d (.str s)] q = .exn "InvalidText" (some (.int (n : Int))) q := by
    simp [g_read_phrase, RD.run, ex, ev, evA, t_read_phrase, h1]
  simp [g__law_read, RD.run, ex, ev, evA, t__law_read, fTryW, h2]
theorem read_good {d : PyData} {s' : S} (hb : s'.bag = q) (h : ex (t_phrase_read g_number_of) ⟨[.val (.d (.str s)), .un, .un, .un, .un, .un, .un, .un], q⟩ = .ok (.rt (.d d)) s') : g__law_read [.d (.str s)] q = .ok (.d d) q := by
  have h1 : g_phrase_read [.d (.str s)] q = .ok (.d d) q := by
    have := run_rt (t := t_phrase_read g_number_of) (np := 1) (n := 8) (us := [.d (.str s)]) (b := q) rfl h
    rw [hb] at this
    exact this
  have h2 : g_read_phrase [.d (.str s)] q = .ok (.d d) q := by
    simp [g_read_phrase, RD.run, ex, ev, evA, t_read_phrase, h1]
  simp [g__law_read, RD.run, ex, ev, evA, t__law_read, fTryW, h2]
end
/-- some text of a phrase begins with the first k + 1 parts -/
def begK (m : Nat) (rest : List Str) (k : Nat) : Bool := begB (min (k + 1) m) (rest.take (k + 1 - m))
/-- the first prefix that no text of a phrase begins with -/
structure First (m : Nat) (rest : List Str) (n : Nat) : Prop where
  pos : 1 ≤ n
  le : n ≤ m + rest.length + 1
  good : ∀ k, k + 1 < n → begK m rest k = true
  bad : n ≤ m + rest.length → begK m rest (n - 1) = false
theorem beg_lo {m : Nat} {rest : List Str} {k : Nat} (h : k < m) : begK m rest k = decide (k + 1 ≤ 3) := by
  unfold begK
  rw [show k + 1 - m = 0 by omega, show min (k + 1) m = k + 1 by omega]
  rfl
theorem beg_hi {m : Nat} {rest : List Str} {j : Nat} : begK m rest (m + j) = begB m (rest.take (j + 1)) := by
  unfold begK
  rw [show m + j + 1 - m = j + 1 by omega, show min (m + j + 1) m = m by omega]
theorem five_or {p : Str} (h : fiveB p = true) : (p == ("in" : Str)) = true ∨ nmB p = true := by
  rw [five_iff, Bool.or_eq_true] at h
  exact h.symm
theorem five_no {p : Str} (h : fiveB p = false) : (p == ("in" : Str)) = false ∧ nmB p = false := by
  rw [five_iff, Bool.or_eq_false_iff] at h
  exact ⟨h.2, h.1⟩
/-- what the law reads: a number at the first bad prefix, or a phrase of these words -/
theorem read_cases {s : Str} (hs : Ok s) (hl : s.length ≤ 100000) (q : Bag) : ∃ (W : List Ar) (rest : List Str), Txt.split s blank = W.map Ar.str ++ rest ∧ (rest = [] ∨ ∃ p r, rest = p :: r ∧ arB p = false) ∧
    ((∃ n : Nat, g__law_read [.d (.str s)] q = .ok (.d (.int (n : Int))) q ∧ First W.length rest n) ∨
     ∃ (kd : Kd) (i : Int), g__law_read [.d (.str s)] q = .ok (.d (encP kd i W)) q ∧ rest = [kd.str, strI i] ∧ okR kd i ∧ W.length < 4 ∧ (∃ k : Nat, k < 40 ∧ i = (k : Int)) ∧ First W.length rest (W.length + 3)) := by
  obtain ⟨W, rest, hps, hr⟩ := parts_cases (Txt.split s blank)
  have ho : ∀ p ∈ W.map Ar.str ++ rest, Ok p := by
    rw [← hps]
    exact split_ok hs
  have hr2 : rest = [] ∨ ∃ p r, rest = p :: r ∧ arB p = false ∧ Ok p := by
    rcases hr with rfl | ⟨p, r, rfl, ha⟩
    · exact .inl rfl
    · exact .inr ⟨p, r, rfl, ha, ho p (List.mem_append_right _ List.mem_cons_self)⟩
  refine ⟨W, rest, hps, hr, ?_⟩
  have hw := walk_to (q := q) hl hps hr2
  have hP : (Txt.split s blank).map PyData.str = W.map Ar.strD ++ rest.map PyData.str := by
    rw [hps, List.map_append, List.map_map]
    rfl
  have hlen : ((Txt.split s blank).map PyData.str).length = W.length + rest.length := by rw [hP]; simp
  by_cases h4 : 4 ≤ W.length
  · left
    rw [show min 3 W.length = 3 by omega] at hw
    obtain ⟨a, ha⟩ : ∃ a, W[3]? = some a := ⟨W[3], List.getElem?_eq_getElem h4⟩
    have hg : ((Txt.split s blank).map PyData.str)[3]? = some (.str a.str) := by
      rw [hP, List.getElem?_append_left (by rw [List.length_map]; exact h4), List.getElem?_map, ha]
      rfl
    have h5 : fiveB a.str = false := by cases a <;> decide +kernel
    obtain ⟨h6, h7⟩ := five_no h5
    rw [r_word (ar_ok a) hg h6 h7] at hw
    refine ⟨4, read_bad rfl hw, by decide, by omega, fun k hk => ?_, fun _ => ?_⟩
    · rw [beg_lo (by omega)]
      exact decide_eq_true (by omega)
    · rw [show 4 - 1 = 3 from rfl, beg_lo (by omega)]
      rfl
  · rw [show min 3 W.length = W.length by omega] at hw
    have h3 : W.length ≤ 3 := by omega
    have lowOk : ∀ k, k < W.length → begK W.length rest k = true := fun k hk => by
      rw [beg_lo hk]
      exact decide_eq_true (by omega)
    rcases hr2 with rfl | ⟨p, r, rfl, ha, hp⟩
    · left
      rw [r_end (by rw [hlen]; rfl)] at hw
      exact ⟨W.length + 1, read_bad rfl hw, by omega, by simp, fun k hk => lowOk k (by omega), fun h => by simp at h <;> omega⟩
    · have hg : ((Txt.split s blank).map PyData.str)[W.length]? = some (.str p) := by
        rw [hP, List.getElem?_append_right (by simp), List.length_map, Nat.sub_self]
        rfl
      cases h5 : fiveB p with
      | false =>
        left
        obtain ⟨h6, h7⟩ := five_no h5
        rw [r_word hp hg h6 h7] at hw
        refine ⟨W.length + 1, read_bad rfl hw, by omega, by simp, fun k hk => lowOk k (by omega), fun _ => ?_⟩
        rw [show W.length + 1 - 1 = W.length + 0 by omega, beg_hi]
        show begB W.length [p] = false
        rw [beg1, h5]
        simp
      | true =>
        rw [r_on hp hg (five_or h5)] at hw
        have b0 : begK W.length (p :: r) (W.length + 0) = true := by
          rw [beg_hi]
          show begB W.length [p] = true
          rw [beg1, h5, decide_eq_true h3]
          rfl
        cases r with
        | nil =>
          left
          rw [r_last (by rw [hlen]; rfl)] at hw
          refine ⟨W.length + 2, read_bad rfl hw, by omega, by simp, fun k hk => ?_, fun h => by simp at h <;> omega⟩
          by_cases hk2 : k < W.length
          · exact lowOk k hk2
          · rw [show k = W.length + 0 by omega]
            exact b0
        | cons x r =>
          have hx : Ok x := ho x (List.mem_append_right _ (List.mem_cons_of_mem _ List.mem_cons_self))
          have hg2 : ((Txt.split s blank).map PyData.str)[W.length + 1]? = some (.str x) := by
            rw [hP, List.getElem?_append_right (by simp), List.length_map, show W.length + 1 - W.length = 1 by omega]
            rfl
          rw [r_num hp hx hg hg2] at hw
          cases hh : hits (lowB p) (highB p + 1 - lowB p) x with
          | nil =>
            left
            rw [hh] at hw
            have hw2 := hw.trans r_none
            refine ⟨W.length + 2, read_bad rfl hw2, by omega, by simp <;> omega, fun k hk => ?_, fun _ => ?_⟩
            · by_cases hk2 : k < W.length
              · exact lowOk k hk2
              · rw [show k = W.length + 0 by omega]
                exact b0
            · rw [show W.length + 2 - 1 = W.length + 1 by omega, beg_hi]
              show begB W.length [p, x] = false
              rw [beg2, hh]
              simp
          | cons y ys =>
            rw [hh] at hw
            obtain ⟨k0, hk0, rfl, hx2⟩ := hit_head hh
            have b1 : begK W.length (p :: x :: r) (W.length + 1) = true := by
              rw [beg_hi]
              show begB W.length [p, x] = true
              rw [beg2, hh, h5, decide_eq_true h3]
              rfl
            have gk : ∀ k, k + 1 < W.length + 3 → begK W.length (p :: x :: r) k = true := fun k hk => by
              by_cases hk2 : k < W.length
              · exact lowOk k hk2
              · by_cases hk3 : k = W.length
                · rw [hk3]
                  exact b0
                · rw [show k = W.length + 1 by omega]
                  exact b1
            cases r with
            | cons z r =>
              left
              have hw2 := hw.trans (r_more (by rw [hlen]; simp <;> omega))
              refine ⟨W.length + 3, read_bad rfl hw2, by omega, by simp <;> omega, gk, fun _ => ?_⟩
              rw [show W.length + 3 - 1 = W.length + 2 by omega, beg_hi]
              show begB W.length [p, x, z] = false
              unfold begB
              simp
            | nil =>
              right
              obtain ⟨kd, rfl⟩ := five_kd h5
              obtain ⟨s', hs', hb'⟩ := r_good (s := s) (P := (Txt.split s blank).map PyData.str) (j := W.length) (q := q) (lo := lowB kd.str) (hi := highB kd.str) (i := ((lowB kd.str + k0 : Nat) : Int)) (kd := kd) (W := W) (x := x) hP rfl
              refine ⟨kd, ((lowB kd.str + k0 : Nat) : Int), read_good hb' (hw.trans hs'), by rw [hx2], ?_, by omega, ⟨lowB kd.str + k0, ?_, rfl⟩, by omega, by simp, gk, fun h => by simp at h <;> omega⟩
              · cases kd with
                | inn =>
                  have e1 : lowB (Kd.str .inn) = 1 := by decide +kernel
                  have e2 : highB (Kd.str .inn) = 15 := by decide +kernel
                  rw [e1, e2] at hk0
                  rw [e1]
                  exact ⟨by omega, by omega⟩
                | nm =>
                  have e1 : lowB (Kd.str .nm) = 0 := by decide +kernel
                  have e2 : highB (Kd.str .nm) = 6 := by decide +kernel
                  rw [e1, e2] at hk0
                  rw [e1]
                  exact ⟨by omega, by omega⟩
                | th =>
                  have e1 : lowB (Kd.str .th) = 0 := by decide +kernel
                  have e2 : highB (Kd.str .th) = 6 := by decide +kernel
                  rw [e1, e2] at hk0
                  rw [e1]
                  exact ⟨by omega, by omega⟩
                | nx =>
                  have e1 : lowB (Kd.str .nx) = 0 := by decide +kernel
                  have e2 : highB (Kd.str .nx) = 6 := by decide +kernel
                  rw [e1, e2] at hk0
                  rw [e1]
                  exact ⟨by omega, by omega⟩
                | lt =>
                  have e1 : lowB (Kd.str .lt) = 0 := by decide +kernel
                  have e2 : highB (Kd.str .lt) = 6 := by decide +kernel
                  rw [e1, e2] at hk0
                  rw [e1]
                  exact ⟨by omega, by omega⟩
              · have e : lowB kd.str + (highB kd.str + 1 - lowB kd.str) ≤ 20 := by cases kd <;> decide +kernel
                omega
end K15
set_option Elab.async false
set_option linter.all false
set_option maxRecDepth 1000000
set_option maxHeartbeats 0
/-! K15I: every text is read or refused rightly. -/
namespace K15
open PySem L2 RD PG TL
theorem flt_head (b : Nat → Bool) (n : Nat) (h2 : ∀ k, k < n → b k = false) (h3 : b n = true) : ∀ len, n < len → ∃ r, (List.range len).filter b = n :: r
  | 0, h => absurd h (Nat.not_lt_zero _)
  | len + 1, h => by
    rw [List.range_succ, List.filter_append]
    by_cases hn : n < len
    · obtain ⟨r, e⟩ := flt_head b n h2 h3 len hn
      rw [e]
      exact ⟨_, rfl⟩
    · have e : n = len := by omega
      subst e
      have e1 : (List.range n).filter b = [] := List.filter_eq_nil_iff.mpr fun k hk => by
        rw [h2 k (List.mem_range.mp hk)]
        simp
      refine ⟨[], ?_⟩
      rw [e1]
      simp [h3]
/-- the bad prefixes -/
def badL (m : Nat) (rest : List Str) : List PyData := ((rangeD 0 (m + rest.length)).filter fun x => match x with | .int i => !begK m rest i.toNat | _ => false).map fun x => match x with | .int i => .int (i + 1) | x => x
theorem badL_is (m : Nat) (rest : List Str) : badL m rest = ((List.range (m + rest.length)).filter fun k => !begK m rest k).map fun (k : Nat) => PyData.int ((k : Int) + 1) := by
  unfold badL rangeD
  rw [List.filter_map, List.map_map]
  have e : ((fun x => match x with | PyData.int i => !begK m rest i.toNat | _ => false) ∘ fun (k : Nat) => PyData.int (0 + (k : Int))) = fun k => !begK m rest k := by
    funext k
    show (!begK m rest (0 + (k : Int)).toNat) = _
    rw [show (0 + (k : Int)).toNat = k by omega]
  rw [e]
  refine List.map_congr_left fun k _ => ?_
  show PyData.int (0 + (k : Int) + 1) = _
  rw [show (0 : Int) + (k : Int) + 1 = (k : Int) + 1 by omega]
theorem badL_head {m : Nat} {rest : List Str} {n : Nat} (F : First m rest n) (h : n ≤ m + rest.length) : ∃ r, badL m rest = .int (n : Int) :: r := by
  have h1 := F.pos
  obtain ⟨r, e⟩ := flt_head (fun k => !begK m rest k) (n - 1) (fun k hk => by rw [F.good k (by omega)]; rfl) (by rw [F.bad h]; rfl) (m + rest.length) (by omega)
  rw [badL_is, e, List.map_cons, show ((n - 1 : Nat) : Int) + 1 = (n : Int) by omega]
  exact ⟨_, rfl⟩
theorem badL_nil {m : Nat} {rest : List Str} {n : Nat} (F : First m rest n) (h : n = m + rest.length + 1) : badL m rest = [] := by
  rw [badL_is]
  have e1 : (List.range (m + rest.length)).filter (fun k => !begK m rest k) = [] := List.filter_eq_nil_iff.mpr fun k hk => by
    rw [F.good k (by have := List.mem_range.mp hk; omega)]
    simp
  rw [e1]
  rfl
theorem badL_shaped (m : Nat) (rest : List Str) : SeqAt.shaped (.list (badL m rest)) = true := by
  rw [badL_is]
  refine shaped_list (n := 0) (fun x hx => ?_) (fun x hx => ?_) (by decide)
  · obtain ⟨k, _, rfl⟩ := List.mem_map.mp hx
    simp [PyData.canLay0]
  · obtain ⟨k, _, rfl⟩ := List.mem_map.mp hx
    simp [PyData.depth]
section
variable {W : List Ar} {rest : List Str} {q : Bag}
theorem take_is (k : Nat) : ∃ W2 : List Ar, (W.map Ar.str ++ rest).take (k + 1) = W2.map Ar.str ++ rest.take (k + 1 - W.length) ∧ W2.length = min (k + 1) W.length := by
  refine ⟨W.take (k + 1), ?_, by rw [List.length_take]⟩
  rw [List.take_append, List.map_take, List.length_map]
theorem take_head (hr : rest = [] ∨ ∃ p r, rest = p :: r ∧ arB p = false) (j : Nat) : rest.take j = [] ∨ ∃ p r, rest.take j = p :: r ∧ arB p = false := by
  cases j with
  | zero => exact .inl rfl
  | succ j =>
    rcases hr with rfl | ⟨p, r, rfl, ha⟩
    · exact .inl (by simp)
    · exact .inr ⟨p, r.take j, rfl, ha⟩
theorem comp_bad (hr : rest = [] ∨ ∃ p r, rest = p :: r ∧ arB p = false) (ho : ∀ p ∈ W.map Ar.str ++ rest, Ok p) (hl : (W.map Ar.str ++ rest).length ≤ 100000) (v0 v2 c5 c6 : Slot) :
    ev (c__law_right_1 g__law_begins) ⟨[v0, .val (.d (.list ((W.map Ar.str ++ rest).map PyData.str))), v2, .un, .un, c5, c6], q⟩ = .ok (.d (.list (badL W.length rest))) ⟨[v0, .val (.d (.list ((W.map Ar.str ++ rest).map PyData.str))), v2, .un, .un, c5, c6], q⟩ := by
  have hlen : (W.map Ar.str ++ rest).length = W.length + rest.length := by simp
  unfold c__law_right_1 badL
  generalize hps : W.map Ar.str ++ rest = ps at *
  refine comp_if (i := 4) (xs := rangeD 0 (W.length + rest.length)) ?_ ?_ ?_ ?_
  · rw [← hlen]
    have c : (ps.length : Int) ≤ 1000000 ∧ -1000000 ≤ (ps.length : Int) := by omega
    simp [evI, ev, evA, c]
  · unfold rangeD
    simp [big]
    omega
  · intro x hx
    obtain ⟨k, hk, rfl⟩ := mem_rangeD hx
    rw [show (0 : Int) + (k : Int) = (k : Int) by omega]
    obtain ⟨W2, e1, e2⟩ := take_is (W := W) (rest := rest) k
    rw [hps] at e1
    have hb := begins_ok (W := W2) (rest := rest.take (k + 1 - W.length)) (take_head hr _) (fun p hp => by
      rw [← e1] at hp
      exact ho p (List.mem_of_mem_take hp)) (by rw [← e1]; rw [List.length_take]; omega) q
    rw [← e1, e2] at hb
    have ec := cut_to (ps.map PyData.str) (k + 1)
    rw [show ((k + 1 : Nat) : Int) = (k : Int) + 1 by omega] at ec
    rw [List.map_take] at hb
    have e5 : ((k : Int)).toNat = k := by omega
    show ev _ _ = .ok (.d (.bool (!begK W.length rest (k : Int).toNat))) _
    rw [e5]
    unfold begK
    simp [ev, evA, evO, slcop, ec, hb]
  · intro x hx _
    obtain ⟨k, hk, rfl⟩ := mem_rangeD hx
    simp [ev]
end
theorem txts_strs : ∀ l : List Str, txts (l.map PyData.str) = some l
  | [] => rfl
  | x :: l => by
    show (txts (l.map PyData.str)).map (x :: ·) = _
    rw [txts_strs l]
    rfl
/-- THE LAW's look at a text -/
theorem right_ok {s : Str} (hs : Ok s) (hl : s.length ≤ 50000) (q : Bag) : g__law_right [.d (.str s)] q = .ok (.d (.bool true)) q := by
  obtain ⟨W, rest, hps, hr, hc⟩ := read_cases hs (by omega) q
  have ho : ∀ p ∈ W.map Ar.str ++ rest, Ok p := by
    rw [← hps]
    exact split_ok hs
  have hsum := split_sum s
  have hn : (W.map Ar.str ++ rest).length ≤ 100000 := by
    rw [← hps]
    omega
  have hlen : (W.map Ar.str ++ rest).length = W.length + rest.length := by simp
  have em : mthop .split s (.str " ") = some (.list ((W.map Ar.str ++ rest).map PyData.str)) := by
    show (if ((" " : Str).length == 0) = false ∧ s.length + 2 ≤ big then some (PyData.list ((Txt.split s blank).map PyData.str)) else none) = _
    rw [if_pos ⟨by decide +kernel, by show s.length + 2 ≤ 16777216; omega⟩, hps]
  have hbs := badL_shaped W.length rest
  have hne := ne_nil hbs
  have fin : ∀ {s' : S}, s'.bag = q → ex (t__law_right g__law_read g__law_begins (g__law_is_phrase 6) (g__law_words 6)) ⟨[.val (.d (.str s)), .un, .un, .un, .un, .un, .un], q⟩ = .ok (.rt (.d (.bool true))) s' → g__law_right [.d (.str s)] q = .ok (.d (.bool true)) q := fun {s'} hb h => by
    have := run_rt (t := t__law_right g__law_read g__law_begins (g__law_is_phrase 6) (g__law_words 6)) (np := 1) (n := 7) (us := [.d (.str s)]) (b := q) rfl h
    rw [hb] at this
    exact this
  rcases hc with ⟨n, hread, F⟩ | ⟨kd, i, hread, rfl, hi, hW, ⟨k, hk, rfl⟩, F⟩
  · refine fin (s' := ⟨[.val (.d (.str s)), .val (.d (.list ((W.map Ar.str ++ rest).map PyData.str))), .val (.d (.int (n : Int))), .val (.d (.list (badL W.length rest))), .un, .un, .un], q⟩) rfl ?_
    unfold t__law_right
    rw [seq_nx (s' := ⟨[.val (.d (.str s)), .val (.d (.list ((W.map Ar.str ++ rest).map PyData.str))), .val (.d (.int (n : Int))), .un, .un, .un, .un], q⟩) (by simp [ex, ev, evA, em, hread, big])]
    have cb := comp_bad (q := q) hr ho hn (.val (.d (.str s))) (.val (.d (.int (n : Int)))) .un .un
    rw [seq_nx (s' := ⟨[.val (.d (.str s)), .val (.d (.list ((W.map Ar.str ++ rest).map PyData.str))), .val (.d (.int (n : Int))), .val (.d (.list (badL W.length rest))), .un, .un, .un], q⟩) (by simp only [ex, cb, R.dat_ok]; rfl)]
    by_cases hle : n ≤ W.length + rest.length
    · obtain ⟨r, e⟩ := badL_head F hle
      rw [e] at hne ⊢
      simp [ex, ev, evA, isiD, hne]
    · have hnn : n = W.length + rest.length + 1 := by have := F.le; omega
      have e := badL_nil F hnn
      rw [e] at hne ⊢
      have hl2 : ((W.map Ar.str ++ rest).map PyData.str).length = W.length + rest.length := by simp
      generalize (W.map Ar.str ++ rest).map PyData.str = P at hl2
      have e3 : ((n : Int) == (P.length : Int) + 1) = true := by
        rw [beq_iff_eq, hl2]
        omega
      simp [ex, ev, evA, isiD, hne, e3]
  · refine fin (s' := ⟨[.val (.d (.str s)), .val (.d (.list ((W.map Ar.str ++ [kd.str, strI (k : Int)]).map PyData.str))), .val (.d (encP kd (k : Int) W)), .val (.d (.list [])), .un, .val (.d (.list (wordsD kd W))), .val (.d (.int (k : Int)))], q⟩) rfl ?_
    have hph := enc_phB hi W 4 hW
    have lay := ph_lay hph
    have lp := lisp_any 4 6 (encP kd (k : Int) W) q (by decide) lay.1
    rw [hph, show ((4 : Nat) : Int) = 4 from rfl] at lp
    have lw := words_ok kd (k : Int) W 6 q (by omega) (by omega)
    have e := badL_nil F (by simp)
    have isn : isiD .isInt (encP kd (k : Int) W) = some false := by cases W <;> rfl
    unfold t__law_right
    have cb := comp_bad (q := q) hr ho hn (.val (.d (.str s))) (.val (.d (encP kd (k : Int) W))) .un .un
    rw [e] at cb hne
    rw [seq_nx (s' := ⟨[.val (.d (.str s)), .val (.d (.list ((W.map Ar.str ++ [kd.str, strI (k : Int)]).map PyData.str))), .val (.d (encP kd (k : Int) W)), .un, .un, .un, .un], q⟩) (by simp [ex, ev, evA, em, hread, big])]
    rw [seq_nx (s' := ⟨[.val (.d (.str s)), .val (.d (.list ((W.map Ar.str ++ [kd.str, strI (k : Int)]).map PyData.str))), .val (.d (encP kd (k : Int) W)), .val (.d (.list [])), .un, .un, .un], q⟩) (by simp only [ex, cb, R.dat_ok]; rfl)]
    have ej : mthop .join " " (.list (wordsD kd W ++ [.str (strI (k : Int))])) = some (.str s) := by
      have e1 : wordsD kd W ++ [.str (strI (k : Int))] = (W.map Ar.str ++ [kd.str, strI (k : Int)]).map PyData.str := by
        unfold wordsD
        rw [List.map_append, List.map_map]
        simp [Ar.strD, Function.comp_def]
      rw [e1]
      show (match txts ((W.map Ar.str ++ [kd.str, strI (k : Int)]).map PyData.str) with
        | some ys => if (ys.map fun y : Str => y.length).sum + ys.length * (" " : Str).length ≤ big then some (PyData.str (Txt.join " " ys)) else none
        | none => none) = _
      rw [txts_strs]
      show (if ((W.map Ar.str ++ [kd.str, strI (k : Int)]).map fun y : Str => y.length).sum + (W.map Ar.str ++ [kd.str, strI (k : Int)]).length * (" " : Str).length ≤ big then some (PyData.str (Txt.join " " (W.map Ar.str ++ [kd.str, strI (k : Int)]))) else none) = _
      rw [← hps, show (" " : Str).length = 1 by decide +kernel, Nat.mul_one, hsum, if_pos (by show s.length + 1 ≤ 16777216; omega)]
      rw [show (Txt.join " " (Txt.split s blank)) = s from split_back s]
    have o2 := strI_lg k hk
    have eb : bltop .str [.int (k : Int)] = some (.str (strI (k : Int))) := by
      show (if ((k : Int)).natAbs.log2 < 1920 then some _ else none) = _
      rw [if_pos o2]
      rfl
    have es : cmpop .eq (.str s) (.str s) = some true := by
      rw [cmp_eqs hs hs]
      simp
    have hwl : (wordsD kd W).length + 1 ≤ 16777216 := by
      unfold wordsD
      simp
      omega
    generalize (W.map Ar.str ++ [kd.str, strI (k : Int)]).map PyData.str = P
    generalize encP kd (k : Int) W = EE at *
    generalize wordsD kd W = WW at *
    generalize strI (k : Int) = SS at *
    simp [ex, ev, evA, isn, hne, lp, lw, binop, eb, ej, es, big, hwl]
end K15
set_option Elab.async false
set_option linter.all false
set_option maxRecDepth 1000000
set_option maxHeartbeats 0
/-! K15D: the law. -/
namespace K15
open PySem L2 RD PG TL
/-! ### texts that are bent -/
def wt (l : List Str) : Nat := (l.map fun y : Str => y.length).sum + l.length
theorem wt_app (a b : List Str) : wt (a ++ b) = wt a + wt b := by
  unfold wt
  rw [List.map_append, List.sum_append, List.length_append]
  omega
theorem wt_take (l : List Str) (k : Nat) : wt (l.take k) ≤ wt l := by
  have h := wt_app (l.take k) (l.drop k)
  rw [List.take_append_drop] at h
  omega
theorem wt_drop (l : List Str) (k : Nat) : wt (l.drop k) ≤ wt l := by
  have h := wt_app (l.take k) (l.drop k)
  rw [List.take_append_drop] at h
  omega
theorem wt_cut (l : List Str) (k j : Nat) (h : k ≤ j) : wt (l.take k) + wt (l.drop j) ≤ wt l := by
  have h1 := wt_app (l.take k) (l.drop k)
  rw [List.take_append_drop] at h1
  have h2 := wt_drop (l.drop k) (j - k)
  rw [List.drop_drop, show k + (j - k) = j by omega] at h2
  omega
theorem wt_rev (l : List Str) : wt l.reverse = wt l := by
  unfold wt
  rw [List.map_reverse, List.sum_reverse, List.length_reverse]
theorem wt_one (x : Str) : wt [x] = x.length + 1 := by
  unfold wt
  simp
theorem joinL_mem : ∀ (l : List (List Nat)) (c : Nat), c ∈ joinL [32] l → c = 32 ∨ ∃ p ∈ l, c ∈ p
  | [], c, h => by cases h
  | [p], c, h => .inr ⟨p, List.mem_cons_self, h⟩
  | p :: q :: r, c, h => by
    have h' : c ∈ p ++ ([32] ++ joinL [32] (q :: r)) := h
    rcases List.mem_append.mp h' with h1 | h1
    · exact .inr ⟨p, List.mem_cons_self, h1⟩
    · rcases List.mem_append.mp h1 with h2 | h2
      · exact .inl (List.mem_singleton.mp h2)
      · rcases joinL_mem (q :: r) c h2 with h3 | ⟨z, hz, h3⟩
        · exact .inl h3
        · exact .inr ⟨z, List.mem_cons_of_mem _ hz, h3⟩
theorem joinL_len : ∀ l : List (List Nat), (joinL [32] l).length ≤ (l.map List.length).sum + l.length
  | [] => by simp [joinL]
  | [p] => by simp [joinL]
  | p :: q :: r => by
    have ih := joinL_len (q :: r)
    show (p ++ ([32] ++ joinL [32] (q :: r))).length ≤ _
    simp only [List.length_append, List.map_cons, List.sum_cons, List.length_cons, List.length_nil] at ih ⊢
    omega
theorem join_ok {l : List Str} (h : ∀ p ∈ l, Ok p) (hw : wt l ≤ 40000) : mthop .join " " (.list (l.map PyData.str)) = some (.str (Txt.join blank l)) ∧ Ok (Txt.join blank l) ∧ (Txt.join blank l).length ≤ wt l := by
  refine ⟨?_, ?_, ?_⟩
  · show (match txts (l.map PyData.str) with
      | some ys => if (ys.map fun y : Str => y.length).sum + ys.length * (" " : Str).length ≤ big then some (PyData.str (Txt.join " " ys)) else none
      | none => none) = _
    rw [txts_strs]
    show (if (l.map fun y : Str => y.length).sum + l.length * (" " : Str).length ≤ big then some (PyData.str (Txt.join " " l)) else none) = _
    rw [show (" " : Str).length = 1 by decide +kernel, Nat.mul_one, if_pos (by show wt l ≤ 16777216; omega)]
  · rw [ok_iff]
    intro c hc
    rw [join_eq, tl_join, tl_blank] at hc
    rcases joinL_mem _ _ hc with rfl | ⟨p, hp, hc⟩
    · decide
    · obtain ⟨z, hz, rfl⟩ := List.mem_map.mp hp
      exact (ok_iff z).mp (h z hz) c hc
  · rw [len_tl, join_eq, tl_join, tl_blank]
    have h1 := joinL_len (l.map tl)
    rw [List.length_map] at h1
    unfold wt
    rw [len_sum]
    exact h1
theorem cutS_ok {t : Str} (h : Ok t) (lo hi : Option Int) : Ok (cutS t lo hi) ∧ (cutS t lo hi).length ≤ t.length := by
  constructor
  · rw [ok_iff]
    intro c hc
    exact (ok_iff t).mp h c (List.mem_of_mem_drop (List.mem_of_mem_take (show c ∈ ((tl t).drop _).take _ from hc)))
  · rw [len_tl, len_tl]
    show (((tl t).drop _).take _).length ≤ _
    rw [List.length_take, List.length_drop]
    omega
theorem app_ok {a b : Str} (ha : Ok a) (hb : Ok b) : Ok (a ++ b) ∧ (a ++ b).length = a.length + b.length := by
  constructor
  · rw [ok_iff, tl_append]
    intro c hc
    rcases List.mem_append.mp hc with h | h
    · exact (ok_iff a).mp ha c h
    · exact (ok_iff b).mp hb c h
  · rw [len_tl, tl_append, List.length_append, ← len_tl, ← len_tl]
theorem add_str {a b : Str} (h : a.length + b.length ≤ 100000) : binop .add (.str a) (.str b) = some (.str (a ++ b)) := by
  show (if a.length + b.length ≤ big then some _ else none) = _
  rw [if_pos (by show a.length + b.length ≤ 16777216; omega)]
def shortB (d : PyData) : Bool := match d with
  | .str z => PyData.strOk z && decide (z.length ≤ 5)
  | _ => false
theorem short_of {l : List PyData} (h : l.all shortB = true) {w : PyData} (hw : w ∈ l) : ∃ z : Str, w = .str z ∧ Ok z ∧ z.length ≤ 5 := by
  have := List.all_eq_true.mp h w hw
  unfold shortB at this
  split at this
  · rw [Bool.and_eq_true, decide_eq_true_eq] at this
    exact ⟨_, rfl, this.1, this.2⟩
  · cases this
def thirteen : List PyData := [.str "", .str "week", .str "after", .str "in", .str "next", .str "0", .str "7", .str "15", .str "16", .str "-1", .str "03", .str "Next", .str "\n"]
def four : List PyData := [.str " ", .str "1", .str "x", .str "\n"]
theorem slc_str {t : Str} (h : t.length ≤ 1000) (lo hi : Option Int) : slcop (.str t) lo hi = some (.str (cutS t lo hi)) := by
  show (if t.length ≤ big then some _ else none) = _
  rw [if_pos (by show t.length ≤ 16777216; omega)]
theorem bent_ok {t : Str} (ht : Ok t) (hl : t.length ≤ 1000) (x y : Int) : ∃ s x' y', g__law_bent_text [.bag, .d (.str t)] (some (x, y)) = .ok (.d (.str s)) (some (x', y')) ∧ Ok s ∧ s.length ≤ 50000 := by
  have hsum : wt (Txt.split t blank) = t.length + 1 := split_sum t
  have hpo := split_ok ht
  have hne := split_ne t
  have em : mthop .split t (.str " ") = some (.list ((Txt.split t blank).map PyData.str)) := by
    show (if ((" " : Str).length == 0) = false ∧ t.length + 2 ≤ big then some _ else none) = _
    rw [if_pos ⟨by decide +kernel, by show t.length + 2 ≤ 16777216; omega⟩]
  have el : bltop .len [.str t] = some (.int (t.length : Int)) := by
    show (if t.length ≤ big then some _ else none) = _
    rw [if_pos (by show t.length ≤ 16777216; omega)]
  generalize Txt.split t blank = P at hsum hpo hne em
  have hP1 : 1 ≤ P.length := List.length_pos_iff.mpr hne
  have hP2 : P.length ≤ 1001 := by unfold wt at hsum; omega
  obtain ⟨way, x1, y1, w0, w1, e1⟩ := take_ok (m := 6) (by decide) (by decide) x y
  obtain ⟨at_, x2, y2, a0, a1, e2⟩ := take_ok (m := (t.length : Int) + 1) (by omega) (by omega) x1 y1
  obtain ⟨sp, x3, y3, s0, s1, e3⟩ := take_ok (m := (P.length : Int)) (by omega) (by omega) x2 y2
  obtain ⟨wd, x4, y4, hw, e4⟩ := of_ok thirteen (by simp [thirteen]) (by simp [thirteen]) x3 y3
  obtain ⟨z, rfl, hz, hzl⟩ := short_of (by decide +kernel) hw
  obtain ⟨k, rfl⟩ : ∃ k : Nat, sp = (k : Int) := ⟨sp.toNat, by omega⟩
  have step : ∀ r, ex (.seq (.par [2, 3] (.acons (.call "_law_take" g__law_take (.acons (.var 0) (.acons (.cst (.int 6)) .anil))) (.acons (.mth .split (.var 1) (.cst (.str " "))) .anil))) (.seq (.par [4, 5] (.acons (.call "_law_take" g__law_take (.acons (.var 0) (.acons (.bin .add (.blt .len (.acons (.var 1) .anil)) (.cst (.int 1))) .anil))) (.acons (.call "_law_take" g__law_take (.acons (.var 0) (.acons (.blt .len (.acons (.var 3) .anil)) .anil))) .anil))) (.seq (.asg (.tname 6) (.call "_law_of" g__law_of (.acons (.var 0) (.acons (.lst (.acons (.cst (.str "")) (.acons (.cst (.str "week")) (.acons (.cst (.str "after")) (.acons (.cst (.str "in")) (.acons (.cst (.str "next")) (.acons (.cst (.str "0")) (.acons (.cst (.str "7")) (.acons (.cst (.str "15")) (.acons (.cst (.str "16")) (.acons (.cst (.str "-1")) (.acons (.cst (.str "03")) (.acons (.cst (.str "Next")) (.acons (.cst (.str "\n")) .anil)))))))))))))) .anil)))) r))) ⟨[.val .bag, .val (.d (.str t)), .un, .un, .un, .un, .un], some (x, y)⟩ =
      ex r ⟨[.val .bag, .val (.d (.str t)), .val (.d (.int way)), .val (.d (.list (P.map PyData.str))), .val (.d (.int at_)), .val (.d (.int (k : Int))), .val (.d (.str z))], some (x4, y4)⟩ := by
    intro r
    unfold thirteen at e4
    rw [seq_nx (s' := ⟨[.val .bag, .val (.d (.str t)), .val (.d (.int way)), .val (.d (.list (P.map PyData.str))), .un, .un, .un], some (x1, y1)⟩) (by simp [ex, ev, evA, e1, em])]
    rw [seq_nx (s' := ⟨[.val .bag, .val (.d (.str t)), .val (.d (.int way)), .val (.d (.list (P.map PyData.str))), .val (.d (.int at_)), .val (.d (.int (k : Int))), .un], some (x3, y3)⟩) (by simp [ex, ev, evA, el, e2, e3])]
    rw [seq_nx (s' := ⟨[.val .bag, .val (.d (.str t)), .val (.d (.int way)), .val (.d (.list (P.map PyData.str))), .val (.d (.int at_)), .val (.d (.int (k : Int))), .val (.d (.str z))], some (x4, y4)⟩) (by simp [ex, ev, evA, e4, big])]
  have fin : ∀ {s : Str} {x' y' : Int} {s' : S}, ex (t__law_bent_text g__law_take g__law_of) ⟨[.val .bag, .val (.d (.str t)), .un, .un, .un, .un, .un], some (x, y)⟩ = .ok (.rt (.d (.str s))) s' → s'.bag = some (x', y') → g__law_bent_text [.bag, .d (.str t)] (some (x, y)) = .ok (.d (.str s)) (some (x', y')) := fun {s x' y' s'} h hb => by
    have := run_rt (t := t__law_bent_text g__law_take g__law_of) (np := 2) (n := 7) (us := [.bag, .d (.str t)]) (b := some (x, y)) rfl h
    rw [hb] at this
    exact this
  unfold t__law_bent_text at fin
  rw [step] at fin
  have c1 := cutS_ok ht none (some at_)
  have c2 := cutS_ok ht (some at_) none
  have c3 := cutS_ok ht (some (at_ + 1)) none
  have sl1 := slc_str hl none (some at_)
  have sl2 := slc_str hl (some at_) none
  have sl3 := slc_str hl (some (at_ + 1)) none
  by_cases h0 : way = 0
  · obtain ⟨w2, x5, y5, hw2, e5⟩ := of_ok four (by simp [four]) (by simp [four]) x4 y4
    obtain ⟨z2, rfl, hz2, hzl2⟩ := short_of (by decide +kernel) hw2
    unfold four at e5
    have p1 := app_ok c1.1 hz2
    have p2 := app_ok p1.1 c2.1
    have d1 := add_str (a := cutS t none (some at_)) (b := z2) (by omega)
    have d2 := add_str (a := cutS t none (some at_) ++ z2) (b := cutS t (some at_) none) (by omega)
    refine ⟨_, x5, y5, fin (s := cutS t none (some at_) ++ z2 ++ cutS t (some at_) none) (s' := ⟨[.val .bag, .val (.d (.str t)), .val (.d (.int way)), .val (.d (.list (P.map PyData.str))), .val (.d (.int at_)), .val (.d (.int (k : Int))), .val (.d (.str z))], some (x5, y5)⟩) ?_ rfl, p2.1, by omega⟩
    subst h0
    simp [ex, ev, evA, evO, sl1, sl2, e5, d1, d2, big]
  by_cases h1 : way = 1
  · have p1 := app_ok c1.1 c3.1
    have d1 := add_str (a := cutS t none (some at_)) (b := cutS t (some (at_ + 1)) none) (by omega)
    refine ⟨_, x4, y4, fin (s := cutS t none (some at_) ++ cutS t (some (at_ + 1)) none) (s' := ⟨[.val .bag, .val (.d (.str t)), .val (.d (.int way)), .val (.d (.list (P.map PyData.str))), .val (.d (.int at_)), .val (.d (.int (k : Int))), .val (.d (.str z))], some (x4, y4)⟩) ?_ rfl, p1.1, by omega⟩
    subst h1
    simp [ex, ev, evA, evO, sl1, sl3, d1]
  have t1 := cut_to (P.map PyData.str) k
  have t2 := cut_from (P.map PyData.str) k
  have t3 := cut_from (P.map PyData.str) (k + 1)
  rw [show ((k + 1 : Nat) : Int) = (k : Int) + 1 by omega] at t3
  have hmem : ∀ (L : List Str), (∀ p ∈ L, p ∈ P ∨ p = z) → ∀ p ∈ L, Ok p := fun L h p hp => by
    rcases h p hp with h | h
    · exact hpo p h
    · rw [h]
      exact hz
  by_cases h2 : way = 2
  · have L := join_ok (l := P.take k ++ [z] ++ P.drop k) (hmem _ fun p hp => by
      rcases List.mem_append.mp hp with hp | hp
      · rcases List.mem_append.mp hp with hp | hp
        · exact .inl (List.mem_of_mem_take hp)
        · exact .inr (List.mem_singleton.mp hp)
      · exact .inl (List.mem_of_mem_drop hp)) (by rw [wt_app, wt_app, wt_one]; have := wt_cut P k k (Nat.le_refl _); omega)
    have wle : wt (P.take k ++ [z] ++ P.drop k) ≤ 2000 := by rw [wt_app, wt_app, wt_one]; have := wt_cut P k k (Nat.le_refl _); omega
    refine ⟨_, x4, y4, fin (s := Txt.join blank (P.take k ++ [z] ++ P.drop k)) (s' := ⟨[.val .bag, .val (.d (.str t)), .val (.d (.int way)), .val (.d (.list (P.map PyData.str))), .val (.d (.int at_)), .val (.d (.int (k : Int))), .val (.d (.str z))], some (x4, y4)⟩) ?_ rfl, L.2.1, by omega⟩
    subst h2
    have j := L.1
    rw [List.map_append, List.map_append, List.map_take, List.map_drop] at j
    have l1 : ((P.map PyData.str).take k).length + 1 ≤ 16777216 := by rw [List.length_take, List.length_map]; omega
    have l2 : ((P.map PyData.str).take k ++ [PyData.str z]).length + ((P.map PyData.str).drop k).length ≤ 16777216 := by rw [List.length_append, List.length_take, List.length_drop, List.length_map]; simp; omega
    have bb1 : binop .add (.list ((P.map PyData.str).take k)) (.list [.str z]) = some (.list ((P.map PyData.str).take k ++ [.str z])) := if_pos l1
    have bb2 : binop .add (.list ((P.map PyData.str).take k ++ [.str z])) (.list ((P.map PyData.str).drop k)) = some (.list ((P.map PyData.str).take k ++ [.str z] ++ (P.map PyData.str).drop k)) := if_pos l2
    generalize Txt.join blank (P.take k ++ [z] ++ P.drop k) = JJ at *
    have j' : mthop .join " " (.list ((P.map PyData.str).take k ++ [.str z] ++ (P.map PyData.str).drop k)) = some (.str JJ) := j
    generalize (P.map PyData.str).take k = P1 at *
    generalize (P.map PyData.str).drop k = P2 at *
    generalize P1 ++ [PyData.str z] = P3 at *
    simp only [ex, ev, evA, evO, R.bind_ok, R.dat_ok, R.tst_ok, datas_nil, datas_cons, Option.map_some, t1, t2, sl_l, lift_some, bb1, bb2, j', cmp_eqi, liftB_some, get_mk, List.getElem?_cons_zero, List.getElem?_cons_succ]
    simp [bb1, bb2, j', big, t1, t2]
  by_cases h3 : way = 3
  · have wle : wt (P.take k ++ [z] ++ P.drop (k + 1)) ≤ 2000 := by rw [wt_app, wt_app, wt_one]; have := wt_cut P k (k + 1) (Nat.le_succ _); omega
    have L := join_ok (l := P.take k ++ [z] ++ P.drop (k + 1)) (hmem _ fun p hp => by
      rcases List.mem_append.mp hp with hp | hp
      · rcases List.mem_append.mp hp with hp | hp
        · exact .inl (List.mem_of_mem_take hp)
        · exact .inr (List.mem_singleton.mp hp)
      · exact .inl (List.mem_of_mem_drop hp)) (by omega)
    refine ⟨_, x4, y4, fin (s := Txt.join blank (P.take k ++ [z] ++ P.drop (k + 1))) (s' := ⟨[.val .bag, .val (.d (.str t)), .val (.d (.int way)), .val (.d (.list (P.map PyData.str))), .val (.d (.int at_)), .val (.d (.int (k : Int))), .val (.d (.str z))], some (x4, y4)⟩) ?_ rfl, L.2.1, by omega⟩
    subst h3
    have j := L.1
    rw [List.map_append, List.map_append, List.map_take, List.map_drop] at j
    have l1 : ((P.map PyData.str).take k).length + 1 ≤ 16777216 := by rw [List.length_take, List.length_map]; omega
    have l2 : ((P.map PyData.str).take k ++ [PyData.str z]).length + ((P.map PyData.str).drop (k + 1)).length ≤ 16777216 := by rw [List.length_append, List.length_take, List.length_drop, List.length_map]; simp; omega
    have bb1 : binop .add (.list ((P.map PyData.str).take k)) (.list [.str z]) = some (.list ((P.map PyData.str).take k ++ [.str z])) := if_pos l1
    have bb2 : binop .add (.list ((P.map PyData.str).take k ++ [.str z])) (.list ((P.map PyData.str).drop (k + 1))) = some (.list ((P.map PyData.str).take k ++ [.str z] ++ (P.map PyData.str).drop (k + 1))) := if_pos l2
    generalize Txt.join blank (P.take k ++ [z] ++ P.drop (k + 1)) = JJ at *
    have j' : mthop .join " " (.list ((P.map PyData.str).take k ++ [.str z] ++ (P.map PyData.str).drop (k + 1))) = some (.str JJ) := j
    generalize (P.map PyData.str).take k = P1 at *
    generalize (P.map PyData.str).drop (k + 1) = P2 at *
    generalize P1 ++ [PyData.str z] = P3 at *
    simp [ex, ev, evA, evO, bb1, bb2, j', big, t1, t3]
  by_cases h4 : way = 4
  · have wle := wt_take P k
    have L := join_ok (l := P.take k) (hmem _ fun p hp => .inl (List.mem_of_mem_take hp)) (by omega)
    refine ⟨_, x4, y4, fin (s := Txt.join blank (P.take k)) (s' := ⟨[.val .bag, .val (.d (.str t)), .val (.d (.int way)), .val (.d (.list (P.map PyData.str))), .val (.d (.int at_)), .val (.d (.int (k : Int))), .val (.d (.str z))], some (x4, y4)⟩) ?_ rfl, L.2.1, by omega⟩
    subst h4
    have j := L.1
    rw [List.map_take] at j
    generalize Txt.join blank (P.take k) = JJ at *
    generalize (P.map PyData.str).take k = P1 at *
    simp [ex, ev, evA, evO, j, t1]
  · have wle := wt_rev P
    have L := join_ok (l := P.reverse) (hmem _ fun p hp => .inl (List.mem_reverse.mp hp)) (by omega)
    refine ⟨_, x4, y4, fin (s := Txt.join blank P.reverse) (s' := ⟨[.val .bag, .val (.d (.str t)), .val (.d (.int way)), .val (.d (.list (P.map PyData.str))), .val (.d (.int at_)), .val (.d (.int (k : Int))), .val (.d (.str z))], some (x4, y4)⟩) ?_ rfl, L.2.1, by omega⟩
    have j := L.1
    rw [List.map_reverse] at j
    have g0 : (way == 0) = false := by simpa using h0
    have g1 : (way == 1) = false := by simpa using h1
    have g2 : (way == 2) = false := by simpa using h2
    have g3 : (way == 3) = false := by simpa using h3
    have g4 : (way == 4) = false := by simpa using h4
    generalize Txt.join blank P.reverse = JJ at *
    generalize (P.map PyData.str) = P1 at *
    simp [ex, ev, evA, evO, j, g0, g1, g2, g3, g4]
/-! ### one text -/
theorem ar_len (a : Ar) : a.str.length ≤ 6 := by cases a <;> decide +kernel
theorem kd_len (kd : Kd) : kd.str.length ≤ 6 ∧ Ok kd.str := by cases kd <;> decide +kernel
theorem strI_len : ∀ k : Nat, k < 40 → (strI (k : Int)).length ≤ 6 := by decide +kernel
theorem wt_le : ∀ (l : List Str), (∀ p ∈ l, p.length ≤ 6) → wt l ≤ 7 * l.length
  | [], _ => Nat.le_refl _
  | x :: l, h => by
    have h1 := wt_le l fun p hp => h p (List.mem_cons_of_mem _ hp)
    have h2 := h x List.mem_cons_self
    have e := wt_app [x] l
    rw [wt_one] at e
    rw [List.length_cons]
    show wt ([x] ++ l) ≤ _
    omega
theorem inner_ok {ns : List Int} {k c3 c4 c5 c6 c7 c8 : Slot} (x y : Int) : ∃ d3 d4 d5 d6 d7 d8 x' y', ex (b_law_1 (g__law_words 6) (g__law_phrase 4) g__law_right g__law_bent_text) ⟨[.val (.scr ns), k, .val .bag, c3, c4, c5, c6, c7, c8], some (x, y)⟩ = .ok .nx ⟨[.val (.scr ns), k, .val .bag, d3, d4, d5, d6, d7, d8], some (x', y')⟩ := by
  obtain ⟨p, x1, y1, hp, e1⟩ := phrase_ok 3 x y
  rw [show (((3 : Nat) : Int) + 1) = 4 from rfl] at e1
  obtain ⟨kd, r, W, rfl, hW, hr⟩ := phB_enc2 4 p (phs_ph 3 p hp)
  have hr2 : ∃ n : Nat, n < 40 ∧ r = (n : Int) := by
    cases kd with
    | inn => exact ⟨r.toNat, by have h : 1 ≤ r ∧ r ≤ 15 := hr; omega, by have h : 1 ≤ r ∧ r ≤ 15 := hr; omega⟩
    | nm => exact ⟨r.toNat, by have h : 0 ≤ r ∧ r ≤ 6 := hr; omega, by have h : 0 ≤ r ∧ r ≤ 6 := hr; omega⟩
    | th => exact ⟨r.toNat, by have h : 0 ≤ r ∧ r ≤ 6 := hr; omega, by have h : 0 ≤ r ∧ r ≤ 6 := hr; omega⟩
    | nx => exact ⟨r.toNat, by have h : 0 ≤ r ∧ r ≤ 6 := hr; omega, by have h : 0 ≤ r ∧ r ≤ 6 := hr; omega⟩
    | lt => exact ⟨r.toNat, by have h : 0 ≤ r ∧ r ≤ 6 := hr; omega, by have h : 0 ≤ r ∧ r ≤ 6 := hr; omega⟩
  obtain ⟨n, hn, rfl⟩ := hr2
  have lw := words_ok kd (n : Int) W 6 (some (x1, y1)) (by omega) (by omega)
  have ol : ∀ p ∈ W.map Ar.str ++ [kd.str, strI (n : Int)], Ok p ∧ p.length ≤ 6 := fun p hp => by
    rcases List.mem_append.mp hp with h | h
    · obtain ⟨a, _, rfl⟩ := List.mem_map.mp h
      exact ⟨ar_ok a, ar_len a⟩
    · simp only [List.mem_cons, List.not_mem_nil, or_false] at h
      rcases h with rfl | rfl
      · exact ⟨(kd_len kd).2, (kd_len kd).1⟩
      · exact ⟨strI_ok n hn, strI_len n hn⟩
  have wl := wt_le _ fun p hp => (ol p hp).2
  have hlen : (W.map Ar.str ++ [kd.str, strI (n : Int)]).length = W.length + 2 := by simp
  have J := join_ok (fun p hp => (ol p hp).1) (by omega)
  obtain ⟨s, x2, y2, e2, hs, hsl⟩ := bent_ok J.2.1 (by omega) x1 y1
  have e3 := right_ok hs hsl (some (x2, y2))
  have j := J.1
  have ew : (W.map Ar.str ++ [kd.str, strI (n : Int)]).map PyData.str = wordsD kd W ++ [.str (strI (n : Int))] := by
    unfold wordsD
    rw [List.map_append, List.map_map]
    simp [Ar.strD, Function.comp_def]
  rw [ew] at j
  have eb : bltop .str [.int (n : Int)] = some (.str (strI (n : Int))) := by
    show (if ((n : Int)).natAbs.log2 < 1920 then some _ else none) = _
    rw [if_pos (strI_lg n hn)]
    rfl
  have hwl : (wordsD kd W).length + 1 ≤ 16777216 := by
    unfold wordsD
    simp
    omega
  refine ⟨c3, c4, .val (.d (.list (wordsD kd W))), .val (.d (.int (n : Int))), c7, c8, x2, y2, ?_⟩
  generalize Txt.join blank (W.map Ar.str ++ [kd.str, strI (n : Int)]) = TT at *
  generalize encP kd (n : Int) W = EE at *
  generalize wordsD kd W = WW at *
  generalize strI (n : Int) = SS at *
  unfold b_law_1
  rw [seq_nx (s' := ⟨[.val (.scr ns), k, .val .bag, c3, c4, .val (.d (.list WW)), .val (.d (.int (n : Int))), c7, c8], some (x1, y1)⟩) (by simp [ex, ev, evA, e1, lw])]
  simp [ex, ev, evA, binop, eb, j, e2, e3, big, hwl]
theorem others_ok (ns : List Int) (k c3 c4 c5 c6 c7 c8 : Slot) (q : Bag) : ex (.loop (.tname 4) (.itl (.lst (.acons (.cst .none) (.acons (.cst (.int 5)) (.acons (.cst (.bool true)) (.acons (.lst (.acons (.cst (.str "in 3")) .anil)) (.acons (.tup (.acons (.cst (.str "in")) (.acons (.cst (.int 3)) .anil))) .anil))))))) (b_law_2 g__law_read)) ⟨[.val (.scr ns), k, .val .bag, c3, c4, c5, c6, c7, c8], q⟩ = .ok .nx ⟨[.val (.scr ns), k, .val .bag, c3, .val (.d (.tuple [.str "in", .int 3])), c5, c6, c7, c8], q⟩ := by kernel_rfl
theorem mid_ok {ns : List Int} {k c3 c4 c5 c6 c7 c8 : Slot} (x y : Int) :
    ∃ d3 d4 d5 d6 d7 d8 x' y', ex (b_law_3 (g__law_words 6) (g__law_phrase 4) g__law_right g__law_bent_text g__law_read) ⟨[.val (.scr ns), k, .val .bag, c3, c4, c5, c6, c7, c8], some (x, y)⟩ = .ok .nx ⟨[.val (.scr ns), k, .val .bag, d3, d4, d5, d6, d7, d8], some (x', y')⟩ := by
  obtain ⟨s3, h2, d3, d4, d5, d6, d7, d8, x3, y3, rfl⟩ := loop_r (n := 12) (by decide) (by decide) (i := 3) (b := (b_law_1 (g__law_words 6) (g__law_phrase 4) g__law_right g__law_bent_text)) (P := fun s => ∃ c3 c4 c5 c6 c7 c8 x y, s = ⟨[.val (.scr ns), k, .val .bag, c3, c4, c5, c6, c7, c8], some (x, y)⟩)
    ⟨[.val (.scr ns), k, .val .bag, c3, c4, c5, c6, c7, c8], some (x, y)⟩ ⟨_, _, _, _, _, _, _, _, rfl⟩ fun n _ _ s ⟨c3, c4, c5, c6, c7, c8, x, y, hs⟩ => by
      subst hs
      obtain ⟨d3, d4, d5, d6, d7, d8, x', y', e⟩ := inner_ok (ns := ns) (k := k) (c3 := .val (.d (.int n))) (c4 := c4) (c5 := c5) (c6 := c6) (c7 := c7) (c8 := c8) x y
      exact ⟨_, e, _, _, _, _, _, _, _, _, rfl⟩
  refine ⟨d3, .val (.d (.tuple [.str "in", .int 3])), d5, d6, d7, d8, x3, y3, ?_⟩
  unfold b_law_3
  rw [seq_nx h2, seq_nx (others_ok ns k d3 d4 d5 d6 d7 d8 _)]
  rfl
theorem walk_ok (ns : List Int) (hn : ns.length ≤ 63) (r0 : List Slot) (h0 : ∃ c1 c2 c3 c4 c5 c6 c7 c8, r0 = [.val (.scr ns), c1, c2, c3, c4, c5, c6, c7, c8]) : ∃ rho', (∃ c1 c2 c3 c4 c5 c6 c7 c8, rho' = [.val (.scr ns), c1, c2, c3, c4, c5, c6, c7, c8]) ∧ ex (.loop (.tname 1) (turnsT 4 10 3) (b_law_4 g__law_bag (g__law_words 6) (g__law_phrase 4) g__law_right g__law_bent_text g__law_read)) ⟨r0, none⟩ = .ok .nx ⟨rho', none⟩ := by
  refine bags_ok (a := 4) (b := 10) (c := 3) (by decide) (by decide) (by decide) (i := 1) (j := 2) (body := (b_law_3 (g__law_words 6) (g__law_phrase 4) g__law_right g__law_bent_text g__law_read)) ns hn
    (fun r => ∃ c1 c2 c3 c4 c5 c6 c7 c8, r = [.val (.scr ns), c1, c2, c3, c4, c5, c6, c7, c8]) r0 h0 (fun r ⟨c1, c2, c3, c4, c5, c6, c7, c8, e⟩ => ⟨_, e⟩)
    fun r k x y ⟨c1, c2, c3, c4, c5, c6, c7, c8, e⟩ => by
      subst e
      refine ⟨⟨rfl, rfl⟩, ?_⟩
      obtain ⟨d3, d4, d5, d6, d7, d8, x', y', e⟩ := mid_ok (ns := ns) (k := .val (.d (.int k))) (c3 := nb1 c3) (c4 := nb1 c4) (c5 := nb1 c5) (c6 := nb1 c6) (c7 := nb1 c7) (c8 := nb1 c8) x y
      refine ⟨⟨[.val (.scr ns), .val (.d (.int k)), .val .bag, d3, d4, d5, d6, d7, d8], some (x', y')⟩, ?_, nb1 (.val (.d (.int k))), nb1 (.val .bag), nb1 d3, nb1 d4, nb1 d5, nb1 d6, nb1 d7, nb1 d8, ?_⟩
      · rw [noBag_map]
        exact e
      · rw [noBag_map]
        rfl
theorem law_true (ns : List Int) (hn : ns.length ≤ 63) : g_law [.scr ns] none = .ok (.d (.bool true)) none := by
  obtain ⟨rho', ⟨c1, c2, c3, c4, c5, c6, c7, c8, hr⟩, e⟩ := walk_ok ns hn [.val (.scr ns), .un, .un, .un, .un, .un, .un, .un, .un] ⟨_, _, _, _, _, _, _, _, rfl⟩
  subst hr
  refine run_rt (s' := ⟨[.val (.scr ns), c1, c2, c3, c4, c5, c6, .val (.d (.list [.tuple [.str "", .int 1], .tuple [.str "next", .int 2], .tuple [.str "next 7", .int 2], .tuple [.str "in 0", .int 2], .tuple [.str "in 16", .int 2], .tuple [.str "week", .int 2], .tuple [.str "in 07", .int 2], .tuple [.str "next 4 ", .int 3], .tuple [.str " next 4", .int 1], .tuple [.str "after  next 1", .int 2], .tuple [.str "after before week next 4 4", .int 6], .tuple [.str "week week week week in 7", .int 4]])), .un], none⟩) rfl ?_
  unfold t_law
  exact (seq_nx e).trans (by kernel_rfl)
end K15
/-! K15F: the end. -/
theorem PySem.Challenge.cw_retolddays_k15_texts_that_are_no_phrases_holds : PySem.Challenge.rw_retolddays_k15_texts_that_are_no_phrases.Holds :=
  K15.ends K15.law_true

