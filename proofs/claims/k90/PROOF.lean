import PyProof.Rows.All
import Wide.All
import OpenK.AllK
import Wide.FinOn
import HandS.ClsMeth
import HandS.Deep
import HandS.DictComp
import HandS.Exc
import HandS.ExcCtx
import HandS.ExcField
import HandS.ExcInit
import HandS.ExcInitHot
import HandS.ExcIs
import HandS.ExcOwn
import HandS.ExcValue
import HandS.Flow
import HandS.ForMost
import HandS.Head0
import HandS.Head1
import HandS.Head2
import HandS.HeadHook1
import HandS.HeadHook2
import HandS.HotCalls
import HandS.IsInst
import HandS.More
import HandS.RaiseMore
import HandS.SlotsOwn
import HandS.Strs
import HandS.Style
import HandS.TupAny
import HandS.TupLe
import HandS.TupMul
import HandS.Wide
import HandS.Words
import KE.DataFind
import KE.KExcIs
import KE.KFmtOwn
import KE.KStateDown
import KE.SortKeyed
import PyProof.RowDictHeap
import PyProof.Rows.StrJoinMade
import PyProof.Rows.StrMul
import PySem.Challenge.RW_recipelayers_k90_books_of_deeds
set_option Elab.async false
set_option linter.all false
set_option maxRecDepth 100000
set_option maxHeartbeats 4000000
namespace DL
/-! a head by one run: facts of names, defs, and Bools of one's own -/
open PySem PySem.Spec PyProof.Rows L2
abbrev AlB : Type := He.AlD × Bool
def obsB (fa : List He.Fa) (fn : List He.DefD) (ex : List (PySem.W.Frag → Bool)) (K : PySem.W.Frag) : AlB := (He.obsD fa fn K, ex.all fun f => f K)
structure SaysB (fa : List He.Fa) (fn : List He.DefD) (ex : List (PySem.W.Frag → Bool)) (K : PySem.W.Frag) : Prop where
  d : He.SaysD fa fn K
  b : (ex.all fun f => f K) = true
/-! the part of the heap that the facts need, made once -/
def frNt {β : Type} (n : Nat) (k : Nat → β) : β := match n with
  | 0 => k 0
  | m + 1 => k (m + 1)
theorem frNt_eq {β : Type} (n : Nat) (k : Nat → β) : frNt n k = k n := by cases n <;> rfl
def frAs {β : Type} : List Addr → List Addr → (List Addr → β) → β
  | [], acc, k => k acc
  | a :: r, acc, k => frNt a fun a => frAs r (a :: acc) k
theorem frAs_eq {β : Type} : ∀ (l acc : List Addr) (k : List Addr → β), ∃ m, frAs l acc k = k m
  | [], acc, _ => ⟨acc, rfl⟩
  | a :: r, acc, k => by
    obtain ⟨m, e⟩ := frAs_eq r (a :: acc) k
    exact ⟨m, (frNt_eq a _).trans e⟩
def frEs {β : Type} : List DictEntry → List DictEntry → (List DictEntry → β) → β
  | [], acc, k => k acc
  | ⟨h, x, v⟩ :: r, acc, k => frEs r (⟨h, x, v⟩ :: acc) k
theorem frEs_eq {β : Type} : ∀ (l acc : List DictEntry) (k : List DictEntry → β), frEs l acc k = k (l.reverse ++ acc)
  | [], acc, _ => rfl
  | ⟨h, x, v⟩ :: r, acc, k => by
    show frEs r (⟨h, x, v⟩ :: acc) k = _
    rw [frEs_eq r]
    simp
def frOb {β : Type} (o : Obj) (k : Obj → β) : β := match o with
  | ⟨c, d, .dict es n, sl⟩ => frEs es.toList [] fun l => frEs l [] fun l => k ⟨c, d, .dict ⟨l⟩ n, sl⟩
  | ⟨c, d, dt, sl⟩ => k ⟨c, d, dt, sl⟩
theorem frOb_eq {β : Type} (o : Obj) (k : Obj → β) : frOb o k = k o := by
  obtain ⟨c, d, dt, sl⟩ := o
  cases dt with
  | dict es n =>
    show frEs es.toList [] (fun l => frEs l [] fun l => k ⟨c, d, .dict ⟨l⟩ n, sl⟩) = _
    rw [frEs_eq, frEs_eq]
    simp
  | _ => rfl
def frFr {β : Type} (g : Addr → Option Obj) : List Addr → PySem.W.Frag → (PySem.W.Frag → β) → β
  | [], acc, k => k acc
  | a :: r, acc, k => frNt a fun a => match g a with
    | some o => frOb o fun o => frFr g r ((a, o) :: acc) k
    | none => frFr g r acc k
theorem frFr_eq {β : Type} {g : Addr → Option Obj} : ∀ (l : List Addr) (acc : PySem.W.Frag) (k : PySem.W.Frag → β), (∀ p ∈ acc, g p.1 = some p.2) → ∃ K, frFr g l acc k = k K ∧ ∀ p ∈ K, g p.1 = some p.2
  | [], acc, _, h => ⟨acc, rfl, h⟩
  | a :: r, acc, k, h => by
    show ∃ K, (frNt a fun a => match g a with
      | some o => frOb o fun o => frFr g r ((a, o) :: acc) k
      | none => frFr g r acc k) = k K ∧ _
    rw [frNt_eq]
    cases e : g a with
    | none => exact frFr_eq r acc k h
    | some o =>
      show ∃ K, (frOb o fun o => frFr g r ((a, o) :: acc) k) = k K ∧ _
      rw [frOb_eq]
      refine frFr_eq r ((a, o) :: acc) k fun p hp => ?_
      rcases List.mem_cons.mp hp with rfl | hp
      · exact e
      · exact h p hp
def refsK (o : Obj) : List Addr := match o.data with
  | .func fd => He.refV fd.code
  | .cls cd => [cd.ns]
  | .dict es _ => es.toList.flatMap fun e => He.refV e.val
  | _ => []
def nextK (g : Addr → Option Obj) (as : List Addr) : List Addr := as.flatMap fun a => match g a with
  | some o => refsK o
  | none => []
def obsC (xs : List Str) (fa : List He.Fa) (fn : List He.DefD) (ex : List (PySem.W.Frag → Bool)) (g : Addr → Option Obj) : AlB :=
  frFr g [mainGlobals] [] fun K0 => frAs (xs.map (He.ga K0)) [] fun l1 => frAs (nextK g l1) [] fun l2 => frAs (nextK g l2) [] fun l3 => frAs (nextK g l3) [] fun l4 =>
    frFr g (l4 ++ (l3 ++ (l2 ++ (l1 ++ [cStatics, mainGlobals])))) [] fun K => obsB fa fn ex K
theorem in_of_mem {K : PySem.W.Frag} {h : Heap} (hk : ∀ p ∈ K, h.get? p.1 = some p.2) : K.In h := fun a o e => by
  have lm : ∀ {l : List (Addr × Obj)}, l.lookup a = some o → (a, o) ∈ l := by
    intro l
    induction l with
    | nil => intro z; cases z
    | cons q r ih =>
      obtain ⟨b, u⟩ := q
      intro z
      have z2 : (match a == b with | true => some u | false => r.lookup a) = some o := z
      cases q : (a == b) with
      | true =>
        rw [q] at z2
        have e : u = o := Option.some.inj z2
        rw [beq_iff_eq.mp q, e]
        exact List.mem_cons_self
      | false =>
        rw [q] at z2
        exact List.mem_cons_of_mem _ (ih z2)
  exact hk _ (lm e)
theorem obsC_eq {xs : List Str} {fa : List He.Fa} {fn : List He.DefD} {ex : List (PySem.W.Frag → Bool)} {g : Addr → Option Obj} : ∃ K, obsC xs fa fn ex g = obsB fa fn ex K ∧ ∀ p ∈ K, g p.1 = some p.2 := by
  unfold obsC
  obtain ⟨K0, e0, _⟩ := frFr_eq (g := g) [mainGlobals] [] (fun K0 => frAs (xs.map (He.ga K0)) [] fun l1 => frAs (nextK g l1) [] fun l2 => frAs (nextK g l2) [] fun l3 => frAs (nextK g l3) [] fun l4 =>
    frFr g (l4 ++ (l3 ++ (l2 ++ (l1 ++ [cStatics, mainGlobals])))) [] fun K => obsB fa fn ex K) fun p hp => nomatch hp
  rw [e0]
  obtain ⟨l1, e1⟩ := frAs_eq (xs.map (He.ga K0)) [] fun l1 => frAs (nextK g l1) [] fun l2 => frAs (nextK g l2) [] fun l3 => frAs (nextK g l3) [] fun l4 =>
    frFr g (l4 ++ (l3 ++ (l2 ++ (l1 ++ [cStatics, mainGlobals])))) [] fun K => obsB fa fn ex K
  rw [e1]
  obtain ⟨l2, e2⟩ := frAs_eq (nextK g l1) [] fun l2 => frAs (nextK g l2) [] fun l3 => frAs (nextK g l3) [] fun l4 =>
    frFr g (l4 ++ (l3 ++ (l2 ++ (l1 ++ [cStatics, mainGlobals])))) [] fun K => obsB fa fn ex K
  rw [e2]
  obtain ⟨l3, e3⟩ := frAs_eq (nextK g l2) [] fun l3 => frAs (nextK g l3) [] fun l4 =>
    frFr g (l4 ++ (l3 ++ (l2 ++ (l1 ++ [cStatics, mainGlobals])))) [] fun K => obsB fa fn ex K
  rw [e3]
  obtain ⟨l4, e4⟩ := frAs_eq (nextK g l3) [] fun l4 =>
    frFr g (l4 ++ (l3 ++ (l2 ++ (l1 ++ [cStatics, mainGlobals])))) [] fun K => obsB fa fn ex K
  rw [e4]
  exact frFr_eq _ _ _ fun p hp => nomatch hp
def hookB (xs : List Str) (fa : List He.Fa) (fn : List He.DefD) (ex : List (PySem.W.Frag → Bool)) : PySem.W.Hook where
  α := AlB
  obs := fun s => obsC xs fa fn ex s.heap.get?
  val := fun _ => (He.valD fn, true)
  says := fun _ h => ∃ K : PySem.W.Frag, K.In h ∧ SaysB fa fn ex K
  of := fun _ s e => by
    obtain ⟨K, e1, h1⟩ := obsC_eq (xs := xs) (fa := fa) (fn := fn) (ex := ex) (g := s.heap.get?)
    rw [e1] at e
    exact ⟨K, in_of_mem h1, ⟨congrArg (fun z : AlB => z.1) e, congrArg (fun z : AlB => z.2) e⟩⟩
  keeps := fun _ _ _ ⟨K, hK, c⟩ k => ⟨K, PySem.W.Frag.In.keeps hK k, c⟩
theorem obsC_at {xs : List Str} {fa : List He.Fa} {fn : List He.DefD} {ex : List (PySem.W.Frag → Bool)} {g : Addr → Option Obj} {s : Shared} (h : ∀ a, g a = s.heap.get? a) : obsC xs fa fn ex g = (hookB xs fa fn ex).obs s := by
  have e : g = s.heap.get? := funext h
  rw [e] <;> rfl
/-! ### own exceptions, own classes -/
def oexSh (K : PySem.W.Frag) (C : Addr) : Bool := match K.lookup C with
  | some ⟨.type "type", _, .cls cd, sl⟩ => (match cd.mro, sl.toList with
    | .ref C' :: bm, [_, _, _, _, some (.builtin n), _] => C' == C && n == "ValueError.__new__" && !cd.hasDel && cd.hasDict && PySem.HandSPX.refsVE bm
    | _, _ => false)
  | _ => false
def clsX (K : PySem.W.Frag) (C : Addr) : Bool := He.eqO (PySem.W.findIn K (.ref C) "__class__") (some (some (.builtin "object.__class__"))) &&
  (He.eqO (PySem.W.specialIn K (.builtin "object.__class__") "__get__") (some (some (.builtin "getset_descriptor.__get__"))) && (decide (PySem.W.takesIn K (.builtin "object.__class__") = some true) && decide (PySem.W.mroIn K C (.type "object") = some true)))
def xclsB (C : Str) (K : PySem.W.Frag) : Bool := oexSh K (He.ga K C) && (He.eqO (PySem.W.findIn K (.ref (He.ga K C)) "__setattr__") (some (some (.builtin "object.__setattr__"))) && (decide (PySem.W.subIn K (.ref (He.ga K C)) (.type "BaseException") = some true) &&
  (decide (PySem.W.typeIn K (.ref (He.ga K C)) = some (.type "type")) && (PySem.W.keepIn K (.ref (He.ga K C)) && (xfB K (He.ga K C) && (PySem.W.isClsIn K (He.ga K C) && clsX K (He.ga K C)))))))
def oclsB (C : Str) (K : PySem.W.Frag) : Bool := PySem.W.plainGet K (He.ga K C) Str.empty && (PySem.W.hasDictIn K (He.ga K C) && (PySem.W.plainOver K (He.ga K C) && (He.eqO (PySem.W.findIn K (.ref (He.ga K C)) "__setattr__") (some (some (.builtin "object.__setattr__"))) &&
  (PySem.W.makesIn K (He.ga K C) && (PySem.W.keepIn K (.ref (He.ga K C)) && clsX K (He.ga K C))))))
def iscB (C : Str) (K : PySem.W.Frag) : Bool := PySem.W.isClsIn K (He.ga K C) && (decide (PySem.W.typeIn K (.ref (He.ga K C)) = some (.type "type")) && ["int", "bool", "str", "tuple", "list", "dict", "NoneType"].all fun t => decide (PySem.W.subIn K (.type t) (.ref (He.ga K C)) = some false))
/-- C a subclass of Z; of a built-in class -/
def subRB (C Z : Str) (b : Bool) (K : PySem.W.Frag) : Bool := decide (PySem.W.subIn K (.ref (He.ga K C)) (.ref (He.ga K Z)) = some b)
def subTB (C : Str) (T : String) (b : Bool) (K : PySem.W.Frag) : Bool := decide (PySem.W.subIn K (.ref (He.ga K C)) (.type T) = some b)
def excB (C : Str) (K : PySem.W.Frag) : Bool := PySem.W.excIn K (He.ga K C) [.type "ValueError", .type "Exception", .type "BaseException", .type "object"] "ValueError.__new__"
def readsHB (C : Str) (K : PySem.W.Frag) : Bool := PySem.W.readsIn K (He.ga K C) (.type "type")
def attrB (C x : Str) (i : String) (K : PySem.W.Frag) : Bool := He.eqO (PySem.W.findIn K (.ref (He.ga K C)) x) (some (some (.builtin i)))
def specB (C x : Str) (i : String) (K : PySem.W.Frag) : Bool := He.eqO (PySem.W.specialIn K (.ref (He.ga K C)) x) (some (some (.builtin i)))
def fclsB (C x : Str) (i : String) (K : PySem.W.Frag) : Bool := match PySem.W.findCls K (.ref (He.ga K C)) (.type "type") x with
  | some (.val (.builtin j)) => decide (j = i)
  | _ => false

def clsBody : Stmt → List Stmt
  | .ClassDef _ _ _ b _ _ _ _ _ _ _ => b
  | _ => []
def clsAt (st : Stmt) (j : Nat) : Stmt := (clsBody st).getD j (.Pass ⟨0, 0, 0, 0⟩)
end DL
namespace W
open PySem PySem.Spec PyProof.Rows L2 DL
def topS (i : Nat) : Stmt := PySem.Challenge.pw_recipelayers_k90_books_of_deeds.main.body.getD i (.Pass ⟨0, 0, 0, 0⟩)
abbrev s_Wrong_init : Stmt := clsAt (topS 3) 0
abbrev s_NoStage_init : Stmt := clsAt (topS 5) 0
abbrev s_NoStep_init : Stmt := clsAt (topS 6) 0
abbrev s_TooMany_init : Stmt := clsAt (topS 7) 0
abbrev s_Book_first : Stmt := clsAt (topS 98) 8
abbrev s_Recipe___eq__ : Stmt := clsAt (topS 81) 8
abbrev s_Book___eq__ : Stmt := clsAt (topS 98) 15
abbrev s_Cache___init__ : Stmt := clsAt (topS 91) 0
abbrev s_Book___init__ : Stmt := clsAt (topS 98) 0
abbrev s_Book_recipe : Stmt := clsAt (topS 98) 7
abbrev s_is_name : Stmt := topS 21
abbrev s_is_word : Stmt := topS 25
abbrev s_is_argument : Stmt := topS 59
abbrev s_is_path : Stmt := topS 22
abbrev s_is_short : Stmt := topS 57
abbrev s_is_target : Stmt := topS 58
abbrev s_is_text : Stmt := topS 23
abbrev s_is_read : Stmt := topS 61
abbrev s_are_reads : Stmt := topS 62
abbrev s_is_integer : Stmt := topS 20
abbrev s_is_rights : Stmt := topS 24
abbrev s_is_told : Stmt := topS 60
abbrev s_is_step : Stmt := topS 63
abbrev s_are_steps : Stmt := topS 76
abbrev s_is_stage : Stmt := topS 77
abbrev s_are_stages : Stmt := topS 78
abbrev s_sources_of : Stmt := topS 79
abbrev s_Recipe___init__ : Stmt := clsAt (topS 81) 0
abbrev s_Recipe_stages : Stmt := clsAt (topS 81) 1
abbrev s__law_alike : Stmt := topS 100
abbrev s__law_bag : Stmt := topS 101
abbrev s__law_behind : Stmt := topS 113
abbrev s_Book___len__ : Stmt := clsAt (topS 98) 16
abbrev s_Book_log : Stmt := clsAt (topS 98) 9
abbrev s__law_book_right : Stmt := topS 116
abbrev s_Recipe_stage_named : Stmt := clsAt (topS 81) 2
abbrev s_Recipe_steps : Stmt := clsAt (topS 81) 4
abbrev s_Recipe_with_steps : Stmt := clsAt (topS 81) 7
abbrev s_last_name : Stmt := topS 96
abbrev s_changed : Stmt := topS 97
abbrev s_is_deed : Stmt := topS 95
abbrev s_Book_do : Stmt := clsAt (topS 98) 1
abbrev s__law_error : Stmt := topS 114
abbrev s__law_did : Stmt := topS 115
abbrev s__law_take : Stmt := topS 102
abbrev s__law_names : Stmt := topS 103
abbrev s__law_path : Stmt := topS 106
abbrev s__law_text : Stmt := topS 104
abbrev s__law_said : Stmt := topS 107
abbrev s__law_step : Stmt := topS 108
abbrev s__law_some_deed : Stmt := topS 112
abbrev s__law_mixed : Stmt := topS 105
abbrev s__law_steps : Stmt := topS 109
abbrev s__law_recipe : Stmt := topS 110
abbrev s__law_stages : Stmt := topS 111
abbrev s_law : Stmt := topS 117
/-! ### the head: what the top says -/
def fnL : List He.DefD := [⟨("is_name", none), "is_name", "is_name", defArgs s_is_name, defBody s_is_name, defScope s_is_name, [], []⟩,
  ⟨("is_word", none), "is_word", "is_word", defArgs s_is_word, defBody s_is_word, defScope s_is_word, [], []⟩,
  ⟨("is_argument", none), "is_argument", "is_argument", defArgs s_is_argument, defBody s_is_argument, defScope s_is_argument, [], []⟩,
  ⟨("is_path", none), "is_path", "is_path", defArgs s_is_path, defBody s_is_path, defScope s_is_path, [], []⟩,
  ⟨("is_short", none), "is_short", "is_short", defArgs s_is_short, defBody s_is_short, defScope s_is_short, [], []⟩,
  ⟨("is_target", none), "is_target", "is_target", defArgs s_is_target, defBody s_is_target, defScope s_is_target, [], []⟩,
  ⟨("is_text", none), "is_text", "is_text", defArgs s_is_text, defBody s_is_text, defScope s_is_text, [], []⟩,
  ⟨("is_read", none), "is_read", "is_read", defArgs s_is_read, defBody s_is_read, defScope s_is_read, [], []⟩,
  ⟨("are_reads", none), "are_reads", "are_reads", defArgs s_are_reads, defBody s_are_reads, defScope s_are_reads, [], []⟩,
  ⟨("is_integer", none), "is_integer", "is_integer", defArgs s_is_integer, defBody s_is_integer, defScope s_is_integer, [], []⟩,
  ⟨("is_rights", none), "is_rights", "is_rights", defArgs s_is_rights, defBody s_is_rights, defScope s_is_rights, [], []⟩,
  ⟨("is_told", none), "is_told", "is_told", defArgs s_is_told, defBody s_is_told, defScope s_is_told, [], []⟩,
  ⟨("is_step", none), "is_step", "is_step", defArgs s_is_step, defBody s_is_step, defScope s_is_step, [], []⟩,
  ⟨("are_steps", none), "are_steps", "are_steps", defArgs s_are_steps, defBody s_are_steps, defScope s_are_steps, [], []⟩,
  ⟨("is_stage", none), "is_stage", "is_stage", defArgs s_is_stage, defBody s_is_stage, defScope s_is_stage, [], []⟩,
  ⟨("are_stages", none), "are_stages", "are_stages", defArgs s_are_stages, defBody s_are_stages, defScope s_are_stages, [], []⟩,
  ⟨("sources_of", none), "sources_of", "sources_of", defArgs s_sources_of, defBody s_sources_of, defScope s_sources_of, [], []⟩,
  ⟨("_law_alike", none), "_law_alike", "_law_alike", defArgs s__law_alike, defBody s__law_alike, defScope s__law_alike, [], []⟩,
  ⟨("_law_bag", none), "_law_bag", "_law_bag", defArgs s__law_bag, defBody s__law_bag, defScope s__law_bag, [], []⟩,
  ⟨("_law_behind", none), "_law_behind", "_law_behind", defArgs s__law_behind, defBody s__law_behind, defScope s__law_behind, [], []⟩,
  ⟨("_law_book_right", none), "_law_book_right", "_law_book_right", defArgs s__law_book_right, defBody s__law_book_right, defScope s__law_book_right, [], []⟩,
  ⟨("last_name", none), "last_name", "last_name", defArgs s_last_name, defBody s_last_name, defScope s_last_name, [], []⟩,
  ⟨("changed", none), "changed", "changed", defArgs s_changed, defBody s_changed, defScope s_changed, [], []⟩,
  ⟨("is_deed", none), "is_deed", "is_deed", defArgs s_is_deed, defBody s_is_deed, defScope s_is_deed, [], []⟩,
  ⟨("_law_error", none), "_law_error", "_law_error", defArgs s__law_error, defBody s__law_error, defScope s__law_error, [], []⟩,
  ⟨("_law_did", none), "_law_did", "_law_did", defArgs s__law_did, defBody s__law_did, defScope s__law_did, [], []⟩,
  ⟨("_law_take", none), "_law_take", "_law_take", defArgs s__law_take, defBody s__law_take, defScope s__law_take, [], []⟩,
  ⟨("_law_names", none), "_law_names", "_law_names", defArgs s__law_names, defBody s__law_names, defScope s__law_names, [], []⟩,
  ⟨("_law_path", none), "_law_path", "_law_path", defArgs s__law_path, defBody s__law_path, defScope s__law_path, [], []⟩,
  ⟨("_law_text", none), "_law_text", "_law_text", defArgs s__law_text, defBody s__law_text, defScope s__law_text, [], []⟩,
  ⟨("_law_said", none), "_law_said", "_law_said", defArgs s__law_said, defBody s__law_said, defScope s__law_said, [], []⟩,
  ⟨("_law_step", none), "_law_step", "_law_step", defArgs s__law_step, defBody s__law_step, defScope s__law_step, [], []⟩,
  ⟨("_law_some_deed", none), "_law_some_deed", "_law_some_deed", defArgs s__law_some_deed, defBody s__law_some_deed, defScope s__law_some_deed, [], []⟩,
  ⟨("_law_mixed", none), "_law_mixed", "_law_mixed", defArgs s__law_mixed, defBody s__law_mixed, defScope s__law_mixed, [], []⟩,
  ⟨("_law_steps", none), "_law_steps", "_law_steps", defArgs s__law_steps, defBody s__law_steps, defScope s__law_steps, [], []⟩,
  ⟨("_law_recipe", none), "_law_recipe", "_law_recipe", defArgs s__law_recipe, defBody s__law_recipe, defScope s__law_recipe, [], []⟩,
  ⟨("_law_stages", none), "_law_stages", "_law_stages", defArgs s__law_stages, defBody s__law_stages, defScope s__law_stages, [], []⟩,
  ⟨("law", none), "law", "law", defArgs s_law, defBody s_law, defScope s_law, [], []⟩,
  ⟨("Wrong", some "__init__"), "__init__", "Wrong.__init__", defArgs s_Wrong_init, defBody s_Wrong_init, defScope s_Wrong_init, [], []⟩,
  ⟨("NoStage", some "__init__"), "__init__", "NoStage.__init__", defArgs s_NoStage_init, defBody s_NoStage_init, defScope s_NoStage_init, [], []⟩,
  ⟨("NoStep", some "__init__"), "__init__", "NoStep.__init__", defArgs s_NoStep_init, defBody s_NoStep_init, defScope s_NoStep_init, [], []⟩,
  ⟨("TooMany", some "__init__"), "__init__", "TooMany.__init__", defArgs s_TooMany_init, defBody s_TooMany_init, defScope s_TooMany_init, [], []⟩,
  ⟨("Book", some "first"), "first", "Book.first", defArgs s_Book_first, defBody s_Book_first, defScope s_Book_first, [], []⟩,
  ⟨("Recipe", some "__eq__"), "__eq__", "Recipe.__eq__", defArgs s_Recipe___eq__, defBody s_Recipe___eq__, defScope s_Recipe___eq__, [], []⟩,
  ⟨("Book", some "__eq__"), "__eq__", "Book.__eq__", defArgs s_Book___eq__, defBody s_Book___eq__, defScope s_Book___eq__, [], []⟩,
  ⟨("Cache", some "__init__"), "__init__", "Cache.__init__", defArgs s_Cache___init__, defBody s_Cache___init__, defScope s_Cache___init__, [], []⟩,
  ⟨("Book", some "__init__"), "__init__", "Book.__init__", defArgs s_Book___init__, defBody s_Book___init__, defScope s_Book___init__, [], []⟩,
  ⟨("Book", some "recipe"), "recipe", "Book.recipe", defArgs s_Book_recipe, defBody s_Book_recipe, defScope s_Book_recipe, [], []⟩,
  ⟨("Recipe", some "__init__"), "__init__", "Recipe.__init__", defArgs s_Recipe___init__, defBody s_Recipe___init__, defScope s_Recipe___init__, [], []⟩,
  ⟨("Recipe", some "stages"), "stages", "Recipe.stages", defArgs s_Recipe_stages, defBody s_Recipe_stages, defScope s_Recipe_stages, [], []⟩,
  ⟨("Book", some "__len__"), "__len__", "Book.__len__", defArgs s_Book___len__, defBody s_Book___len__, defScope s_Book___len__, [], []⟩,
  ⟨("Book", some "log"), "log", "Book.log", defArgs s_Book_log, defBody s_Book_log, defScope s_Book_log, [], []⟩,
  ⟨("Recipe", some "stage_named"), "stage_named", "Recipe.stage_named", defArgs s_Recipe_stage_named, defBody s_Recipe_stage_named, defScope s_Recipe_stage_named, [], []⟩,
  ⟨("Recipe", some "steps"), "steps", "Recipe.steps", defArgs s_Recipe_steps, defBody s_Recipe_steps, defScope s_Recipe_steps, [], []⟩,
  ⟨("Recipe", some "with_steps"), "with_steps", "Recipe.with_steps", defArgs s_Recipe_with_steps, defBody s_Recipe_with_steps, defScope s_Recipe_with_steps, [], []⟩,
  ⟨("Book", some "do"), "do", "Book.do", defArgs s_Book_do, defBody s_Book_do, defScope s_Book_do, [], []⟩]
def faL : List He.Fa := [.glo "is_name",
  .glo "is_word",
  .glo "is_argument",
  .glo "is_path",
  .glo "is_short",
  .glo "is_target",
  .glo "is_text",
  .glo "is_read",
  .glo "are_reads",
  .glo "is_integer",
  .glo "is_rights",
  .glo "is_told",
  .glo "is_step",
  .glo "are_steps",
  .glo "is_stage",
  .glo "are_stages",
  .glo "sources_of",
  .glo "_law_alike",
  .glo "_law_bag",
  .glo "_law_behind",
  .glo "_law_book_right",
  .glo "last_name",
  .glo "changed",
  .glo "is_deed",
  .glo "_law_error",
  .glo "_law_did",
  .glo "_law_take",
  .glo "_law_names",
  .glo "_law_path",
  .glo "_law_text",
  .glo "_law_said",
  .glo "_law_step",
  .glo "_law_some_deed",
  .glo "_law_mixed",
  .glo "_law_steps",
  .glo "_law_recipe",
  .glo "_law_stages",
  .glo "law",
  .free "ValueError",
  .free "abs",
  .free "all",
  .free "bool",
  .free "enumerate",
  .free "int",
  .free "isinstance",
  .free "len",
  .free "list",
  .free "range",
  .free "repr",
  .free "set",
  .free "str",
  .free "sum",
  .free "tuple",
  .str "LETTERS" "abcdefghijklmnopqrstuvwxyz",
  .int "MOST_DEEDS" 100,
  .int "MOST_LETTERS" 8,
  .int "MOST_NAMES" 4,
  .int "MOST_READS" 3,
  .int "MOST_RIGHTS" 7,
  .int "MOST_RUNS" 4,
  .int "MOST_SIGNS" 20,
  .int "MOST_STAGES" 3,
  .int "MOST_STEPS" 8,
  .glo "LayerError",
  .glo "Wrong",
  .glo "NoStage",
  .glo "NoStep",
  .glo "TooMany",
  .glo "NoDeed",
  .glo "Nothing",
  .glo "Stopped",
  .glo "Recipe",
  .glo "Cache",
  .glo "Book",
  .meth "Wrong" "__init__",
  .meth "NoStage" "__init__",
  .meth "NoStep" "__init__",
  .meth "TooMany" "__init__",
  .noat "NoStage" "name",
  .noat "NoStep" "at",
  .noat "TooMany" "limit",
  .noat "Wrong" "place",
  .noat "Book" "deeds",
  .noat "Book" "own_cache",
  .noat "Book" "recipes_kept",
  .noat "Book" "undone",
  .noat "Cache" "kept_pairs",
  .noat "Recipe" "stage_rows",
  .meth "Book" "first",
  .meth "Recipe" "__eq__",
  .meth "Book" "__eq__",
  .meth "Cache" "__init__",
  .meth "Book" "__init__",
  .meth "Book" "recipe",
  .meth "Recipe" "__init__",
  .meth "Recipe" "stages",
  .meth "Book" "__len__",
  .meth "Book" "log",
  .meth "Recipe" "stage_named",
  .meth "Recipe" "steps",
  .meth "Recipe" "with_steps",
  .meth "Book" "do"]
def exL : List (PySem.W.Frag → Bool) := [xclsB "LayerError",
  xclsB "Wrong",
  xclsB "NoStage",
  xclsB "NoStep",
  xclsB "TooMany",
  xclsB "NoDeed",
  xclsB "Nothing",
  xclsB "Stopped",
  excB "NoDeed",
  readsHB "LayerError",
  specB "LayerError" "__getattribute__" "type.__getattribute__",
  fclsB "LayerError" "__init__" "ValueError.__init__",
  subRB "Wrong" "Wrong" true,
  subRB "NoDeed" "Wrong" false,
  subRB "TooMany" "Wrong" false,
  subRB "NoStep" "Wrong" false,
  subRB "NoStage" "Wrong" false,
  subRB "NoStage" "NoStage" true,
  subRB "NoDeed" "NoStage" false,
  subRB "TooMany" "NoStage" false,
  subRB "NoStep" "NoStage" false,
  subRB "Wrong" "NoStage" false,
  subRB "NoStep" "NoStep" true,
  subRB "NoDeed" "NoStep" false,
  subRB "TooMany" "NoStep" false,
  subRB "NoStage" "NoStep" false,
  subRB "Wrong" "NoStep" false,
  subRB "TooMany" "TooMany" true,
  subRB "NoDeed" "TooMany" false,
  subRB "NoStep" "TooMany" false,
  subRB "NoStage" "TooMany" false,
  subRB "Wrong" "TooMany" false,
  subRB "NoDeed" "NoDeed" true,
  subRB "TooMany" "NoDeed" false,
  subRB "NoStep" "NoDeed" false,
  subRB "NoStage" "NoDeed" false,
  subRB "Wrong" "NoDeed" false,
  subRB "Nothing" "Nothing" true,
  subRB "NoDeed" "Nothing" false,
  subRB "TooMany" "Nothing" false,
  subRB "NoStep" "Nothing" false,
  subRB "NoStage" "Nothing" false,
  subRB "Wrong" "Nothing" false,
  subRB "Stopped" "Stopped" true,
  subRB "NoDeed" "Stopped" false,
  subRB "TooMany" "Stopped" false,
  subRB "NoStep" "Stopped" false,
  subRB "NoStage" "Stopped" false,
  subRB "Wrong" "Stopped" false,
  subTB "NoDeed" "ValueError" true,
  subTB "TooMany" "ValueError" true,
  subTB "NoStep" "ValueError" true,
  subTB "NoStage" "ValueError" true,
  subTB "Wrong" "ValueError" true,
  subRB "NoDeed" "LayerError" true,
  subRB "TooMany" "LayerError" true,
  subRB "NoStep" "LayerError" true,
  subRB "NoStage" "LayerError" true,
  subRB "Wrong" "LayerError" true,
  oclsB "Recipe",
  oclsB "Cache",
  oclsB "Book",
  iscB "Recipe",
  subRB "Recipe" "Recipe" true,
  iscB "Book",
  subRB "Book" "Book" true,
  attrB "Book" "__ne__" "object.__ne__"]
def names0 : List Str := ["_wall", "LayerError", "Wrong", "NoFolder", "NoStage", "NoStep", "TooMany", "NoDeed", "Nothing", "Stopped", "LETTERS", "MOST_LETTERS", "MOST_SIGNS", "MOST_PARTS", "MOST_RIGHTS", "PLAIN_FOLDER", "KEEP", "GONE", "is_integer", "is_name", "is_path", "is_text", "is_rights", "is_word", "is_content", "is_node", "is_entry", "stands", "is_row", "is_row_trees"]
def names1 : List Str := ["are_rows", "are_rows_trees", "above", "Tree", "PASS_layers", "FOLDERS", "AWAY", "COVERS", "is_row_layers", "are_rows_layers", "is_proper", "is_beneath_opaque", "as_written", "word_of", "word_over", "entry_for", "Layer", "MOST_NAMES", "MOST_READS", "PASS_steps", "is_short", "is_target", "is_argument", "is_told", "is_read", "are_reads", "is_step", "text_of", "argued", "part_of"]
def names2 : List Str := ["copied", "reading", "closed", "whole_entry", "written", "MOST_STAGES", "MOST_STEPS", "MOST_RUNS", "are_steps", "is_stage", "are_stages", "sources_of", "told_of", "Recipe", "are_inputs", "are_arguments", "tree_of", "stage_rows", "fresh_reading", "Run", "key_of", "Cache", "MOST_DEEDS", "is_index", "is_deed", "last_name", "changed", "Book", "_law_alike", "_law_bag"]
def names3 : List Str := ["_law_take", "_law_names", "_law_text", "_law_mixed", "_law_path", "_law_said", "_law_step", "_law_steps", "_law_recipe", "_law_stages", "_law_some_deed", "_law_behind", "_law_error", "_law_did", "_law_book_right"]
def names : List Str := names0 ++ names1 ++ names2 ++ names3
abbrev lawRow : PySem.W.OpenRow := PySem.W.OpenLaw.row PySem.Challenge.rw_recipelayers_k90_books_of_deeds
abbrev lawView : Program := PySem.W.view lawRow.prog [117]
def used0 : List Str := ["LayerError", "Wrong", "NoStage", "NoStep", "TooMany", "NoDeed", "Nothing", "Stopped", "Recipe", "Cache", "Book", "is_name", "is_word", "is_argument", "is_path", "is_short", "is_target", "is_text", "is_read", "are_reads", "is_integer", "is_rights", "is_told", "is_step", "are_steps", "is_stage", "are_stages", "sources_of", "_law_alike", "_law_bag"]
def used1 : List Str := ["_law_behind", "_law_book_right", "last_name", "changed", "is_deed", "_law_error", "_law_did", "_law_take", "_law_names", "_law_path", "_law_text", "_law_said", "_law_step", "_law_some_deed", "_law_mixed", "_law_steps", "_law_recipe", "_law_stages", "law"]
def usedL : List Str := used0 ++ used1
abbrev lawHook : PySem.W.Hook := DL.hookB usedL faL fnL exL
def lawOb (s : PySem.W.SharedT) : DL.AlB := DL.obsC usedL faL fnL exL (HandSHeadRun.getT s)
theorem lawOb_eq (s : PySem.W.SharedT) : lawOb s = lawHook.obs s.abs := DL.obsC_at (HandSHeadRun.getT_eq s)
set_option maxHeartbeats 0 in
theorem top_run (w : World) : HandSHeadRun.RunEq lawRow lawView lawHook lawOb 20000 names w := by
  intro os
  kernel_rfl
end W
namespace DL
/-! DL: a small store semantics over the hand layer. D: data; O: what stands at a place of the store; M: a run. -/
open PySem PySem.Spec PyProof.Rows L2

inductive D where
  | non | bl (b : Bool) | int (i : Int) | str (x : Str) | tup (xs : List D) | ref (n : Nat) | fl (xs : List D) | exc (a : Addr) (x : Option Nat) (d : Option Addr)
instance : Inhabited D := ⟨.non⟩
/-- what stands at a place -/
inductive O where
  | lst (xs : List D)
  | dK (kvs : List (Key × D))
  | dT (kvs : List (List Key × D))
  | dKL (kvs : List (Key × D))
  | dTL (kvs : List (List Key × D))
  | ins (c : Nat) (fs : List (Str × D))
  | exo (c : Nat) (d : Option Nat)
  | exd (fs : List (Str × D))
  | xdo (fs : List (Str × D))
abbrev Sto := List O
abbrev Env := List (Option D)
abbrev Sl := L2.St
/-- a list that nobody writes -/
def FrL (K : PySem.W.Frag) (H : Hp) (a : Addr) (vs : List V) : Prop :=
  (∃ u, H a = some (.frz u (.lst vs))) ∨ ∃ (o : Obj) (its : Array Value) (n : Nat), K.lookup a = some o ∧ o.cls = .type "list" ∧ o.dict = none ∧ o.data = .seq its n ∧ its.size ≤ sizeLine ∧ Vals vs its.toList
theorem FrL.sq {K : PySem.W.Frag} {H : Hp} {a : Addr} {vs : List V} (h : FrL K H a vs) : SqL K H a vs := by
  rcases h with ⟨u, h⟩ | h
  · exact .inl (.inr ⟨u, h⟩)
  · exact .inr h

inductive R (α : Type) where
  | ok (a : α) (S : Sto)
  | err (c : Nat) (fs : List (Str × D)) (S : Sto)
  | no
abbrev M (α : Type) := Sto → R α
def M.ret {α : Type} (a : α) : M α := fun S => .ok a S
def M.bnd {α β : Type} (m : M α) (f : α → M β) : M β := fun S => match m S with
  | .ok a S' => f a S'
  | .err c fs S' => .err c fs S'
  | .no => .no
instance : Monad M where
  pure := M.ret
  bind := M.bnd
def stuck {α : Type} : M α := fun _ => .no
theorem bnd_ok {α β : Type} {m : M α} {f : α → M β} {S S' : Sto} {a : α} (h : m S = .ok a S') : (m >>= f) S = f a S' := by
  show M.bnd m f S = _
  unfold M.bnd
  rw [h]
theorem pure_ap {α : Type} {a : α} {S : Sto} : (pure a : M α) S = .ok a S := rfl
theorem bind_def {α β : Type} {m : M α} {f : α → M β} {S : Sto} : (m >>= f) S = match m S with
  | .ok a S' => f a S'
  | .err c fs S' => .err c fs S'
  | .no => .no := rfl

inductive Fl where
  | nx (r : Env) | rt (d : D) | bk (r : Env) | ct (r : Env)

/-- a tuple of texts, not empty: what may be a key -/
def pathy : List D → Bool
  | [] => false
  | xs => xs.all fun
    | .str _ => true
    | _ => false
/-! ### the relation -/
section
variable (K : PySem.W.Frag) (H : Hp) (φ : List Addr)
mutual
inductive RelD : D → V → Prop
  | non : RelD .non .non
  | bl (b : Bool) : RelD (.bl b) (.bl b)
  | int (i : Int) : RelD (.int i) (.int i)
  | str (x : Str) : RelD (.str x) (.str x)
  | tup {xs : List D} {a : Addr} {vs : List V} : SqT K H a vs → (pathy xs = true → H a = some (.tup vs)) → RelDs xs vs → RelD (.tup xs) (.ref a)
  | ref {n : Nat} {a : Addr} : φ[n]? = some a → RelD (.ref n) (.ref a)
  | fl {xs : List D} {a : Addr} {vs : List V} : FrL K H a vs → RelDs xs vs → RelD (.fl xs) (.ref a)
  | exc {a : Addr} {x : Option Nat} {d : Option Addr} : (∀ k, x = some k → ∃ b, d = some b ∧ φ[k]? = some b) → RelD (.exc a x d) (.ref a)
inductive RelDs : List D → List V → Prop
  | nil : RelDs [] []
  | cons {d : D} {ds : List D} {v : V} {vs : List V} : RelD d v → RelDs ds vs → RelDs (d :: ds) (v :: vs)
end
end
section
variable {K : PySem.W.Frag} {H H' : Hp} {φ φ' : List Addr}
/-- later: the places go on, the tuples stand -/
structure Kp (K : PySem.W.Frag) (H H' : Hp) : Prop where
  tup : ∀ a vs, SqT K H a vs → SqT K H' a vs
  frl : ∀ a vs, FrL K H a vs → FrL K H' a vs
  tpx : ∀ a vs, H a = some (.tup vs) → H' a = some (.tup vs)
  frz : ∀ a o u, H a = some (.frz o u) → H' a = some (.frz o u)
theorem Kp.refl : Kp K H H := ⟨fun _ _ h => h, fun _ _ h => h, fun _ _ h => h, fun _ _ _ h => h⟩
theorem Kp.trans {H'' : Hp} (a : Kp K H H') (b : Kp K H' H'') : Kp K H H'' := ⟨fun x vs h => b.tup x vs (a.tup x vs h), fun x vs h => b.frl x vs (a.frl x vs h), fun x vs h => b.tpx x vs (a.tpx x vs h), fun x o u h => b.frz x o u (a.frz x o u h)⟩
structure Gr (K : PySem.W.Frag) (φ : List Addr) (H : Hp) (φ' : List Addr) (H' : Hp) : Prop extends Kp K H H' where
  pre : ∃ t, φ' = φ ++ t
structure Ext (K : PySem.W.Frag) (φ : List Addr) (H : Hp) (φ' : List Addr) (H' : Hp) : Prop extends Gr K φ H φ' H' where
  hid : ∀ b u, H b = some u → b ∉ φ → H' b = some u ∧ b ∉ φ'
  old : ∀ b, H' b = none → H b = none
theorem Ext.refl : Ext K φ H φ H := ⟨⟨.refl, [], by simp⟩, fun _ _ h n => ⟨h, n⟩, fun _ h => h⟩
theorem Ext.trans {φ'' : List Addr} {H'' : Hp} (a : Ext K φ H φ' H') (b : Ext K φ' H' φ'' H'') : Ext K φ H φ'' H'' := by
  obtain ⟨t, rfl⟩ := a.pre
  obtain ⟨u, e⟩ := b.pre
  exact ⟨⟨a.toKp.trans b.toKp, t ++ u, by rw [e, List.append_assoc]⟩, fun x v h n => let ⟨h1, n1⟩ := a.hid x v h n; b.hid x v h1 n1, fun x h => a.old x (b.old x h)⟩
theorem Gr.get (a : Gr K φ H φ' H') {n : Nat} {x : Addr} (h : φ[n]? = some x) : φ'[n]? = some x := by
  obtain ⟨t, rfl⟩ := a.pre
  rw [List.getElem?_append_left (List.getElem?_eq_some_iff.mp h).1]
  exact h
mutual
theorem RelD.mono0 (e : Gr K φ H φ' H') : ∀ (d : D) (v : V), RelD K H φ d v → RelD K H' φ' d v
  | .non, _, h => by cases h; exact .non
  | .bl _, _, h => by cases h; exact .bl _
  | .int _, _, h => by cases h; exact .int _
  | .str _, _, h => by cases h; exact .str _
  | .ref _, _, h => by
    cases h with
    | ref q => exact .ref (e.get q)
  | .tup xs, _, h => by
    cases h with
    | tup q x r => exact .tup (e.tup _ _ q) (fun z => e.tpx _ _ (x z)) (RelDs.mono0 e xs _ r)
  | .fl xs, _, h => by
    cases h with
    | fl q r => exact .fl (e.frl _ _ q) (RelDs.mono0 e xs _ r)
  | .exc _ _ _, _, h => by
    cases h with
    | exc q => exact .exc fun k hk => let ⟨b, h1, h2⟩ := q k hk; ⟨b, h1, e.get h2⟩
theorem RelDs.mono0 (e : Gr K φ H φ' H') : ∀ (ds : List D) (vs : List V), RelDs K H φ ds vs → RelDs K H' φ' ds vs
  | [], _, h => by cases h; exact .nil
  | d :: ds, _, h => by
    cases h with
    | cons a b => exact .cons (RelD.mono0 e d _ a) (RelDs.mono0 e ds _ b)
end
theorem RelD.mono (e : Ext K φ H φ' H') (d : D) (v : V) (h : RelD K H φ d v) : RelD K H' φ' d v := RelD.mono0 e.toGr d v h
theorem RelDs.mono (e : Ext K φ H φ' H') (d : List D) (v : List V) (h : RelDs K H φ d v) : RelDs K H' φ' d v := RelDs.mono0 e.toGr d v h
mutual
theorem RelD.move (k : Kp K H H') : ∀ (d : D) (v : V), RelD K H φ d v → RelD K H' φ d v
  | .non, _, h => by cases h; exact .non
  | .bl _, _, h => by cases h; exact .bl _
  | .int _, _, h => by cases h; exact .int _
  | .str _, _, h => by cases h; exact .str _
  | .ref _, _, h => by
    cases h with
    | ref q => exact .ref q
  | .tup xs, _, h => by
    cases h with
    | tup q x r => exact .tup (k.tup _ _ q) (fun z => k.tpx _ _ (x z)) (RelDs.move k xs _ r)
  | .fl xs, _, h => by
    cases h with
    | fl q r => exact .fl (k.frl _ _ q) (RelDs.move k xs _ r)
  | .exc _ _ _, _, h => by
    cases h with
    | exc q => exact .exc q
theorem RelDs.move (k : Kp K H H') : ∀ (ds : List D) (vs : List V), RelDs K H φ ds vs → RelDs K H' φ ds vs
  | [], _, h => by cases h; exact .nil
  | d :: ds, _, h => by
    cases h with
    | cons a b => exact .cons (RelD.move k d _ a) (RelDs.move k ds _ b)
end
theorem RelDs.length : ∀ {ds : List D} {vs : List V}, RelDs K H φ ds vs → ds.length = vs.length
  | [], _, h => by cases h; rfl
  | _ :: ds, _, h => by
    cases h with
    | cons a b => simp [RelDs.length b]
theorem RelDs.get : ∀ {ds : List D} {vs : List V} {i : Nat} {d : D}, RelDs K H φ ds vs → ds[i]? = some d → ∃ v, vs[i]? = some v ∧ RelD K H φ d v
  | [], _, _, _, _, e => by simp at e
  | x :: ds, _, 0, d, h, e => by
    cases h with
    | cons a b =>
      have e' : x = d := by simpa using e
      subst e'
      exact ⟨_, rfl, a⟩
  | x :: ds, _, i + 1, d, h, e => by
    cases h with
    | cons a b =>
      obtain ⟨v, h1, h2⟩ := RelDs.get (i := i) (d := d) b (by simpa using e)
      exact ⟨v, by simpa using h1, h2⟩
theorem RelDs.app : ∀ {xs ys : List D} {us vs : List V}, RelDs K H φ xs us → RelDs K H φ ys vs → RelDs K H φ (xs ++ ys) (us ++ vs)
  | [], _, _, _, h, q => by cases h; exact q
  | _ :: xs, _, _, _, h, q => by
    cases h with
    | cons a b => exact .cons a (RelDs.app b q)
theorem RelDs.take : ∀ {xs : List D} {us : List V} (n : Nat), RelDs K H φ xs us → RelDs K H φ (xs.take n) (us.take n)
  | _, _, 0, _ => .nil
  | [], _, n + 1, h => by cases h; exact .nil
  | _ :: xs, _, n + 1, h => by
    cases h with
    | cons a b => exact .cons a (RelDs.take n b)
theorem RelDs.drop : ∀ {xs : List D} {us : List V} (n : Nat), RelDs K H φ xs us → RelDs K H φ (xs.drop n) (us.drop n)
  | _, _, 0, h => h
  | [], _, n + 1, h => by cases h; exact .nil
  | _ :: xs, _, n + 1, h => by
    cases h with
    | cons a b => exact RelDs.drop n b
theorem RelDs.set : ∀ {xs : List D} {us : List V} (n : Nat) {d : D} {v : V}, RelDs K H φ xs us → RelD K H φ d v → RelDs K H φ (xs.set n d) (us.set n v)
  | [], _, n, _, _, h, _ => by cases h; exact .nil
  | _ :: xs, _, 0, _, _, h, q => by
    cases h with
    | cons a b => exact .cons q b
  | _ :: xs, _, n + 1, _, _, h, q => by
    cases h with
    | cons a b => exact .cons a (RelDs.set n b q)
theorem RelDs.rev {xs : List D} {us : List V} (h : RelDs K H φ xs us) : RelDs K H φ xs.reverse us.reverse := by
  induction xs generalizing us with
  | nil => cases h; exact .nil
  | cons x xs ih =>
    cases h with
    | cons a b =>
      rw [List.reverse_cons, List.reverse_cons]
      exact RelDs.app (ih b) (.cons a .nil)
theorem RelDs.rep {xs : List D} {us : List V} (h : RelDs K H φ xs us) : ∀ k : Nat, RelDs K H φ (List.replicate k xs).flatten (List.replicate k us).flatten
  | 0 => .nil
  | k + 1 => by
    rw [List.replicate_succ, List.replicate_succ, List.flatten_cons, List.flatten_cons]
    exact RelDs.app h (RelDs.rep h k)

/-- pairs of a dict, attributes -/
def RelKv {κ : Type} (K : PySem.W.Frag) (H : Hp) (φ : List Addr) : List (κ × D) → List (κ × V) → Prop := Paired fun p q => p.1 = q.1 ∧ RelD K H φ p.2 q.2
theorem RelKv.mono {κ : Type} (e : Gr K φ H φ' H') {xs : List (κ × D)} {ys : List (κ × V)} (h : RelKv K H φ xs ys) : RelKv K H' φ' xs ys :=
  Paired.mapP h fun p q ⟨a, b⟩ => ⟨a, RelD.mono0 e _ _ b⟩

/-- an exception's dict: none as yet, or at a place -/
def RelX (φ : List Addr) : Option Nat → Option Addr → Prop
  | none, none => True
  | some m, some x => φ[m]? = some x
  | _, _ => False
theorem RelX.mono {m : Option Nat} {x : Option Addr} (e : Gr K φ H φ' H') (h : RelX φ m x) : RelX φ' m x := by
  cases m with
  | none =>
    cases x with
    | none => exact True.intro
    | some x => exact h.elim
  | some m =>
    cases x with
    | none => exact h.elim
    | some x => exact e.get h
def RelO (K : PySem.W.Frag) (Γ : Nat → Addr) (H : Hp) (φ : List Addr) (a : Addr) : O → Prop
  | .lst ds => ∃ vs, H a = some (.lst vs) ∧ RelDs K H φ ds vs
  | .dK kvs => ∃ vs, H a = some (.dK vs) ∧ RelKv K H φ kvs vs
  | .dT kvs => ∃ vs, H a = some (.dT vs) ∧ RelKv K H φ kvs vs
  | .dKL kvs => ∃ ob vs, H a = some (.frz ob (.dK vs)) ∧ RelKv K H φ kvs vs
  | .dTL kvs => ∃ ob vs, H a = some (.frz ob (.dT vs)) ∧ RelKv K H φ kvs vs
  | .ins c fs => ∃ dx vs, H a = some (.ins (Γ c) dx vs) ∧ RelKv K H φ fs vs
  | .exo c d => ∃ dx, H a = some (L2.exo a (Γ c) dx) ∧ RelX φ d dx
  | .exd fs => ∃ vs, H a = some (L2.exd a vs) ∧ RelKv K H φ fs vs
  | .xdo fs => ∃ vs, H a = some (.xd vs) ∧ RelKv K H φ fs vs
structure Sim (K : PySem.W.Frag) (Γ : Nat → Addr) (φ : List Addr) (S : Sto) (H : Hp) : Prop where
  len : φ.length = S.length
  inj : ∀ (n m : Nat) (a : Addr), φ[n]? = some a → φ[m]? = some a → n = m
  obj : ∀ (n : Nat) (o : O) (a : Addr), S[n]? = some o → φ[n]? = some a → RelO K Γ H φ a o

/-- slots -/
structure RelE (K : PySem.W.Frag) (H : Hp) (φ : List Addr) (r : Env) (σ : Sl) : Prop where
  len : r.length = σ.length
  at_ : ∀ (i : Nat) (d : D), r[i]? = some (some d) → ∃ v, σ[i]? = some (some v) ∧ RelD K H φ d v
theorem RelE.mono (e : Ext K φ H φ' H') {r : Env} {σ : Sl} (h : RelE K H φ r σ) : RelE K H' φ' r σ :=
  ⟨h.len, fun i d q => let ⟨v, a, b⟩ := h.at_ i d q; ⟨v, a, RelD.mono e _ _ b⟩⟩
theorem RelE.set {r : Env} {σ : Sl} (h : RelE K H φ r σ) (i : Nat) {d : D} {v : V} (q : RelD K H φ d v) : RelE K H φ (r.set i (some d)) (σ.set i (some v)) := by
  refine ⟨by simp [h.len], fun j e z => ?_⟩
  by_cases hj : i = j
  · subst hj
    by_cases hl : i < r.length
    · rw [List.getElem?_set_self hl] at z
      cases z
      exact ⟨v, by rw [List.getElem?_set_self (by rw [← h.len]; exact hl)], q⟩
    · rw [List.getElem?_eq_none (by simpa using hl)] at z
      cases z
  · rw [List.getElem?_set_ne hj] at z ⊢
    exact h.at_ j e z
def wipeE (r : Env) : List Nat → Env
  | [] => r
  | v :: vs => (wipeE r vs).set v none
theorem wipeE_length (r : Env) : ∀ vs : List Nat, (wipeE r vs).length = r.length
  | [] => rfl
  | v :: vs => by unfold wipeE; rw [List.length_set, wipeE_length r vs]
theorem RelE.wipe {r : Env} {σ : Sl} (h : RelE K H φ r σ) : ∀ vs : List Nat, RelE K H φ (wipeE r vs) (wipe σ vs)
  | [] => h
  | v :: vs => by
    have ih := RelE.wipe h vs
    refine ⟨by rw [wipeE_length, wipe_length]; exact h.len, fun j e z => ?_⟩
    unfold wipeE at z
    unfold L2.wipe
    by_cases hj : v = j
    · subst hj
      by_cases hl : v < (wipeE r vs).length
      · rw [List.getElem?_set_self hl] at z
        cases z
      · rw [List.getElem?_eq_none (by simpa using hl)] at z
        cases z
    · rw [List.getElem?_set_ne hj] at z ⊢
      exact ih.at_ j e z
end

/-! ### how the heap moves -/
section
variable {K : PySem.W.Frag} {Γ : Nat → Addr} {H : Hp} {φ : List Addr} {S : Sto}
theorem sqT_upd_new {p : Addr} {o : HO} (hp : H p = none) {a : Addr} {vs : List V} (h : SqT K H a vs) : SqT K (upd H p o) a vs := by
  rcases h with (h | ⟨u, h⟩) | h
  · exact .inl (.inl (by rw [upd_ne (ne_of_none h hp)]; exact h))
  · exact .inl (.inr ⟨u, by rw [upd_ne (ne_of_none h hp)]; exact h⟩)
  · exact .inr h
theorem sqL_upd_new {p : Addr} {o : HO} (hp : H p = none) {a : Addr} {vs : List V} (h : SqL K H a vs) : SqL K (upd H p o) a vs := by
  rcases h with (h | ⟨u, h⟩) | h
  · exact .inl (.inl (by rw [upd_ne (ne_of_none h hp)]; exact h))
  · exact .inl (.inr ⟨u, by rw [upd_ne (ne_of_none h hp)]; exact h⟩)
  · exact .inr h
theorem sqT_upd_mut {p : Addr} {o : HO} (mu : Mut (H p)) {a : Addr} {vs : List V} (h : SqT K H a vs) : SqT K (upd H p o) a vs := by
  rcases h with (h | ⟨u, h⟩) | h
  · have ne : a ≠ p := fun z => by subst z; rw [h] at mu; exact mu
    exact .inl (.inl (by rw [upd_ne ne]; exact h))
  · have ne : a ≠ p := fun z => by subst z; rw [h] at mu; exact mu
    exact .inl (.inr ⟨u, by rw [upd_ne ne]; exact h⟩)
  · exact .inr h
theorem frl_upd {p : Addr} {o : HO} (hp : H p = none ∨ Mut (H p)) {a : Addr} {vs : List V} (h : FrL K H a vs) : FrL K (upd H p o) a vs := by
  rcases h with ⟨u, h⟩ | h
  · have ne : a ≠ p := fun z => by
      subst z
      rw [h] at hp
      rcases hp with hp | hp
      · cases hp
      · exact hp
    exact .inl ⟨u, by rw [upd_ne ne]; exact h⟩
  · exact .inr h
theorem Kp.new {p : Addr} {o : HO} (hp : H p = none) : Kp K H (upd H p o) := ⟨fun _ _ h => sqT_upd_new hp h, fun _ _ h => frl_upd (.inl hp) h, fun _ _ h => by rw [upd_ne (ne_of_none h hp)]; exact h, fun _ _ _ h => by rw [upd_ne (ne_of_none h hp)]; exact h⟩
theorem Kp.mut {p : Addr} {o : HO} (mu : Mut (H p)) : Kp K H (upd H p o) := ⟨fun _ _ h => sqT_upd_mut mu h, fun _ _ h => frl_upd (.inr mu) h, fun b xs h => by
  have ne : b ≠ p := fun z => by subst z; rw [h] at mu; exact mu
  rw [upd_ne ne]; exact h, fun b ob u h => by
  have ne : b ≠ p := fun z => by subst z; rw [h] at mu; exact mu
  rw [upd_ne ne]; exact h⟩
theorem old_upd {G H' : Hp} {p : Addr} {o : HO} (h : ∀ b, H' b = none → G b = none) : ∀ b, upd H' p o b = none → G b = none := fun b z => by
  by_cases e : b = p
  · rw [e, upd_same] at z; cases z
  · rw [upd_ne e] at z; exact h b z
theorem Ext.new {p : Addr} {o : HO} (hp : H p = none) : Ext K φ H (φ ++ [p]) (upd H p o) := ⟨⟨.new hp, _, rfl⟩, fun b u h n => by
  have ne := ne_of_none h hp
  rw [upd_ne ne]
  refine ⟨h, fun z => ?_⟩
  rcases List.mem_append.mp z with z | z
  · exact n z
  · exact ne (by simpa using z), old_upd fun _ z => z⟩
theorem Ext.new0 {p : Addr} {o : HO} (hp : H p = none) : Ext K φ H φ (upd H p o) := ⟨⟨.new hp, [], by simp⟩, fun b u h n => by
  rw [upd_ne (ne_of_none h hp)]
  exact ⟨h, n⟩, old_upd fun _ z => z⟩
theorem Ext.mut {p : Addr} {o : HO} (mu : Mut (H p)) {n : Nat} (hq : φ[n]? = some p) : Ext K φ H φ (upd H p o) := ⟨⟨.mut mu, [], by simp⟩, fun b u h m => by
  have ne : b ≠ p := fun z => m (by rw [z]; exact List.mem_of_getElem? hq)
  rw [upd_ne ne]
  exact ⟨h, m⟩, old_upd fun _ z => z⟩

/-- an object kept, the others' heap moved on -/
theorem RelO.keep {φ' : List Addr} {H' : Hp} {a : Addr} {o : O} (e : Gr K φ H φ' H') (ha : ∀ u, H a = some u → H' a = some u) (h : RelO K Γ H φ a o) : RelO K Γ H' φ' a o := by
  cases o with
  | lst ds => obtain ⟨vs, h1, h2⟩ := h; exact ⟨vs, ha _ h1, RelDs.mono0 e _ _ h2⟩
  | dK kvs => obtain ⟨vs, h1, h2⟩ := h; exact ⟨vs, ha _ h1, RelKv.mono e h2⟩
  | dT kvs => obtain ⟨vs, h1, h2⟩ := h; exact ⟨vs, ha _ h1, RelKv.mono e h2⟩
  | ins c fs => obtain ⟨dx, vs, h1, h2⟩ := h; exact ⟨dx, vs, ha _ h1, RelKv.mono e h2⟩
  | exo c d => obtain ⟨dx, h1, h2⟩ := h; exact ⟨dx, ha _ h1, RelX.mono e h2⟩
  | dKL kvs => obtain ⟨ob, vs, h1, h2⟩ := h; exact ⟨ob, vs, ha _ h1, RelKv.mono e h2⟩
  | dTL kvs => obtain ⟨ob, vs, h1, h2⟩ := h; exact ⟨ob, vs, ha _ h1, RelKv.mono e h2⟩
  | exd fs => obtain ⟨vs, h1, h2⟩ := h; exact ⟨vs, ha _ h1, RelKv.mono e h2⟩
  | xdo fs => obtain ⟨vs, h1, h2⟩ := h; exact ⟨vs, ha _ h1, RelKv.mono e h2⟩
theorem RelO.move {H' : Hp} {a : Addr} {o : O} (k : Kp K H H') (ha : ∀ u, H a = some u → H' a = some u) (h : RelO K Γ H φ a o) : RelO K Γ H' φ a o := by
  cases o with
  | lst ds => obtain ⟨vs, h1, h2⟩ := h; exact ⟨vs, ha _ h1, RelDs.move k _ _ h2⟩
  | dK kvs => obtain ⟨vs, h1, h2⟩ := h; exact ⟨vs, ha _ h1, Paired.mapP h2 fun p q ⟨a, b⟩ => ⟨a, RelD.move k _ _ b⟩⟩
  | dT kvs => obtain ⟨vs, h1, h2⟩ := h; exact ⟨vs, ha _ h1, Paired.mapP h2 fun p q ⟨a, b⟩ => ⟨a, RelD.move k _ _ b⟩⟩
  | ins c fs => obtain ⟨dx, vs, h1, h2⟩ := h; exact ⟨dx, vs, ha _ h1, Paired.mapP h2 fun p q ⟨a, b⟩ => ⟨a, RelD.move k _ _ b⟩⟩
  | exo c d => obtain ⟨dx, h1, h2⟩ := h; exact ⟨dx, ha _ h1, h2⟩
  | dKL kvs => obtain ⟨ob, vs, h1, h2⟩ := h; exact ⟨ob, vs, ha _ h1, Paired.mapP h2 fun p q ⟨a, b⟩ => ⟨a, RelD.move k _ _ b⟩⟩
  | dTL kvs => obtain ⟨ob, vs, h1, h2⟩ := h; exact ⟨ob, vs, ha _ h1, Paired.mapP h2 fun p q ⟨a, b⟩ => ⟨a, RelD.move k _ _ b⟩⟩
  | exd fs => obtain ⟨vs, h1, h2⟩ := h; exact ⟨vs, ha _ h1, Paired.mapP h2 fun p q ⟨a, b⟩ => ⟨a, RelD.move k _ _ b⟩⟩
  | xdo fs => obtain ⟨vs, h1, h2⟩ := h; exact ⟨vs, ha _ h1, Paired.mapP h2 fun p q ⟨a, b⟩ => ⟨a, RelD.move k _ _ b⟩⟩
/-- where a written thing stands -/
theorem RelO.stands {a : Addr} {o : O} (h : RelO K Γ H φ a o) : ∃ u, H a = some u := by
  cases o with
  | lst ds => obtain ⟨vs, h1, h2⟩ := h; exact ⟨_, h1⟩
  | dK kvs => obtain ⟨vs, h1, h2⟩ := h; exact ⟨_, h1⟩
  | dT kvs => obtain ⟨vs, h1, h2⟩ := h; exact ⟨_, h1⟩
  | dKL kvs => obtain ⟨_, vs, h1, h2⟩ := h; exact ⟨_, h1⟩
  | dTL kvs => obtain ⟨_, vs, h1, h2⟩ := h; exact ⟨_, h1⟩
  | ins c fs => obtain ⟨dx, vs, h1, h2⟩ := h; exact ⟨_, h1⟩
  | exo c d => obtain ⟨dx, h1, h2⟩ := h; exact ⟨_, h1⟩
  | exd fs => obtain ⟨vs, h1, h2⟩ := h; exact ⟨_, h1⟩
  | xdo fs => obtain ⟨vs, h1, h2⟩ := h; exact ⟨_, h1⟩
theorem Sim.lt {n : Nat} {a : Addr} (s : Sim K Γ φ S H) (h : φ[n]? = some a) : ∃ o, S[n]? = some o := by
  have := (List.getElem?_eq_some_iff.mp h).1
  rw [s.len] at this
  exact ⟨S[n], by simp [this]⟩
theorem Sim.stands {a : Addr} (s : Sim K Γ φ S H) (h : a ∈ φ) : ∃ u, H a = some u := by
  obtain ⟨n, hn⟩ := List.getElem?_of_mem h
  obtain ⟨o, ho⟩ := s.lt hn
  exact (s.obj n o a ho hn).stands
theorem Sim.fresh {p : Addr} (s : Sim K Γ φ S H) (h : H p = none) : p ∉ φ := fun z => by
  obtain ⟨u, hu⟩ := s.stands z
  rw [h] at hu
  cases hu
/-- a thing that stood hidden is shown -/
theorem Sim.unhide {p : Addr} {o : O} (s : Sim K Γ φ S H) (hp : p ∉ φ) (ho : RelO K Γ H (φ ++ [p]) p o) (e : Gr K φ H (φ ++ [p]) H ∨ ∀ (n : Nat) (u : O) (a : Addr), S[n]? = some u → φ[n]? = some a → RelO K Γ H (φ ++ [p]) a u) : Sim K Γ (φ ++ [p]) (S ++ [o]) H := by
  have lookA : ∀ n a, (φ ++ [p])[n]? = some a → (φ[n]? = some a ∧ n < S.length) ∨ (n = S.length ∧ a = p) := fun n a h => by
    by_cases hl : n < φ.length
    · rw [List.getElem?_append_left hl] at h; exact .inl ⟨h, by rw [← s.len]; exact hl⟩
    · rw [List.getElem?_append_right (by omega)] at h
      have e1 : n - φ.length = 0 := by
        have := (List.getElem?_eq_some_iff.mp h).1
        simp at this
        omega
      rw [e1] at h
      refine .inr ⟨by have := s.len; omega, by simpa using h.symm⟩
  refine ⟨by simp [s.len], fun n m a h1 h2 => ?_, fun n u a h1 h2 => ?_⟩
  · rcases lookA n a h1 with ⟨k1, l1⟩ | ⟨hn, ha⟩
    · rcases lookA m a h2 with ⟨k2, l2⟩ | ⟨hm, hb⟩
      · exact s.inj n m a k1 k2
      · exact absurd (by rw [← hb]; exact List.mem_of_getElem? k1) hp
    · rcases lookA m a h2 with ⟨k2, l2⟩ | ⟨hm, hb⟩
      · exact absurd (by rw [← ha]; exact List.mem_of_getElem? k2) hp
      · omega
  · rcases lookA n a h2 with ⟨k2, l2⟩ | ⟨hn, ha⟩
    · rw [List.getElem?_append_left l2] at h1
      rcases e with e | e
      · exact RelO.keep e (fun _ z => z) (s.obj n u a h1 k2)
      · exact e n u a h1 k2
    · rw [hn, List.getElem?_append_right (Nat.le_refl _)] at h1
      have hu : o = u := by simpa using h1
      rw [← hu, ha]
      exact ho
theorem Sim.hide {p : Addr} {ho : HO} (s : Sim K Γ φ S H) (hp : H p = none) : Sim K Γ φ S (upd H p ho) := by
  have e : Ext K φ H φ (upd H p ho) := Ext.new0 hp
  refine ⟨s.len, s.inj, fun n u a h1 h2 => ?_⟩
  obtain ⟨w, hw⟩ := RelO.stands (s.obj n u a h1 h2)
  exact RelO.keep e.toGr (fun z hz => by rw [upd_ne (ne_of_none hw hp)]; exact hz) (s.obj n u a h1 h2)
/-- a hidden thing is written -/
theorem Sim.hid {p : Addr} {ho : HO} (s : Sim K Γ φ S H) (hp : p ∉ φ) (mu : Mut (H p)) : Sim K Γ φ S (upd H p ho) ∧ ∀ (d : D) (v : V), RelD K H φ d v → RelD K (upd H p ho) φ d v := by
  have k : Kp K H (upd H p ho) := .mut mu
  have kD : ∀ (d : D) (v : V), RelD K H φ d v → RelD K (upd H p ho) φ d v := fun d v h => RelD.move k d v h
  refine ⟨⟨s.len, s.inj, fun n u a h1 h2 => ?_⟩, kD⟩
  have ne : a ≠ p := fun z => hp (by rw [← z]; exact List.mem_of_getElem? h2)
  have kO : ∀ w, H a = some w → upd H p ho a = some w := fun w hw => by rw [upd_ne ne]; exact hw
  exact RelO.move k kO (s.obj n u a h1 h2)
/-- a new thing at a new place -/
theorem Sim.new {p : Addr} {ho : HO} {o : O} (s : Sim K Γ φ S H) (hp : H p = none) (ho' : RelO K Γ (upd H p ho) (φ ++ [p]) p o) : Sim K Γ (φ ++ [p]) (S ++ [o]) (upd H p ho) := by
  have e : Ext K φ H (φ ++ [p]) (upd H p ho) := Ext.new hp
  refine (s.hide (ho := ho) hp).unhide (s.fresh hp) ho' (.inr fun n u a h1 h2 => ?_)
  obtain ⟨w, hw⟩ := RelO.stands (s.obj n u a h1 h2)
  exact RelO.keep e.toGr (fun z hz => by rw [upd_ne (ne_of_none hw hp)]; exact hz) (s.obj n u a h1 h2)
/-- a thing written -/
theorem Sim.set {n : Nat} {p : Addr} {ho : HO} {o u : O} (s : Sim K Γ φ S H) (mu' : Mut (H p)) (hS : S[n]? = some u) (hq : φ[n]? = some p) (ho' : RelO K Γ (upd H p ho) φ p o) : Sim K Γ φ (S.set n o) (upd H p ho) := by
  have e : Ext K φ H φ (upd H p ho) := Ext.mut mu' hq
  have hn : n < S.length := (List.getElem?_eq_some_iff.mp hS).1
  refine ⟨by simp [s.len], s.inj, fun m v a h1 h2 => ?_⟩
  by_cases hm : n = m
  · subst hm
    rw [List.getElem?_set_self hn] at h1
    have hv : o = v := by simpa using h1
    rw [hq] at h2
    cases h2
    rw [← hv]
    exact ho'
  · rw [List.getElem?_set_ne hm] at h1
    refine RelO.keep e.toGr (fun z hz => ?_) (s.obj m v a h1 h2)
    rw [upd_ne]
    · exact hz
    · intro ha
      exact hm (s.inj n m p hq (by rw [← ha]; exact h2))
end

open PySem PySem.Spec PyProof.Rows L2

/-- an exception's own dict -/
def XdOk (K : PySem.W.Frag) (H : Hp) (φ : List Addr) (fs : List (Str × D)) : Option Addr → Prop
  | none => fs = []
  | some d => fs ≠ [] ∧ d ∉ φ ∧ ∃ vs, H d = some (.xd vs) ∧ RelKv K H φ fs vs
/-- what is wanted of a run's end -/
def Post {α β : Type} (K : PySem.W.Frag) (Γ : Nat → Addr) (E : XK) (rel : Hp → List Addr → α → β → Prop) (φ : List Addr) (H : Hp) (r : R α) (Q : β → Hp → Prop) : Prop :=
  match r with
  | .ok d S' => ∀ φ' H' v, Ext K φ H φ' H' → Sim K Γ φ' S' H' → rel H' φ' d v → Q v H'
  | .err c fs S' => ∀ φ' H' dx, Ext K φ H φ' H' → Sim K Γ φ' S' H' → XdOk K H' φ' fs dx → (∀ x, dx = some x → H x = none) → E (.ref (Γ c)) dx H'
  | .no => False
abbrev rD (K : PySem.W.Frag) : Hp → List Addr → D → V → Prop := fun H φ d v => RelD K H φ d v
abbrev rDs (K : PySem.W.Frag) : Hp → List Addr → List D → List V → Prop := fun H φ d v => RelDs K H φ d v
abbrev rB : Hp → List Addr → Bool → Bool → Prop := fun _ _ a b => a = b
section
variable {K : PySem.W.Frag} {Γ : Nat → Addr} {E : XK} {α β α' β' : Type} {rel : Hp → List Addr → α → β → Prop} {rel' : Hp → List Addr → α' → β' → Prop} {φ φ' : List Addr} {H H' : Hp} {S : Sto} {Q Q' : β → Hp → Prop}
theorem Post.mono {r : R α} (h : Post K Γ E rel φ H r Q) (e : Ext K φ H φ' H') : Post K Γ E rel φ' H' r Q := by
  cases r with
  | ok d S' => exact fun p G v e' s q => h p G v (e.trans e') s q
  | err c fs S' => exact fun p G dx e' s q z => h p G dx (e.trans e') s q fun x y => e.old x (z x y)
  | no => exact h
theorem Post.imp {r : R α} (h : Post K Γ E rel φ H r Q) (k : ∀ v H', Q v H' → Q' v H') : Post K Γ E rel φ H r Q' := by
  cases r with
  | ok d S' => exact fun p G v e' s q => k v G (h p G v e' s q)
  | err c fs S' => exact h
  | no => exact h
theorem Post.bnd {m : M α} {f : α → M α'} {Q : β' → Hp → Prop} (h : Post K Γ E rel' φ H ((m >>= f) S) Q) :
    Post K Γ E rel φ H (m S) (fun (v : β) H1 => ∃ φ1 S1 d, Ext K φ H φ1 H1 ∧ Sim K Γ φ1 S1 H1 ∧ rel H1 φ1 d v ∧ Post K Γ E rel' φ1 H1 (f d S1) Q) := by
  rw [bind_def] at h
  cases hm : m S with
  | ok d S1 =>
    rw [hm] at h
    exact fun p G v e s q => ⟨p, S1, d, e, s, q, Post.mono h e⟩
  | err c fs S1 =>
    rw [hm] at h
    exact h
  | no =>
    rw [hm] at h
    exact h
/-- the run ends at once -/
theorem Post.here {d : α} {v : β} {Q : β → Hp → Prop} (h : Post K Γ E rel φ H (.ok d S) Q) (s : Sim K Γ φ S H) (q : rel H φ d v) : Q v H := h φ H v Ext.refl s q
theorem Post.val {d : α} {v : β} {Q : β → Hp → Prop} (h : Post K Γ E rel φ H ((pure d : M α) S) Q) (s : Sim K Γ φ S H) (q : rel H φ d v) : Q v H := h φ H v Ext.refl s q
end

/-! ### the judgements -/
def tE (K : PySem.W.Frag) (Γ : Nat → Addr) (E : XK) (m : Env → M D) : TE := fun σ H Q => ∃ φ r S, Sim K Γ φ S H ∧ RelE K H φ r σ ∧ Post K Γ E (rD K) φ H (m r S) Q
def tT (K : PySem.W.Frag) (Γ : Nat → Addr) (E : XK) (m : Env → M Bool) : TT := fun σ H Q => ∃ φ r S, Sim K Γ φ S H ∧ RelE K H φ r σ ∧ Post K Γ E rB φ H (m r S) Q
def tA (K : PySem.W.Frag) (Γ : Nat → Addr) (E : XK) (m : Env → M (List D)) : TA := fun σ H Q => ∃ φ r S, Sim K Γ φ S H ∧ RelE K H φ r σ ∧ Post K Γ E (rDs K) φ H (m r S) Q
abbrev RE (X : Cx) (Γ : Nat → Addr) (E : XK) (e : Expr) (m : Env → M D) : Prop := PE X e (tE X.K Γ E m)
abbrev RT (X : Cx) (Γ : Nat → Addr) (E : XK) (e : Expr) (m : Env → M Bool) : Prop := PT X e (tT X.K Γ E m)
abbrev RW_ (X : Cx) (Γ : Nat → Addr) (E : XK) (e : Expr) (m : Env → M Bool) : Prop := PW X e (tT X.K Γ E m)
abbrev RA (X : Cx) (Γ : Nat → Addr) (E : XK) (es : List Expr) (m : Env → M (List D)) : Prop := PA X es (tA X.K Γ E m)
/-- a two-place operation on data -/
def OpD (X : Cx) (Γ : Nat → Addr) (E : XK) (f : Value → Value → Sem Value) (op : D → D → M D) : Prop :=
  OpR X f fun x y H Q => ∃ φ S dx dy, Sim X.K Γ φ S H ∧ RelD X.K H φ dx x ∧ RelD X.K H φ dy y ∧ Post X.K Γ E (rD X.K) φ H (op dx dy S) Q
def UnD (X : Cx) (Γ : Nat → Addr) (E : XK) (f : Value → Sem Value) (op : D → M D) : Prop :=
  UnR X f fun x H Q => ∃ φ S dx, Sim X.K Γ φ S H ∧ RelD X.K H φ dx x ∧ Post X.K Γ E (rD X.K) φ H (op dx S) Q
def rCall (K : PySem.W.Frag) (Γ : Nat → Addr) (E : XK) (op : List D → M D) : List V → Hp → VK → Prop :=
  fun xs H Q => ∃ φ S ds, Sim K Γ φ S H ∧ RelDs K H φ ds xs ∧ Post K Γ E (rD K) φ H (op ds S) Q
def CallD (X : Cx) (Γ : Nat → Addr) (E : XK) (f : Value) (op : List D → M D) : Prop := CallR X f (rCall X.K Γ E op)
def rMt (K : PySem.W.Frag) (Γ : Nat → Addr) (E : XK) (op : D → List D → M D) : V → List V → Hp → VK → Prop :=
  fun x xs H Q => ∃ φ S d ds, Sim K Γ φ S H ∧ RelD K H φ d x ∧ RelDs K H φ ds xs ∧ Post K Γ E (rD K) φ H (op d ds S) Q
def MtD (X : Cx) (Γ : Nat → Addr) (E : XK) (id : String) (op : D → List D → M D) : Prop := MtR X id (rMt X.K Γ E op)
def IxD (X : Cx) (Γ : Nat → Addr) (E : XK) (op : D → D → M D) : Prop :=
  IxR X fun x y H Q => ∃ φ S dx dy, Sim X.K Γ φ S H ∧ RelD X.K H φ dx x ∧ RelD X.K H φ dy y ∧ Post X.K Γ E (rD X.K) φ H (op dx dy S) Q

section
variable {X : Cx} {Γ : Nat → Addr} {E : XK} {a b c e : Expr} {es : List Expr} {ma mb mc : Env → M D} {pos : Pos}
theorem PE.weaken {e : Expr} {t t' : TE} (h : PE X e t) (k : ∀ σ H Q, t' σ H Q → t σ H Q) : PE X e t' := ⟨fun pins s σ H Q I q => h.run pins s σ H Q I (k σ H Q q)⟩
theorem PT.weaken {e : Expr} {t t' : TT} (h : PT X e t) (k : ∀ σ H Q, t' σ H Q → t σ H Q) : PT X e t' := ⟨fun pins s σ H Q I q => h.run pins s σ H Q I (k σ H Q q)⟩
theorem PW.weaken {e : Expr} {t t' : TT} (h : PW X e t) (k : ∀ σ H Q, t' σ H Q → t σ H Q) : PW X e t' := ⟨fun w pins s σ H Q I q => h.run w pins s σ H Q I (k σ H Q q)⟩
theorem PA.weaken {e : List Expr} {t t' : TA} (h : PA X e t) (k : ∀ σ H Q, t' σ H Q → t σ H Q) : PA X e t' := ⟨fun w pins s σ H Q I q => h.run w pins s σ H Q I (k σ H Q q)⟩
theorem PS.weaken {e : Stmt} {t t' : TS} (h : PS X e t) (k : ∀ D σ H, t' D σ H → t D σ H) : PS X e t' := ⟨fun pins s σ H D I q => h.run pins s σ H D I (k D σ H q)⟩
theorem PSs.weaken {e : List Stmt} {t t' : TS} (h : PSs X e t) (k : ∀ D σ H, t' D σ H → t D σ H) : PSs X e t' := ⟨fun pins s σ H D I q => h.run pins s σ H D I (k D σ H q)⟩

/-- one step behind another -/
theorem tE_bnd {K : PySem.W.Frag} {α : Type} {m : Env → M D} {f : D → M α} {rel' : Hp → List Addr → α → β' → Prop} {φ : List Addr} {r : Env} {S : Sto} {σ : Sl} {H : Hp} {Q : β' → Hp → Prop} {Q' : VK} (s : Sim K Γ φ S H) (q : RelE K H φ r σ)
    (h : Post K Γ E rel' φ H ((m r >>= f) S) Q) (k : ∀ φ1 S1 d v H1, Ext K φ H φ1 H1 → Sim K Γ φ1 S1 H1 → RelE K H1 φ1 r σ → RelD K H1 φ1 d v → Post K Γ E rel' φ1 H1 (f d S1) Q → Q' v H1) : tE K Γ E m σ H Q' :=
  ⟨φ, r, S, s, q, (Post.bnd (rel := rD K) h).imp fun v H1 ⟨φ1, S1, d, e, s1, rv, p⟩ => k φ1 S1 d v H1 e s1 (q.mono e) rv p⟩
theorem tA_bnd {K : PySem.W.Frag} {α : Type} {m : Env → M (List D)} {f : List D → M α} {rel' : Hp → List Addr → α → β' → Prop} {φ : List Addr} {r : Env} {S : Sto} {σ : Sl} {H : Hp} {Q : β' → Hp → Prop} {Q' : List V → Hp → Prop} (s : Sim K Γ φ S H) (q : RelE K H φ r σ)
    (h : Post K Γ E rel' φ H ((m r >>= f) S) Q) (k : ∀ φ1 S1 d v H1, Ext K φ H φ1 H1 → Sim K Γ φ1 S1 H1 → RelE K H1 φ1 r σ → RelDs K H1 φ1 d v → Post K Γ E rel' φ1 H1 (f d S1) Q → Q' v H1) : tA K Γ E m σ H Q' :=
  ⟨φ, r, S, s, q, (Post.bnd (rel := rDs K) h).imp fun v H1 ⟨φ1, S1, d, e, s1, rv, p⟩ => k φ1 S1 d v H1 e s1 (q.mono e) rv p⟩
theorem tT_bnd {K : PySem.W.Frag} {α : Type} {m : Env → M Bool} {f : Bool → M α} {rel' : Hp → List Addr → α → β' → Prop} {φ : List Addr} {r : Env} {S : Sto} {σ : Sl} {H : Hp} {Q : β' → Hp → Prop} {Q' : Bool → Hp → Prop} (s : Sim K Γ φ S H) (q : RelE K H φ r σ)
    (h : Post K Γ E rel' φ H ((m r >>= f) S) Q) (k : ∀ φ1 S1 d H1, Ext K φ H φ1 H1 → Sim K Γ φ1 S1 H1 → RelE K H1 φ1 r σ → Post K Γ E rel' φ1 H1 (f d S1) Q → Q' d H1) : tT K Γ E m σ H Q' :=
  ⟨φ, r, S, s, q, (Post.bnd (rel := rB) h).imp fun v H1 ⟨φ1, S1, d, e, s1, rv, p⟩ => by
    cases rv
    exact k φ1 S1 v H1 e s1 (q.mono e) p⟩

/-! ### names, constants -/
def getv (i : Nat) : Env → M D := fun r S => match r[i]? with
  | some (some d) => .ok d S
  | _ => .no
theorem re_var (i : Nat) {x : Str} (hN : X.N[i]? = some x := by rfl) (hv : Vis X.env.scope x := by first | exact Or.inl rfl | exact Or.inr (Or.inl rfl) | exact Or.inr (Or.inr rfl)) (hd : (x == ("__debug__" : Str)) = false := by decide)
    (hcd : (x == ("__classdict__" : Str)) = false := by decide) : RE X Γ E (.Name x pos) (getv i) := by
  refine PE.weaken (pe_var hN hv hd hcd) fun σ H Q ⟨φ, r, S, s, q, p⟩ => ?_
  unfold getv at p
  cases hr : r[i]? with
  | none => rw [hr] at p; exact p.elim
  | some o =>
    cases o with
    | none => rw [hr] at p; exact p.elim
    | some d =>
      rw [hr] at p
      obtain ⟨v, h1, h2⟩ := q.at_ i d hr
      exact ⟨v, h1, p.here s h2⟩
def cst (d : D) : Env → M D := fun _ => pure d
theorem re_cst {K : PySem.W.Frag} {v : V} {d : D} (h : PE X e (tC v)) (r : ∀ H φ, RelD X.K H φ d v) : RE X Γ E e (cst d) :=
  PE.weaken h fun σ H Q ⟨φ, _, S, s, q, p⟩ => p.val s (r H φ)
theorem re_int {i j} : RE X Γ E (.Constant (.int i) j pos) (cst (.int i)) := PE.weaken pe_int fun σ H Q ⟨φ, _, S, s, q, p⟩ => p.val s (.int i)
theorem re_bl {i j} : RE X Γ E (.Constant (.bool i) j pos) (cst (.bl i)) := PE.weaken pe_bl fun σ H Q ⟨φ, _, S, s, q, p⟩ => p.val s (.bl i)
theorem re_non {j} : RE X Γ E (.Constant .none j pos) (cst .non) := PE.weaken pe_non fun σ H Q ⟨φ, _, S, s, q, p⟩ => p.val s .non
theorem re_str {x j} : RE X Γ E (.Constant (.str x) j pos) (cst (.str x)) := PE.weaken pe_str fun σ H Q ⟨φ, _, S, s, q, p⟩ => p.val s (.str x)
theorem re_glob {x : Str} {v : V} {d : D} {u : Value} (hg : Gl X x) (hm : X.mg x = some u) (r : RelV v u) (q : ∀ H φ, RelD X.K H φ d v) (hd : (x == ("__debug__" : Str)) = false := by decide) : RE X Γ E (.Name x pos) (cst d) :=
  PE.weaken (pe_glob hg hm r hd) fun σ H Q ⟨φ, _, S, s, _, p⟩ => p.val s (q H φ)

/-! ### operators -/
def binM (f : D → D → M D) (ma mb : Env → M D) : Env → M D := fun r => do
  let x ← ma r
  let y ← mb r
  f x y
theorem tE_op {f : D → D → M D} {R : V → V → Hp → VK → Prop} {σ : Sl} {H : Hp} {Q : VK} (h : tE X.K Γ E (binM f ma mb) σ H Q)
    (k : ∀ x y H2, (∃ φ S dx dy, Sim X.K Γ φ S H2 ∧ RelD X.K H2 φ dx x ∧ RelD X.K H2 φ dy y ∧ Post X.K Γ E (rD X.K) φ H2 (f dx dy S) Q) → R x y H2 Q) : tOp R (tE X.K Γ E ma) (tE X.K Γ E mb) σ H Q := by
  obtain ⟨φ, r, S, s, q, p⟩ := h
  refine tE_bnd s q p fun φ1 S1 d1 v1 H1 e1 s1 q1 r1 p1 => ?_
  refine tE_bnd s1 q1 p1 fun φ2 S2 d2 v2 H2 e2 s2 q2 r2 p2 => ?_
  exact k v1 v2 H2 ⟨φ2, S2, d1, d2, s2, RelD.mono e2 _ _ r1, r2, p2⟩
theorem re_bin {op : Operator} {f : D → D → M D} (ho : OpD X Γ E (binaryOp op) f) (ha : RE X Γ E a ma) (hb : RE X Γ E b mb) : RE X Γ E (.BinOp a op b pos) (binM f ma mb) :=
  PE.weaken (pe_op ho ha hb) fun σ H Q h => tE_op h fun _ _ _ q => q
theorem re_cmp {op : CmpOp} {f : D → D → M D} (ho : OpD X Γ E (compareOp op) f) (ha : RE X Γ E a ma) (hb : RE X Γ E b mb) (hm : behindInMarks op b = false := by first | exact nobehind _ (by decide) (by decide) | rfl) : RE X Γ E (.Compare a [op] [b] pos) (binM f ma mb) :=
  PE.weaken (pe_cmpR ho ha hb hm) fun σ H Q h => tE_op h fun _ _ _ q => q
/-- a value that is a truth -/
def asB : D → M Bool
  | .bl b => pure b
  | _ => stuck
def tstM (m : Env → M D) : Env → M Bool := fun r => do
  let x ← m r
  asB x
theorem asB_post {K : PySem.W.Frag} {φ : List Addr} {S : Sto} {H : Hp} {d : D} {v : V} {Q : Bool → Hp → Prop} (s : Sim K Γ φ S H) (r : RelD K H φ d v) (p : Post K Γ E rB φ H (asB d S) Q) : ∃ c, v = .bl c ∧ Q c H := by
  cases d with
  | bl b =>
    cases r
    exact ⟨b, rfl, p.val (v := b) s rfl⟩
  | _ => exact p.elim
theorem rt_val (h : RE X Γ E e ma) (he : ∀ whole, isTrue e X.env whole = (do let v ← whole; standAt e.pos; holding [v] (truthy v)) := by intro _; rfl) : RT X Γ E e (tstM ma) := by
  refine PT.weaken (pt_val h he) fun σ H Q ⟨φ, r, S, s, q, p⟩ => ?_
  exact tE_bnd s q p fun φ1 S1 d v H1 e1 s1 q1 rv p1 => asB_post s1 rv p1
theorem rt_cmp {op : CmpOp} {f : D → D → M D} (ho : OpD X Γ E (compareOp op) f) (ha : RE X Γ E a ma) (hb : RE X Γ E b mb) (hm : behindInMarks op b = false := by first | exact nobehind _ (by decide) (by decide) | rfl) : RT X Γ E (.Compare a [op] [b] pos) (tstM (binM f ma mb)) := by
  refine PT.weaken (pt_cmpR ho ha hb hm) fun σ H Q ⟨φ, r, S, s, q, p⟩ => ?_
  have p' : Post X.K Γ E rB φ H ((ma r >>= fun x => mb r >>= fun y => f x y >>= asB) S) Q := by
    have e : ((binM f ma mb r >>= asB) S : R Bool) = (ma r >>= fun x => mb r >>= fun y => f x y >>= asB) S := by
      unfold binM
      simp only [bind_def]
      cases ma r S with
      | ok d S1 =>
        simp only []
        cases mb r S1 with
        | ok d2 S2 => rfl
        | err _ _ _ => rfl
        | no => rfl
      | err _ _ _ => rfl
      | no => rfl
    rw [← e]
    exact p
  refine tE_bnd s q p' fun φ1 S1 d1 v1 H1 e1 s1 q1 r1 p1 => ?_
  refine tE_bnd s1 q1 p1 fun φ2 S2 d2 v2 H2 e2 s2 q2 r2 p2 => ?_
  refine ⟨φ2, S2, d1, d2, s2, RelD.mono e2 _ _ r1, r2, ?_⟩
  exact (Post.bnd (rel := rD X.K) p2).imp fun v H3 ⟨φ3, S3, d, e3, s3, rv, p3⟩ => asB_post s3 rv p3
def unM (f : D → M D) (ma : Env → M D) : Env → M D := fun r => do
  let x ← ma r
  f x
theorem re_un {op : UnaryOp} {f : D → M D} (ho : UnD X Γ E (unaryOp op) f) (ha : RE X Γ E a ma) : RE X Γ E (.UnaryOp op a pos) (unM f ma) :=
  PE.weaken (pe_un ho ha) fun σ H Q ⟨φ, r, S, s, q, p⟩ => tE_bnd s q p fun φ1 S1 d v H1 e1 s1 q1 rv p1 => ⟨φ1, S1, d, s1, rv, p1⟩

/-! ### and, or, not, if -/
variable {tA tB : Env → M Bool} {rest : List Expr}
def andT (x y : Env → M Bool) : Env → M Bool := fun r => do
  let c ← x r
  if c = true then y r else pure false
def orT (x y : Env → M Bool) : Env → M Bool := fun r => do
  let c ← x r
  if c = true then pure true else y r
def notT (x : Env → M Bool) : Env → M Bool := fun r => do
  let c ← x r
  pure (!c)
theorem rw_and1 (ha : RT X Γ E a tA) : RW_ X Γ E (.BoolOp .And [a] pos) tA := pw_and1 ha
theorem rw_or1 (ha : RT X Γ E a tA) : RW_ X Γ E (.BoolOp .Or [a] pos) tA := pw_or1 ha
theorem rw_and (ha : RT X Γ E a tA) (hb : RW_ X Γ E (.BoolOp .And (b :: rest) pos) tB) : RW_ X Γ E (.BoolOp .And (a :: b :: rest) pos) (andT tA tB) := by
  refine PW.weaken (pw_and ha hb) fun σ H Q ⟨φ, r, S, s, q, p⟩ => ?_
  refine tT_bnd s q p fun φ1 S1 d H1 e1 s1 q1 p1 => ?_
  cases d with
  | true => exact ⟨φ1, r, S1, s1, q1, p1⟩
  | false => exact p1.val (v := false) s1 rfl
theorem rw_or (ha : RT X Γ E a tA) (hb : RW_ X Γ E (.BoolOp .Or (b :: rest) pos) tB) : RW_ X Γ E (.BoolOp .Or (a :: b :: rest) pos) (orT tA tB) := by
  refine PW.weaken (pw_or ha hb) fun σ H Q ⟨φ, r, S, s, q, p⟩ => ?_
  refine tT_bnd s q p fun φ1 S1 d H1 e1 s1 q1 p1 => ?_
  cases d with
  | false => exact ⟨φ1, r, S1, s1, q1, p1⟩
  | true => exact p1.val (v := true) s1 rfl
theorem rt_not (ha : RT X Γ E a tA) : RT X Γ E (.UnaryOp .Not a pos) (notT tA) := by
  refine PT.weaken (pt_not ha) fun σ H Q ⟨φ, r, S, s, q, p⟩ => ?_
  refine tT_bnd s q p fun φ1 S1 d H1 e1 s1 q1 p1 => ?_
  exact p1.val (v := !d) s1 rfl
/-- as values: all but the last are truths -/
def andV (x y : Env → M D) : Env → M D := fun r => do
  let c ← x r
  let k ← asB c
  if k = true then y r else pure (.bl false)
def orV (x y : Env → M D) : Env → M D := fun r => do
  let c ← x r
  let k ← asB c
  if k = true then pure (.bl true) else y r
def notV (x : Env → M D) : Env → M D := fun r => do
  let c ← x r
  let k ← asB c
  pure (.bl (!k))
theorem asB_bnd {K : PySem.W.Frag} {α β : Type} {rel : Hp → List Addr → α → β → Prop} {φ : List Addr} {S : Sto} {H : Hp} {d : D} {v : V} {f : Bool → M α} {Q : β → Hp → Prop} (r : RelD K H φ d v) (p : Post K Γ E rel φ H ((asB d >>= f) S) Q) : ∃ c, v = .bl c ∧ Post K Γ E rel φ H (f c S) Q := by
  cases d with
  | bl b =>
    cases r
    exact ⟨b, rfl, p⟩
  | _ => exact p.elim
theorem re_one {op} (h : RE X Γ E a ma) : RE X Γ E (.BoolOp op [a] pos) ma := pe_one h
theorem re_and (ha : RE X Γ E a ma) (hb : RE X Γ E (.BoolOp .And (b :: rest) pos) mb) : RE X Γ E (.BoolOp .And (a :: b :: rest) pos) (andV ma mb) := by
  refine PE.weaken (pe_and ha hb) fun σ H Q ⟨φ, r, S, s, q, p⟩ => ?_
  refine tE_bnd s q p fun φ1 S1 d v H1 e1 s1 q1 rv p1 => ?_
  obtain ⟨c, rfl, p2⟩ := asB_bnd rv p1
  refine ⟨c, rfl, ?_⟩
  cases c with
  | true => exact ⟨φ1, r, S1, s1, q1, p2⟩
  | false => exact p2.val s1 (.bl false)
theorem re_or (ha : RE X Γ E a ma) (hb : RE X Γ E (.BoolOp .Or (b :: rest) pos) mb) : RE X Γ E (.BoolOp .Or (a :: b :: rest) pos) (orV ma mb) := by
  refine PE.weaken (pe_or ha hb) fun σ H Q ⟨φ, r, S, s, q, p⟩ => ?_
  refine tE_bnd s q p fun φ1 S1 d v H1 e1 s1 q1 rv p1 => ?_
  obtain ⟨c, rfl, p2⟩ := asB_bnd rv p1
  refine ⟨c, rfl, ?_⟩
  cases c with
  | false => exact ⟨φ1, r, S1, s1, q1, p2⟩
  | true => exact p2.val s1 (.bl true)
theorem re_not (ha : RE X Γ E a ma) : RE X Γ E (.UnaryOp .Not a pos) (notV ma) := by
  refine PE.weaken (pe_not ha) fun σ H Q ⟨φ, r, S, s, q, p⟩ => ?_
  refine tE_bnd s q p fun φ1 S1 d v H1 e1 s1 q1 rv p1 => ?_
  obtain ⟨c, rfl, p2⟩ := asB_bnd rv p1
  exact ⟨c, rfl, p2.val s1 (.bl (!c))⟩
def ifM (t : Env → M Bool) (x y : Env → M D) : Env → M D := fun r => do
  let c ← t r
  if c = true then x r else y r
theorem re_if {c : Expr} (hc : RT X Γ E c tA) (ha : RE X Γ E a ma) (hb : RE X Γ E b mb) : RE X Γ E (.IfExp c a b pos) (ifM tA ma mb) := by
  refine PE.weaken (pe_ifExp hc ha hb) fun σ H Q ⟨φ, r, S, s, q, p⟩ => ?_
  refine tT_bnd s q p fun φ1 S1 d H1 e1 s1 q1 p1 => ?_
  cases d with
  | true => exact ⟨φ1, r, S1, s1, q1, p1⟩
  | false => exact ⟨φ1, r, S1, s1, q1, p1⟩

/-! ### argument lists, displays -/
variable {mA : Env → M (List D)}
def nilA : Env → M (List D) := fun _ => pure []
def consA (x : Env → M D) (xs : Env → M (List D)) : Env → M (List D) := fun r => do
  let d ← x r
  let ds ← xs r
  pure (d :: ds)
theorem ra_nil : RA X Γ E [] nilA := PA.weaken pa_nil fun σ H Q ⟨φ, r, S, s, q, p⟩ => p.val s .nil
theorem ra_cons (ha : RE X Γ E e ma) (hr : RA X Γ E es mA) (hs : starEach (e :: es) X.env = (false, eval e X.env) :: starEach es X.env := by rfl) : RA X Γ E (e :: es) (consA ma mA) := by
  refine PA.weaken (pa_cons ha hr hs) fun σ H Q ⟨φ, r, S, s, q, p⟩ => ?_
  refine tE_bnd s q p fun φ1 S1 d v H1 e1 s1 q1 rv p1 => ?_
  refine tA_bnd s1 q1 p1 fun φ2 S2 ds vs H2 e2 s2 q2 rvs p2 => ?_
  exact p2.val s2 (.cons (RelD.mono e2 _ _ rv) rvs)
def mkT (xs : List D) : M D := if xs.length ≤ sizeLine then pure (.tup xs) else stuck
def newO (o : O) : M D := fun S => .ok (.ref S.length) (S ++ [o])
def mkL (xs : List D) : M D := if xs.length ≤ sizeLine then newO (.lst xs) else stuck
/-- a new tuple -/
theorem Post.newT {K : PySem.W.Frag} {φ : List Addr} {S : Sto} {H : Hp} {ds : List D} {vs : List V} {Q : VK} (s : Sim K Γ φ S H) (r : RelDs K H φ ds vs) (p : Post K Γ E (rD K) φ H (.ok (.tup ds) S) Q) : ∀ q, H q = none → Q (.ref q) (upd H q (.tup vs)) := fun q hq =>
  p φ _ _ (Ext.new0 hq) (s.hide hq) (.tup (SqT.of upd_same) (fun _ => upd_same) (RelDs.mono (Ext.new0 hq) _ _ r))
/-- a new list -/
theorem Post.newL {K : PySem.W.Frag} {φ : List Addr} {S : Sto} {H : Hp} {ds : List D} {vs : List V} {Q : VK} (s : Sim K Γ φ S H) (r : RelDs K H φ ds vs) (p : Post K Γ E (rD K) φ H (newO (.lst ds) S) Q) : ∀ q, H q = none → Q (.ref q) (upd H q (.lst vs)) := fun q hq =>
  p (φ ++ [q]) _ _ (Ext.new hq) (s.new hq ⟨vs, upd_same, RelDs.mono (Ext.new hq) _ _ r⟩) (.ref (by rw [← s.len, List.getElem?_append_right (Nat.le_refl _)]; simp))
theorem Post.ite {K : PySem.W.Frag} {α β : Type} {rel : Hp → List Addr → α → β → Prop} {φ : List Addr} {S : Sto} {H : Hp} {c : Prop} [Decidable c] {m : M α} {Q : β → Hp → Prop} (p : Post K Γ E rel φ H ((if c then m else stuck) S) Q) : c ∧ Post K Γ E rel φ H (m S) Q := by
  by_cases h : c
  · rw [if_pos h] at p; exact ⟨h, p⟩
  · rw [if_neg h] at p; exact p.elim
def tupM (mA : Env → M (List D)) : Env → M D := fun r => do
  let ds ← mA r
  mkT ds
def lstM (mA : Env → M (List D)) : Env → M D := fun r => do
  let ds ← mA r
  mkL ds
theorem re_tup {k} (h : RA X Γ E es mA) : RE X Γ E (.Tuple es k pos) (tupM mA) := by
  refine PE.weaken (pe_tup h) fun σ H Q ⟨φ, r, S, s, q, p⟩ => ?_
  refine tA_bnd s q p fun φ1 S1 ds vs H1 e1 s1 q1 rv p1 => ?_
  obtain ⟨hz, p2⟩ := Post.ite p1
  exact ⟨by rw [← RelDs.length rv]; exact hz, Post.newT s1 rv p2⟩
theorem re_lst (h : RA X Γ E es mA) : RE X Γ E (.List es pos) (lstM mA) := by
  refine PE.weaken (pe_lst h) fun σ H Q ⟨φ, r, S, s, q, p⟩ => ?_
  refine tA_bnd s q p fun φ1 S1 ds vs H1 e1 s1 q1 rv p1 => ?_
  obtain ⟨hz, p2⟩ := Post.ite p1
  exact ⟨by rw [← RelDs.length rv]; exact hz, Post.newL s1 rv p2⟩

/-! ### calls -/
def clM (f : List D → M D) (mA : Env → M (List D)) : Env → M D := fun r => do
  let ds ← mA r
  f ds
variable {x : Str} {p : Pos} {id T : String} {op : List D → M D}
theorem re_callB (hc : CallD X Γ E (.builtin id) op) (hg : Gl X x) (hm : X.mg x = none) (hv : bootBuiltins x = some (.builtin id)) (ha : RA X Γ E (e :: es) mA) (hn : x ≠ "__name__" := by decide) (hdb : (x == ("__debug__" : Str)) = false := by decide)
    (he : starEach (e :: es) X.env = (false, eval e X.env) :: starEach es X.env := by rfl) (hpl : (backTo pos (starEach es X.env)).any (·.1) = false := by rfl) : RE X Γ E (.Call (.Name x p) (e :: es) [] pos) (clM op mA) := by
  refine PE.weaken (pe_callB hc hg hm hv ha hn hdb he hpl) fun σ H Q ⟨φ, r, S, s, q, p⟩ => ?_
  exact tA_bnd s q p fun φ1 S1 ds vs H1 e1 s1 q1 rv p1 => ⟨φ1, S1, ds, s1, rv, p1⟩
theorem re_callTy (hc : CallD X Γ E (.type T) op) (hg : Gl X x) (hm : X.mg x = none) (hv : bootBuiltins x = some (.type T)) (ha : RA X Γ E (e :: es) mA) (hn : x ≠ "__name__" := by decide) (hdb : (x == ("__debug__" : Str)) = false := by decide)
    (he : starEach (e :: es) X.env = (false, eval e X.env) :: starEach es X.env := by rfl) (hpl : (backTo pos (starEach es X.env)).any (·.1) = false := by rfl) : RE X Γ E (.Call (.Name x p) (e :: es) [] pos) (clM op mA) := by
  refine PE.weaken (pe_callTy hc hg hm hv ha hn hdb he hpl) fun σ H Q ⟨φ, r, S, s, q, p⟩ => ?_
  exact tA_bnd s q p fun φ1 S1 ds vs H1 e1 s1 q1 rv p1 => ⟨φ1, S1, ds, s1, rv, p1⟩
/-- what a def of the text promises -/
def spM (K : PySem.W.Frag) (Γ : Nat → Addr) (n : Nat) (f : List D → M D) : Sp := fun vs H Q E => vs.length = n ∧ ∃ φ S ds, Sim K Γ φ S H ∧ RelDs K H φ ds vs ∧ Post K Γ E (rD K) φ H (f ds S) Q
variable {CX : CXT} {k n : Nat} {f : Addr} {fd : FuncData} {ps : List Str}
theorem re_call {mf : List D → M D} (F : FnOk X.prog X.w X.K X.mg X.base CX k f fd ps (spM X.K Γ n mf)) (hr : Room k X.A) (hg : Gl X x) (hm : X.mg x = some (.ref f)) (hk : PySem.W.keepIn X.K (.ref f) = true) (hb : Binds X.K fd ps []) (hx : Passes CX X E)
    (ha : RA X Γ E (e :: es) mA) (hn : (e :: es).length = n) (hdb : (x == ("__debug__" : Str)) = false := by decide) (he : starEach (e :: es) X.env = (false, eval e X.env) :: starEach es X.env := by rfl) (hpl : (backTo pos (starEach es X.env)).any (·.1) = false := by rfl)
    (hl : ∀ r S ds S', mA r S = .ok ds S' → ds.length = n) : RE X Γ E (.Call (.Name x p) (e :: es) [] pos) (clM mf mA) := by
  refine PE.weaken (pe_call F hr hg hm hk hb .nil hx ha hdb he hpl) fun σ H Q ⟨φ, r, S, s, q, p⟩ => ?_
  have p' := Post.bnd (rel := rDs X.K) p
  cases hm : mA r S with
  | ok ds S1 =>
    rw [hm] at p'
    refine ⟨φ, r, S, s, q, ?_⟩
    rw [hm]
    intro φ1 H1 vs e1 s1 rv
    obtain ⟨φ2, S2, d2, e2, s2, rv2, p2⟩ := p' φ1 H1 vs e1 s1 rv
    have hb := bnd_ok (f := mf) hm
    have p3 : Post X.K Γ E (rD X.K) φ H (mf ds S1) Q := by
      have p0 : Post X.K Γ E (rD X.K) φ H ((mA r >>= mf) S) Q := p
      rw [hb] at p0
      exact p0
    rw [List.append_nil]
    exact ⟨by rw [← RelDs.length rv]; exact hl r S ds S1 hm, φ1, S1, ds, s1, rv, p3.mono e1⟩
  | err c fs S1 =>
    rw [hm] at p'
    refine ⟨φ, r, S, s, q, ?_⟩
    rw [hm]
    exact p'
  | no =>
    rw [hm] at p'
    exact p'.elim
theorem lenA_nil : ∀ r S ds S', nilA r S = .ok ds S' → ds.length = 0 := fun r S ds S' h => by
  cases h
  rfl
theorem lenA_cons {x : Env → M D} {xs : Env → M (List D)} {n : Nat} (h : ∀ r S ds S', xs r S = .ok ds S' → ds.length = n) : ∀ r S ds S', consA x xs r S = .ok ds S' → ds.length = n + 1 := fun r S ds S' q => by
  unfold consA at q
  rw [bind_def] at q
  cases hx : x r S with
  | ok d S1 =>
    simp only [hx, bind_def] at q
    cases hy : xs r S1 with
    | ok ds2 S2 =>
      simp only [hy, pure_ap] at q
      cases q
      simp [h _ _ _ _ hy]
    | err _ _ _ => simp only [hy] at q; cases q
    | no => simp only [hy] at q; cases q
  | err _ _ _ => simp only [hx] at q; cases q
  | no => simp only [hx] at q; cases q
end

open PySem PySem.Spec PyProof.Rows L2

inductive FV where
  | nx (σ : Sl) | rt (v : V) | bk (σ : Sl) | ct (σ : Sl)
def endQ (D : Ends) : FV → Hp → Prop
  | .nx σ, H => D.nx σ H
  | .rt v, H => D.rt v H
  | .bk σ, H => D.bk σ H
  | .ct σ, H => D.ct σ H
inductive rFl (K : PySem.W.Frag) (H : Hp) (φ : List Addr) : Fl → FV → Prop
  | nx {r : Env} {σ : Sl} : RelE K H φ r σ → rFl K H φ (.nx r) (.nx σ)
  | rt {d : D} {v : V} : RelD K H φ d v → rFl K H φ (.rt d) (.rt v)
  | bk {r : Env} {σ : Sl} : RelE K H φ r σ → rFl K H φ (.bk r) (.bk σ)
  | ct {r : Env} {σ : Sl} : RelE K H φ r σ → rFl K H φ (.ct r) (.ct σ)
abbrev rF (K : PySem.W.Frag) : Hp → List Addr → Fl → FV → Prop := fun H φ a b => rFl K H φ a b
abbrev rEn (K : PySem.W.Frag) : Hp → List Addr → Env → Sl → Prop := fun H φ a b => RelE K H φ a b
def tS (K : PySem.W.Frag) (Γ : Nat → Addr) (E : XK) (m : Env → M Fl) : TS := fun D σ H => ∃ φ r S, Sim K Γ φ S H ∧ RelE K H φ r σ ∧ Post K Γ E (rF K) φ H (m r S) (endQ D)
abbrev RS (X : Cx) (Γ : Nat → Addr) (E : XK) (st : Stmt) (m : Env → M Fl) : Prop := PS X st (tS X.K Γ E m)
abbrev RSs (X : Cx) (Γ : Nat → Addr) (E : XK) (st : List Stmt) (m : Env → M Fl) : Prop := PSs X st (tS X.K Γ E m)
def tGt (K : PySem.W.Frag) (Γ : Nat → Addr) (E : XK) (g : D → Env → M Env) : TG := fun v σ H Q => ∃ φ r S d, Sim K Γ φ S H ∧ RelE K H φ r σ ∧ RelD K H φ d v ∧ Post K Γ E (rEn K) φ H (g d r S) Q
abbrev RG (X : Cx) (Γ : Nat → Addr) (E : XK) (tg : Expr) (g : D → Env → M Env) : Prop := PG X tg (tGt X.K Γ E g)
theorem PG.weaken {X : Cx} {e : Expr} {t t' : TG} (h : PG X e t) (k : ∀ v σ H Q, t' v σ H Q → t v σ H Q) : PG X e t' := ⟨fun pins s σ H v u Q I r q => h.run pins s σ H v u Q I r (k v σ H Q q)⟩

/-- without weakening the base -/
theorem Post.bnd0 {K : PySem.W.Frag} {Γ : Nat → Addr} {E : XK} {α β α' β' : Type} {rel : Hp → List Addr → α → β → Prop} {rel' : Hp → List Addr → α' → β' → Prop} {φ0 φ : List Addr} {H0 H : Hp} {S : Sto} {m : M α} {f : α → M α'} {Q : β' → Hp → Prop}
    (e0 : Ext K φ0 H0 φ H) (h : Post K Γ E rel' φ0 H0 ((m >>= f) S) Q) :
    Post K Γ E rel φ H (m S) (fun (v : β) H1 => ∃ φ1 S1 d, Ext K φ H φ1 H1 ∧ Sim K Γ φ1 S1 H1 ∧ rel H1 φ1 d v ∧ Post K Γ E rel' φ0 H0 (f d S1) Q) := by
  rw [bind_def] at h
  cases hm : m S with
  | ok d S1 =>
    rw [hm] at h
    exact fun p G v e s q => ⟨p, S1, d, e, s, q, h⟩
  | err c fs S1 =>
    rw [hm] at h
    exact fun p G dx e s q z => h p G dx (e0.trans e) s q fun x y => e0.old x (z x y)
  | no =>
    rw [hm] at h
    exact h

section
variable {X : Cx} {Γ : Nat → Addr} {E : XK} {a b c e : Expr} {es : List Expr} {ma mb mc : Env → M D} {pos : Pos} {st : Stmt} {rest : List Stmt} {mS mS' : Env → M Fl}

def nxM : Env → M Fl := fun r => pure (.nx r)
def seqM (m k : Env → M Fl) : Env → M Fl := fun r => do
  let f ← m r
  match f with
  | .nx r' => k r'
  | .rt d => pure (.rt d)
  | .bk r' => pure (.bk r')
  | .ct r' => pure (.ct r')
theorem rss_nil : RSs X Γ E [] nxM := PSs.weaken pss_nil fun D σ H ⟨φ, r, S, s, q, p⟩ => p.val (v := FV.nx σ) s (.nx q)
theorem rss_one (h : RS X Γ E st mS) : RSs X Γ E [st] mS := pss_one h
theorem rss_cons (h : RS X Γ E st mS) (hr : RSs X Γ E rest mS') : RSs X Γ E (st :: rest) (seqM mS mS') := by
  refine PSs.weaken (pss_cons h hr) fun D σ H ⟨φ, r, S, s, q, p⟩ => ?_
  refine ⟨φ, r, S, s, q, (Post.bnd (rel := rF X.K) p).imp fun fv H1 ⟨φ1, S1, f, e1, s1, rf, p1⟩ => ?_⟩
  cases rf with
  | nx q1 => exact ⟨φ1, _, S1, s1, q1, p1⟩
  | rt rv => exact p1.val (v := FV.rt _) s1 (.rt rv)
  | bk q1 => exact p1.val (v := FV.bk _) s1 (.bk q1)
  | ct q1 => exact p1.val (v := FV.ct _) s1 (.ct q1)
theorem rs_pass : RS X Γ E (.Pass pos) nxM := PS.weaken ps_pass fun D σ H ⟨φ, r, S, s, q, p⟩ => p.val (v := FV.nx σ) s (.nx q)
theorem rs_never : RS X Γ E st (fun _ => stuck) := PS.weaken ps_never fun D σ H ⟨φ, r, S, s, q, p⟩ => p.elim
theorem rss_never : RSs X Γ E rest (fun _ => stuck) := PSs.weaken pss_never fun D σ H ⟨φ, r, S, s, q, p⟩ => p.elim
def brM : Env → M Fl := fun r => pure (.bk r)
def coM : Env → M Fl := fun r => pure (.ct r)
theorem rs_break : RS X Γ E (.Break pos) brM := PS.weaken ps_break fun D σ H ⟨φ, r, S, s, q, p⟩ => p.val (v := FV.bk σ) s (.bk q)
theorem rs_continue : RS X Γ E (.Continue pos) coM := PS.weaken ps_continue fun D σ H ⟨φ, r, S, s, q, p⟩ => p.val (v := FV.ct σ) s (.ct q)
def dropM (m : Env → M D) : Env → M Fl := fun r => do
  let _ ← m r
  pure (.nx r)
theorem rs_expr (he : RE X Γ E e ma) (hs : swapsWith e none pos.line X.env = pure false := by rfl) : RS X Γ E (.Expr e pos) (dropM ma) := by
  refine PS.weaken (ps_expr he hs) fun D σ H ⟨φ, r, S, s, q, p⟩ => ?_
  exact tE_bnd s q p fun φ1 S1 d v H1 e1 s1 q1 rv p1 => p1.val (v := FV.nx σ) s1 (.nx q1)
def retM (m : Env → M D) : Env → M Fl := fun r => do
  let d ← m r
  pure (.rt d)
theorem rs_ret (he : RE X Γ E e ma) : RS X Γ E (.Return (some e) pos) (retM ma) := by
  refine PS.weaken (ps_ret he) fun D σ H ⟨φ, r, S, s, q, p⟩ => ?_
  exact tE_bnd s q p fun φ1 S1 d v H1 e1 s1 q1 rv p1 => p1.val (v := FV.rt v) s1 (.rt rv)
theorem rs_retN : RS X Γ E (.Return none pos) (fun _ => pure (.rt .non)) := PS.weaken ps_retN fun D σ H ⟨φ, r, S, s, q, p⟩ => p.val (v := FV.rt .non) s (.rt .non)
def ifS (t : Env → M Bool) (x y : Env → M Fl) : Env → M Fl := fun r => do
  let c ← t r
  if c = true then x r else y r
theorem rs_if {c : Expr} {x y : List Stmt} {tA : Env → M Bool} (hc : RT X Γ E c tA) (ha : RSs X Γ E x mS) (hb : RSs X Γ E y mS') : RS X Γ E (.If c x y pos) (ifS tA mS mS') := by
  refine PS.weaken (ps_if hc ha hb) fun D σ H ⟨φ, r, S, s, q, p⟩ => ?_
  refine tT_bnd s q p fun φ1 S1 d H1 e1 s1 q1 p1 => ?_
  cases d with
  | true => exact ⟨φ1, r, S1, s1, q1, p1⟩
  | false => exact ⟨φ1, r, S1, s1, q1, p1⟩

/-! ### targets, stores -/
def gNm (i : Nat) : D → Env → M Env := fun d r => pure (r.set i (some d))
theorem rg_name {i : Nat} {x : Str} (hN : X.N.Nodup) (hi : X.N[i]? = some x) (hx : Loc X.env.scope x) (hf : X.fn x = true ∨ X.env.scope.names.lookup x = some .local := by first | exact .inl rfl | exact .inr rfl | assumption) : RG X Γ E (.Name x pos) (gNm i) :=
  PG.weaken (pg_name hN hi hx hf) fun v σ H Q ⟨φ, r, S, d, s, q, rd, p⟩ => p.val s (q.set i rd)
def asgM (m : Env → M D) (g : D → Env → M Env) : Env → M Fl := fun r => do
  let d ← m r
  let r' ← g d r
  pure (.nx r')
theorem asg_to {K : PySem.W.Frag} {g : D → Env → M Env} {D : Ends} {σ : Sl} {H : Hp} (h : tS K Γ E (asgM ma g) D σ H) : tE K Γ E ma σ H fun x H1 => tGt K Γ E g x σ H1 D.nx := by
  obtain ⟨φ, r, S, s, q, p⟩ := h
  refine tE_bnd s q p fun φ1 S1 d v H1 e1 s1 q1 rv p1 => ?_
  exact ⟨φ1, r, S1, d, s1, q1, rv, (Post.bnd (rel := rEn K) p1).imp fun σ2 H2 ⟨φ2, S2, r2, e2, s2, q2, p2⟩ => p2.val (v := FV.nx σ2) s2 (.nx q2)⟩
theorem rs_asg {tg : Expr} {g : D → Env → M Env} (he : RE X Γ E e ma) (hg : RG X Γ E tg g) (hs : swapsWithSole [tg] e pos.line X.env = pure false := by rfl) (hw : swappedStores [tg] e X.env = pure none := by rfl)
    (h1 : (assignEach [tg] X.env).map (·.2) = [assign tg X.env] := by rfl) : RS X Γ E (.Assign [tg] e pos) (asgM ma g) :=
  PS.weaken (ps_asg he hg hs hw h1) fun D σ H h => asg_to h
theorem gName_of {K : PySem.W.Frag} {i : Nat} {v : V} {σ : Sl} {H : Hp} {Q : Sl → Hp → Prop} (h : tGt K Γ E (gNm i) v σ H Q) : gName i v σ H Q := by
  obtain ⟨φ, r, S, d, s, q, rd, p⟩ := h
  exact p.val s (q.set i rd)
theorem tE_imp {K : PySem.W.Frag} {m : Env → M D} {σ : Sl} {H : Hp} {Q Q' : VK} (h : tE K Γ E m σ H Q) (k : ∀ v H', Q v H' → Q' v H') : tE K Γ E m σ H Q' := by
  obtain ⟨φ, r, S, s, q, p⟩ := h
  exact ⟨φ, r, S, s, q, p.imp k⟩
theorem rs_set {i : Nat} {x : Str} {pos' : Pos} (hN : X.N.Nodup) (hi : X.N[i]? = some x) (hx : Loc X.env.scope x) (he : RE X Γ E e ma) (hs : swapsWith e (some (.Name x pos')) pos.line X.env = pure false := by rfl) (hf : X.fn x = true ∨ X.env.scope.names.lookup x = some .local := by first | exact .inl rfl | exact .inr rfl | assumption) :
    RS X Γ E (.Assign [.Name x pos'] e pos) (asgM ma (gNm i)) :=
  PS.weaken (ps_set hN hi hx he hs hf) fun D σ H h => tE_imp (asg_to h) fun v H' q => gName_of q
/-- a, b = x, y -/
def parM (i j : Nat) (mA : Env → M (List D)) : Env → M Fl := fun r => do
  let ds ← mA r
  match ds with
  | [x, y] => pure (.nx ((r.set i (some x)).set j (some y)))
  | _ => stuck
theorem rs_par {i j : Nat} {x y : Str} {mA : Env → M (List D)} {px py pt : Pos} {kt k2 pt2} (hc : X.calm = true) (hN : X.N.Nodup) (hi : X.N[i]? = some x) (hj : X.N[j]? = some y) (hij : i ≠ j)
    (hx : X.env.scope.names.lookup x = some .local) (hy : X.env.scope.names.lookup y = some .local) (ha : RA X Γ E [a, b] mA)
    (hw : swappedStores [.Tuple [.Name x px, .Name y py] kt pt] (.Tuple [a, b] k2 pt2) X.env = pure (some [x, y]))
    (hs : swapsWithSole [.Tuple [.Name x px, .Name y py] kt pt] (.Tuple [a, b] k2 pt2) pos.line X.env = pure false := by rfl) :
    RS X Γ E (.Assign [.Tuple [.Name x px, .Name y py] kt pt] (.Tuple [a, b] k2 pt2) pos) (parM i j mA) := by
  refine PS.weaken (ps_par hc hN hi hj hij hx hy ha hw hs) fun D σ H ⟨φ, r, S, s, q, p⟩ => ?_
  refine tA_bnd s q p fun φ1 S1 ds vs H1 e1 s1 q1 rv p1 => ?_
  match ds, rv, p1 with
  | [x, y], .cons r1 (.cons r2 .nil), p1 => exact ⟨_, _, rfl, p1.val (v := FV.nx _) s1 (.nx ((q1.set i r1).set j r2))⟩
  | [], _, p1 => exact p1.elim
  | [_], _, p1 => exact p1.elim
  | _ :: _ :: _ :: _, _, p1 => exact p1.elim
abbrev rU : Hp → List Addr → Unit → Unit → Prop := fun _ _ _ _ => True
/-- o[i] = v -/
def SetD (X : Cx) (Γ : Nat → Addr) (E : XK) (op : D → D → D → M Unit) : Prop :=
  PSet X fun o i v H Q => ∃ φ S dO dI dV, Sim X.K Γ φ S H ∧ RelD X.K H φ dO o ∧ RelD X.K H φ dI i ∧ RelD X.K H φ dV v ∧ Post X.K Γ E rU φ H (op dO dI dV S) fun (_ : Unit) H' => Q H'
def gSb (mo mi : Env → M D) (op : D → D → D → M Unit) : D → Env → M Env := fun d r => do
  let o ← mo r
  let i ← mi r
  let _ ← op o i d
  pure r
theorem rg_sub {o i : Expr} {mo mi : Env → M D} {op : D → D → D → M Unit} (ho : RE X Γ E o mo) (hi : RE X Γ E i mi) (hs : SetD X Γ E op)
    (ha : ∀ v, assign (.Subscript o i pos) X.env v = (do
      let ov ← holding [v] (eval o X.env)
      let iv ← holding [v, ov] (eval i X.env)
      standAt pos
      holding [v, ov, iv] (setItem ov iv v)
      release [v, ov, iv] []) := by intro _; rfl) : RG X Γ E (.Subscript o i pos) (gSb mo mi op) := by
  refine PG.weaken (pg_sub ho hi hs ha) fun v σ H Q ⟨φ, r, S, d, s, q, rd, p⟩ => ?_
  refine tE_bnd s q p fun φ1 S1 d1 v1 H1 e1 s1 q1 r1 p1 => ?_
  refine tE_bnd s1 q1 p1 fun φ2 S2 d2 v2 H2 e2 s2 q2 r2 p2 => ?_
  refine ⟨φ2, S2, d1, d2, d, s2, RelD.mono e2 _ _ r1, r2, RelD.mono (e1.trans e2) _ _ rd, ?_⟩
  exact (Post.bnd (rel := rU) p2).imp fun _ H3 ⟨φ3, S3, _, e3, s3, _, p3⟩ => p3.val s3 (q2.mono e3)
def IpD (X : Cx) (Γ : Nat → Addr) (E : XK) (o : Operator) (op : D → D → M D) : Prop :=
  PIp X o fun x y H Q => ∃ φ S dx dy, Sim X.K Γ φ S H ∧ RelD X.K H φ dx x ∧ RelD X.K H φ dy y ∧ Post X.K Γ E (rD X.K) φ H (op dx dy S) Q
def augM (i : Nat) (me : Env → M D) (op : D → D → M D) : Env → M Fl := fun r => do
  let x ← getv i r
  let y ← me r
  let z ← op x y
  pure (.nx (r.set i (some z)))
theorem rs_aug {i : Nat} {x : Str} {o : Operator} {op : D → D → M D} {pos' : Pos} (hN : X.N.Nodup) (hi : X.N[i]? = some x) (hx : Loc X.env.scope x) (he : RE X Γ E e ma) (ho : IpD X Γ E o op) (hf : X.fn x = true ∨ X.env.scope.names.lookup x = some .local := by first | exact .inl rfl | exact .inr rfl | assumption) :
    RS X Γ E (.AugAssign (.Name x pos') o e pos) (augM i ma op) := by
  refine PS.weaken (ps_aug hN hi hx he ho hf) fun D σ H ⟨φ, r, S, s, q, p⟩ => ?_
  have p' := Post.bnd (rel := rD X.K) p
  unfold getv at p'
  cases hr : r[i]? with
  | none => rw [hr] at p'; exact p'.elim
  | some od =>
    cases od with
    | none => rw [hr] at p'; exact p'.elim
    | some d =>
      rw [hr] at p'
      obtain ⟨v, h1, h2⟩ := q.at_ i d hr
      obtain ⟨φ0, S0, d0, e0, s0, rv0, p0⟩ := Post.here p' s h2
      have p1 : Post X.K Γ E (rF X.K) φ H ((getv i r >>= fun x => ma r >>= fun y => op x y >>= fun z => pure (Fl.nx (r.set i (some z)))) S) (endQ D) := p
      rw [bnd_ok (a := d) (S' := S) (by unfold getv; rw [hr])] at p1
      refine ⟨v, h1, ?_⟩
      refine tE_bnd s q p1 fun φ1 S1 d1 v1 H1 e1 s1 q1 r1 p1 => ?_
      refine ⟨φ1, S1, d, d1, s1, RelD.mono e1 _ _ h2, r1, ?_⟩
      exact (Post.bnd (rel := rD X.K) p1).imp fun z H2 ⟨φ2, S2, d2, e2, s2, rz, p2⟩ => p2.val (v := FV.nx _) s2 (.nx ((q1.mono e2).set i rz))
/-- o[i] op= e -/
def GetD (X : Cx) (Γ : Nat → Addr) (E : XK) (op : D → D → M D) : Prop :=
  PGet X fun x y H Q => ∃ φ S dx dy, Sim X.K Γ φ S H ∧ RelD X.K H φ dx x ∧ RelD X.K H φ dy y ∧ Post X.K Γ E (rD X.K) φ H (op dx dy S) Q
def augSM (mo mi me : Env → M D) (get : D → D → M D) (op : D → D → M D) (set : D → D → D → M Unit) : Env → M Fl := fun r => do
  let o ← mo r
  let i ← mi r
  let x ← get o i
  let y ← me r
  let z ← op x y
  let _ ← set o i z
  pure (.nx r)
theorem rs_augS {o i : Expr} {mo mi : Env → M D} {get ip : D → D → M D} {set : D → D → D → M Unit} {op : Operator} {tpos : Pos} (ho : RE X Γ E o mo) (hi : RE X Γ E i mi) (hg : GetD X Γ E get) (he : RE X Γ E e ma) (hp : IpD X Γ E op ip) (hs : SetD X Γ E set)
    (ha : ∀ ov iv new, augStore i ov iv new = (do holding [new, ov, iv] (setItem ov iv new); release [new, ov, iv] []; pure .next) := by intros; rfl) : RS X Γ E (.AugAssign (.Subscript o i tpos) op e pos) (augSM mo mi ma get ip set) := by
  refine PS.weaken (ps_augS ho hi hg he hp hs ha) fun D σ H ⟨φ, r, S, s, q, p⟩ => ?_
  refine tE_bnd s q p fun φ1 S1 d1 v1 H1 e1 s1 q1 r1 p1 => ?_
  refine tE_bnd s1 q1 p1 fun φ2 S2 d2 v2 H2 e2 s2 q2 r2 p2 => ?_
  refine ⟨φ2, S2, d1, d2, s2, RelD.mono e2 _ _ r1, r2, ?_⟩
  refine (Post.bnd (rel := rD X.K) p2).imp fun v3 H3 ⟨φ3, S3, d3, e3, s3, r3, p3⟩ => ?_
  refine tE_bnd s3 (q2.mono e3) p3 fun φ4 S4 d4 v4 H4 e4 s4 q4 r4 p4 => ?_
  refine ⟨φ4, S4, d3, d4, s4, RelD.mono e4 _ _ r3, r4, ?_⟩
  refine (Post.bnd (rel := rD X.K) p4).imp fun v5 H5 ⟨φ5, S5, d5, e5, s5, r5, p5⟩ => ?_
  refine ⟨φ5, S5, d1, d2, d5, s5, RelD.mono (e2.trans (e3.trans (e4.trans e5))) _ _ r1, RelD.mono (e3.trans (e4.trans e5)) _ _ r2, r5, ?_⟩
  exact (Post.bnd (rel := rU) p5).imp fun _ H6 ⟨φ6, S6, _, e6, s6, _, p6⟩ => p6.val (v := FV.nx σ) s6 (.nx (q4.mono (e5.trans e6)))

/-! ### for -/
inductive ItD where
  | tup (xs : List D) | fl (xs : List D) | lst (n : Nat) | rng (lo : Int) (k : Nat) | str (x : Str) | enl (n : Nat) | enf (xs : List D)
/-- at a turn: stuck, or the end, or an item -/
def ItD.at (J : ItD) (i : Nat) (S : Sto) : Option (Option D) :=
  match J with
  | .tup xs => some xs[i]?
  | .fl xs => some xs[i]?
  | .lst n => match S[n]? with
    | some (.lst xs) => some xs[i]?
    | _ => none
  | .rng lo k => some (if i < k then some (.int (lo + i)) else none)
  | .str x => some (x.cps[i]?.map fun c => .str ⟨#[c]⟩)
  | .enl n => match S[n]? with
    | some (.lst xs) => some (xs[i]?.map fun d => .tup [.int (i : Nat), d])
    | _ => none
  | .enf xs => some (xs[i]?.map fun d => .tup [.int (i : Nat), d])
def ItD.size (J : ItD) (S : Sto) : Nat :=
  match J with
  | .tup xs => xs.length
  | .fl xs => xs.length
  | .lst n => match S[n]? with
    | some (.lst xs) => xs.length
    | _ => 0
  | .rng _ k => k
  | .str x => x.cps.size
  | .enl n => match S[n]? with
    | some (.lst xs) => xs.length
    | _ => 0
  | .enf xs => xs.length
inductive rI (K : PySem.W.Frag) (H : Hp) (φ : List Addr) : ItD → It → Prop
  | tup {xs : List D} {a : Addr} {vs : List V} : SqT K H a vs → RelDs K H φ xs vs → rI K H φ (.tup xs) (Itt K a)
  | lst {n : Nat} {a : Addr} : φ[n]? = some a → rI K H φ (.lst n) (Itl K a)
  | fl {xs : List D} {a : Addr} {vs : List V} : FrL K H a vs → RelDs K H φ xs vs → rI K H φ (.fl xs) (Itl K a)
  | rng (lo : Int) (k : Nat) : rI K H φ (.rng lo k) (Itr lo k)
  | str (x : Str) : rI K H φ (.str x) (Its x)
  | enl {n : Nat} {a : Addr} : φ[n]? = some a → rI K H φ (.enl n) (Ite K a)
  | enf {xs : List D} {a : Addr} {vs : List V} : FrL K H a vs → RelDs K H φ xs vs → rI K H φ (.enf xs) (Ite K a)
theorem rI.mono {K : PySem.W.Frag} {H H' : Hp} {φ φ' : List Addr} {J : ItD} {j : It} (e : Ext K φ H φ' H') (h : rI K H φ J j) : rI K H' φ' J j := by
  cases h with
  | tup a b => exact .tup (e.tup _ _ a) (RelDs.mono e _ _ b)
  | lst a => exact .lst (e.get a)
  | fl a b => exact .fl (e.frl _ _ a) (RelDs.mono e _ _ b)
  | rng lo k => exact .rng lo k
  | str x => exact .str x
  | enl a => exact .enl (e.get a)
  | enf a b => exact .enf (e.frl _ _ a) (RelDs.mono e _ _ b)
/-- a list that stands at a place -/
theorem sim_list {K : PySem.W.Frag} {φ : List Addr} {S : Sto} {H : Hp} {n : Nat} {a : Addr} {xs : List D} (s : Sim K Γ φ S H) (hq : φ[n]? = some a) (h : S[n]? = some (.lst xs)) : ∃ vs, H a = some (.lst vs) ∧ RelDs K H φ xs vs := s.obj n _ a h hq
theorem rI.stop {K : PySem.W.Frag} {φ : List Addr} {S : Sto} {H : Hp} {J : ItD} {j : It} {i : Nat} (s : Sim K Γ φ S H) (h : rI K H φ J j) (hi : J.at i S = some none) : j.stop i H := by
  cases h with
  | tup a b =>
    unfold ItD.at at hi
    exact ⟨_, a, by rw [← RelDs.length b]; exact List.getElem?_eq_none_iff.mp (Option.some.inj hi)⟩
  | @lst n a q =>
    unfold ItD.at at hi
    cases hS : S[n]? with
    | none => simp only [hS] at hi; cases hi
    | some o =>
      cases o with
      | lst xs =>
        simp only [hS] at hi
        obtain ⟨vs, h1, h2⟩ := sim_list s q hS
        exact ⟨vs, SqL.of h1, by rw [← RelDs.length h2]; exact List.getElem?_eq_none_iff.mp (Option.some.inj hi)⟩
      | dK _ => simp only [hS] at hi; cases hi
      | dT _ => simp only [hS] at hi; cases hi
      | ins _ _ => simp only [hS] at hi; cases hi
      | exo _ _ => simp only [hS] at hi; cases hi
      | exd _ => simp only [hS] at hi; cases hi
      | dKL _ => simp only [hS] at hi; cases hi
      | dTL _ => simp only [hS] at hi; cases hi
      | xdo _ => simp only [hS] at hi; cases hi
  | fl a b =>
    unfold ItD.at at hi
    exact ⟨_, a.sq, by rw [← RelDs.length b]; exact List.getElem?_eq_none_iff.mp (Option.some.inj hi)⟩
  | rng lo k =>
    unfold ItD.at at hi
    have hi := Option.some.inj hi
    by_cases h : i < k
    · rw [if_pos h] at hi; cases hi
    · exact Nat.le_of_not_lt h
  | str x =>
    unfold ItD.at at hi
    have hi := Option.map_eq_none_iff.mp (Option.some.inj hi)
    exact Nat.le_of_not_lt fun z => by
      rw [Array.getElem?_eq_getElem z] at hi
      cases hi
  | @enl n a q =>
    change (match S[n]? with
      | some (O.lst xs) => some (xs[i]?.map fun d => D.tup [.int (i : Nat), d])
      | _ => none) = _ at hi
    split at hi
    · rename_i xs hS
      obtain ⟨vs, h1, h2⟩ := sim_list s q hS
      exact ⟨vs, SqL.of h1, by rw [← RelDs.length h2]; exact List.getElem?_eq_none_iff.mp (Option.map_eq_none_iff.mp (Option.some.inj hi))⟩
    · cases hi
  | enf a b =>
    unfold ItD.at at hi
    exact ⟨_, a.sq, by rw [← RelDs.length b]; exact List.getElem?_eq_none_iff.mp (Option.map_eq_none_iff.mp (Option.some.inj hi))⟩
theorem enum_pair {K : PySem.W.Frag} {φ : List Addr} {S : Sto} {H H' : Hp} {i : Nat} {d : D} {a : Addr} {vs : List V} {v x : V} (s : Sim K Γ φ S H) (hl : SqL K H a vs) (hv : vs[i]? = some v) (r : RelD K H φ d v) (y : (Ite K a).yld i H x H') :
    Ext K φ H φ H' ∧ Sim K Γ φ S H' ∧ RelD K H' φ (.tup [.int (i : Nat), d]) x := by
  obtain ⟨T, u, rfl, hT, rfl, hu⟩ := y
  have e := hu vs hl
  rw [hv] at e
  cases e
  have ex : Ext K φ H φ (upd H T (.tup [.int (i : Nat), v])) := Ext.new0 hT
  exact ⟨ex, s.hide hT, .tup (.inl (.inl upd_same)) (fun _ => upd_same) (.cons (.int _) (.cons (RelD.mono ex _ _ r) .nil))⟩
theorem stay_go {K : PySem.W.Frag} {φ : List Addr} {S : Sto} {H : Hp} {d : D} {j : It} {i : Nat} (s : Sim K Γ φ S H) (h : j.go i H ∧ ∀ x H', j.yld i H x H' → H' = H ∧ RelD K H φ d x) : j.go i H ∧ ∀ x H', j.yld i H x H' → Ext K φ H φ H' ∧ Sim K Γ φ S H' ∧ RelD K H' φ d x :=
  ⟨h.1, fun x H' y => by
    obtain ⟨rfl, r⟩ := h.2 x H' y
    exact ⟨Ext.refl, s, r⟩⟩
theorem rI.go {K : PySem.W.Frag} {φ : List Addr} {S : Sto} {H : Hp} {J : ItD} {j : It} {i : Nat} {d : D} (s : Sim K Γ φ S H) (h : rI K H φ J j) (hi : J.at i S = some (some d)) : j.go i H ∧ ∀ x H', j.yld i H x H' → Ext K φ H φ H' ∧ Sim K Γ φ S H' ∧ RelD K H' φ d x := by
  cases h with
  | tup a b =>
    refine stay_go s ?_
    unfold ItD.at at hi
    obtain ⟨v, h1, h2⟩ := RelDs.get b (Option.some.inj hi)
    refine ⟨⟨_, v, a, h1⟩, fun x H' ⟨e, y⟩ => ⟨e, ?_⟩⟩
    have := y _ a
    rw [h1] at this
    cases this
    exact h2
  | @lst n a q =>
    refine stay_go s ?_
    unfold ItD.at at hi
    have key : ∀ xs, S[n]? = some (.lst xs) → xs[i]? = some d → (Itl K a).go i H ∧ ∀ x H', (Itl K a).yld i H x H' → H' = H ∧ RelD K H φ d x := fun xs hS hx => by
      obtain ⟨vs, h1, h2⟩ := sim_list s q hS
      obtain ⟨v, h3, h4⟩ := RelDs.get h2 hx
      refine ⟨⟨vs, v, SqL.of h1, h3⟩, fun x H' ⟨e, y⟩ => ⟨e, ?_⟩⟩
      have := y _ (SqL.of h1)
      rw [h3] at this
      cases this
      exact h4
    cases hS : S[n]? with
    | none => simp only [hS] at hi; cases hi
    | some o =>
      cases o with
      | lst xs => simp only [hS] at hi; exact key xs hS (Option.some.inj hi)
      | dK _ => simp only [hS] at hi; cases hi
      | dT _ => simp only [hS] at hi; cases hi
      | ins _ _ => simp only [hS] at hi; cases hi
      | exo _ _ => simp only [hS] at hi; cases hi
      | exd _ => simp only [hS] at hi; cases hi
      | dKL _ => simp only [hS] at hi; cases hi
      | dTL _ => simp only [hS] at hi; cases hi
      | xdo _ => simp only [hS] at hi; cases hi
  | fl a b =>
    refine stay_go s ?_
    unfold ItD.at at hi
    obtain ⟨v, h1, h2⟩ := RelDs.get b (Option.some.inj hi)
    refine ⟨⟨_, v, a.sq, h1⟩, fun x H' ⟨e, y⟩ => ⟨e, ?_⟩⟩
    have := y _ a.sq
    rw [h1] at this
    cases this
    exact h2
  | rng lo k =>
    refine stay_go s ?_
    unfold ItD.at at hi
    have hi := Option.some.inj hi
    by_cases h : i < k
    · rw [if_pos h] at hi
      cases hi
      refine ⟨h, fun x H' ⟨e, y⟩ => ⟨e, ?_⟩⟩
      rw [y]
      exact .int _
    · rw [if_neg h] at hi; cases hi
  | str x =>
    refine stay_go s ?_
    unfold ItD.at at hi
    obtain ⟨c, hc, rfl⟩ := Option.map_eq_some_iff.mp (Option.some.inj hi)
    refine ⟨(Array.getElem?_eq_some_iff.mp hc).1, fun y H' ⟨e, c', hc', z⟩ => ⟨e, ?_⟩⟩
    rw [hc] at hc'
    cases hc'
    subst z
    exact .str _
  | @enl n a q =>
    change (match S[n]? with
      | some (O.lst xs) => some (xs[i]?.map fun d => D.tup [.int (i : Nat), d])
      | _ => none) = _ at hi
    split at hi
    · rename_i xs hS
      obtain ⟨d0, hx, rfl⟩ := Option.map_eq_some_iff.mp (Option.some.inj hi)
      obtain ⟨vs, h1, h2⟩ := sim_list s q hS
      obtain ⟨v, h3, h4⟩ := RelDs.get h2 hx
      exact ⟨⟨vs, v, SqL.of h1, h3⟩, fun x H' y => enum_pair s (SqL.of h1) h3 h4 y⟩
    · cases hi
  | enf a b =>
    unfold ItD.at at hi
    obtain ⟨d0, hx, rfl⟩ := Option.map_eq_some_iff.mp (Option.some.inj hi)
    obtain ⟨v, h3, h4⟩ := RelDs.get b hx
    exact ⟨⟨_, v, a.sq, h3⟩, fun x H' y => enum_pair s a.sq h3 h4 y⟩
def tIt (K : PySem.W.Frag) (Γ : Nat → Addr) (E : XK) (m : Env → M ItD) : TI := fun σ H R => ∃ φ r S, Sim K Γ φ S H ∧ RelE K H φ r σ ∧ Post K Γ E (fun H φ => rI K H φ) φ H (m r S) R
abbrev RI (X : Cx) (Γ : Nat → Addr) (E : XK) (tg iter : Expr) (m : Env → M ItD) : Prop := PI X tg iter (tIt X.K Γ E m)
theorem PI.weaken {tg iter : Expr} {t t' : TI} (h : PI X tg iter t) (k : ∀ σ H R, t' σ H R → t σ H R) : PI X tg iter t' := ⟨fun pins s σ H R I q => h.run pins s σ H R I (k σ H R q)⟩
def forN (g : D → Env → M Env) (body : Env → M Fl) (J : ItD) : Nat → Nat → Env → M Fl
  | n, i, r => fun S => match J.at i S with
    | none => .no
    | some none => .ok (.nx r) S
    | some (some d) => match n with
      | 0 => .no
      | n + 1 => (do
        let r1 ← g d r
        let f ← body r1
        match f with
        | .nx r2 => forN g body J n (i + 1) r2
        | .ct r2 => forN g body J n (i + 1) r2
        | .bk r2 => pure (.nx r2)
        | .rt d => pure (.rt d)) S
def forM_ (mi : Env → M ItD) (g : D → Env → M Env) (body : Env → M Fl) : Env → M Fl := fun r => do
  let J ← mi r
  fun S => forN g body J (J.size S) 0 r S
theorem rs_for {tg iter : Expr} {body : List Stmt} {mi : Env → M ItD} {g : D → Env → M Env} (hp : PassesOwn (model X.prog X.w) X.A X.env X.xe) (hc : X.calm = true) (hi : RI X Γ E tg iter mi) (hg : RG X Γ E tg g) (hb : RSs X Γ E body mS)
    (hs : ∀ x, foldedSetIterable iter X.env x = pure x := by intro _; rfl) : RS X Γ E (.For tg iter body [] pos) (forM_ mi g mS) := by
  refine PS.weaken (ps_for hp hc hi hg hb hs) fun D σ H ⟨φ, r, S, s, q, p⟩ => ?_
  refine ⟨φ, r, S, s, q, (Post.bnd (rel := fun H φ => rI X.K H φ) p).imp fun j H1 ⟨φ1, S1, J, e1, s1, rj, p1⟩ => ?_⟩
  refine ⟨fun i m σ H => ∃ φ r S, Sim X.K Γ φ S H ∧ RelE X.K H φ r σ ∧ rI X.K H φ J j ∧ Post X.K Γ E (rF X.K) φ H (forN g mS J m i r S) (endQ D), ⟨J.size S1, φ1, r, S1, s1, q.mono e1, rj, p1⟩, ?_⟩
  rintro i m σ2 H2 ⟨φ2, r2, S2, s2, q2, rj2, p2⟩
  unfold forN at p2
  cases hJ : J.at i S2 with
  | none => simp only [hJ] at p2; exact p2.elim
  | some o =>
    cases o with
    | none =>
      simp only [hJ] at p2
      exact .inl ⟨rI.stop s2 rj2 hJ, p2.here (v := FV.nx σ2) s2 (.nx q2)⟩
    | some d =>
      simp only [hJ] at p2
      obtain ⟨go, yl⟩ := rI.go s2 rj2 hJ
      cases m with
      | zero => exact p2.elim
      | succ m =>
        simp only [] at p2
        refine .inr ⟨go, fun σ' H' => ∃ φ r S, Sim X.K Γ φ S H' ∧ RelE X.K H' φ r σ' ∧ rI X.K H' φ J j ∧ Post X.K Γ E (rF X.K) φ H' (forN g mS J m (i + 1) r S) (endQ D), fun σ' H' h => ⟨m, Nat.lt_succ_self _, h⟩, fun x H' hy => ?_⟩
        obtain ⟨ey, sy, rx⟩ := yl x H' hy
        have rj2 := rj2.mono ey
        refine ⟨φ2, r2, S2, d, sy, q2.mono ey, rx, (Post.bnd (rel := rEn X.K) (p2.mono ey)).imp fun σ3 H3 ⟨φ3, S3, r3, e3, s3, q3, p3⟩ => ?_⟩
        refine ⟨φ3, r3, S3, s3, q3, (Post.bnd (rel := rF X.K) p3).imp fun fv H4 ⟨φ4, S4, f, e4, s4, rf, p4⟩ => ?_⟩
        cases rf with
        | nx q4 => exact ⟨φ4, _, S4, s4, q4, rj2.mono (e3.trans e4), p4⟩
        | ct q4 => exact ⟨φ4, _, S4, s4, q4, rj2.mono (e3.trans e4), p4⟩
        | bk q4 => exact p4.val (v := FV.nx _) s4 (.nx q4)
        | rt rv => exact p4.val (v := FV.rt _) s4 (.rt rv)
/-- what is walked: a list, a tuple, a range -/
def itSeq (m : Env → M D) : Env → M ItD := fun r => do
  let d ← m r
  match d with
  | .ref n => fun S => match S[n]? with
    | some (.lst _) => .ok (.lst n) S
    | _ => .no
  | .fl xs => pure (.fl xs)
  | _ => stuck
def itTup (m : Env → M D) : Env → M ItD := fun r => do
  let d ← m r
  match d with
  | .tup xs => pure (.tup xs)
  | _ => stuck
theorem ri_lst {tg l : Expr} (h : RE X Γ E l ma) : RI X Γ E tg l (itSeq ma) := by
  refine PI.weaken (pi_list h) fun σ H R ⟨φ, r, S, s, q, p⟩ => ?_
  refine tE_bnd s q p fun φ1 S1 d v H1 e1 s1 q1 rv p1 => ?_
  cases d with
  | ref n =>
    cases rv with
    | ref hq =>
      simp only [] at p1
      cases hS : S1[n]? with
      | none => simp only [hS] at p1; exact p1.elim
      | some o =>
        cases o with
        | lst xs =>
          simp only [hS] at p1
          obtain ⟨vs, h1, _⟩ := sim_list s1 hq hS
          exact ⟨_, rfl, ⟨vs, SqL.of h1⟩, p1.here s1 (.lst hq)⟩
        | dK _ => simp only [hS] at p1; exact p1.elim
        | dT _ => simp only [hS] at p1; exact p1.elim
        | ins _ _ => simp only [hS] at p1; exact p1.elim
        | exo _ _ => simp only [hS] at p1; exact p1.elim
        | exd _ => simp only [hS] at p1; exact p1.elim
        | dKL _ => simp only [hS] at p1; exact p1.elim
        | dTL _ => simp only [hS] at p1; exact p1.elim
        | xdo _ => simp only [hS] at p1; exact p1.elim
  | fl xs =>
    cases rv with
    | fl hF hr => exact ⟨_, rfl, ⟨_, hF.sq⟩, p1.val s1 (.fl hF hr)⟩
  | _ => exact p1.elim
theorem ri_tup {tg l : Expr} (h : RE X Γ E l ma) : RI X Γ E tg l (itTup ma) := by
  refine PI.weaken (pi_tup h) fun σ H R ⟨φ, r, S, s, q, p⟩ => ?_
  refine tE_bnd s q p fun φ1 S1 d v H1 e1 s1 q1 rv p1 => ?_
  cases d with
  | tup xs =>
    cases rv with
    | tup hT hx hr => exact ⟨_, rfl, ⟨_, hT⟩, p1.val s1 (.tup hT hr)⟩
  | _ => exact p1.elim
def itRng1 (mA : Env → M (List D)) : Env → M ItD := fun r => do
  let ds ← mA r
  match ds with
  | [.int j] => if -(2 ^ 62) ≤ j ∧ j < 2 ^ 62 then pure (.rng 0 j.toNat) else stuck
  | _ => stuck
def itRng2 (mA : Env → M (List D)) : Env → M ItD := fun r => do
  let ds ← mA r
  match ds with
  | [.int i, .int j] => if -(2 ^ 62) ≤ i ∧ i < 2 ^ 62 ∧ -(2 ^ 62) ≤ j ∧ j < 2 ^ 62 then pure (.rng i (j - i).toNat) else stuck
  | _ => stuck
theorem ri_rng1 {tg a : Expr} {mA : Env → M (List D)} {p : Pos} (hg : Gl X "range") (hm : X.mg "range" = none) (ha : RA X Γ E [a] mA) (hs : starEach [a] X.env = [(false, eval a X.env)] := by rfl) : RI X Γ E tg (.Call (.Name "range" p) [a] [] pos) (itRng1 mA) := by
  refine PI.weaken (pi_range1 hg hm ha hs) fun σ H R ⟨φ, r, S, s, q, p⟩ => ?_
  refine tA_bnd s q p fun φ1 S1 ds vs H1 e1 s1 q1 rv p1 => ?_
  match ds, rv, p1 with
  | [.int j], .cons (.int _) .nil, p1 =>
    obtain ⟨⟨h1, h2⟩, p2⟩ := Post.ite p1
    exact ⟨j, rfl, h1, h2, p2.val s1 (.rng 0 _)⟩
theorem ri_rng2 {tg a b : Expr} {mA : Env → M (List D)} {p : Pos} (hg : Gl X "range") (hm : X.mg "range" = none) (ha : RA X Γ E [a, b] mA) (hs : starEach [a, b] X.env = [(false, eval a X.env), (false, eval b X.env)] := by rfl) (hs2 : starEach [b] X.env = [(false, eval b X.env)] := by rfl) :
    RI X Γ E tg (.Call (.Name "range" p) [a, b] [] pos) (itRng2 mA) := by
  refine PI.weaken (pi_range2 hg hm ha hs hs2) fun σ H R ⟨φ, r, S, s, q, p⟩ => ?_
  refine tA_bnd s q p fun φ1 S1 ds vs H1 e1 s1 q1 rv p1 => ?_
  match ds, rv, p1 with
  | [.int i, .int j], .cons (.int _) (.cons (.int _) .nil), p1 =>
    obtain ⟨h1, p2⟩ := Post.ite p1
    exact ⟨i, j, rfl, h1, p2.val s1 (.rng i _)⟩
end

open PySem PySem.Spec PyProof.Rows L2

/-! ### slots wiped -/
theorem wipe_get (σ : Sl) : ∀ (vs : List Nat) (k : Nat), (wipe σ vs)[k]? = if k ∈ vs then (if k < σ.length then some none else none) else σ[k]?
  | [], k => by simp [wipe]
  | v :: vs, k => by
    unfold L2.wipe
    by_cases hk : v = k
    · subst hk
      have hm : v ∈ v :: vs := List.mem_cons_self
      rw [if_pos hm]
      by_cases hl : v < σ.length
      · rw [if_pos hl, List.getElem?_set_self (by rw [wipe_length]; exact hl)]
      · rw [if_neg hl, List.getElem?_eq_none (by simpa [wipe_length] using hl)]
    · rw [List.getElem?_set_ne hk, wipe_get σ vs k]
      have hm : k ∈ v :: vs ↔ k ∈ vs := by
        rw [List.mem_cons]
        exact ⟨fun h => h.elim (fun z => absurd z.symm hk) id, .inr⟩
      by_cases h : k ∈ vs
      · rw [if_pos h, if_pos (hm.mpr h)]
      · rw [if_neg h, if_neg (fun z => h (hm.mp z))]
theorem wipe_set {σ : Sl} {vs : List Nat} {i : Nat} (h : i ∈ vs) (v : Option V) : wipe (σ.set i v) vs = wipe σ vs := by
  apply List.ext_getElem?
  intro k
  rw [wipe_get, wipe_get, List.length_set]
  by_cases hk : k ∈ vs
  · rw [if_pos hk, if_pos hk]
  · rw [if_neg hk, if_neg hk, List.getElem?_set_ne (fun z => hk (by rw [← z]; exact h))]
theorem wipe_wipe (σ : Sl) (vs : List Nat) : wipe (wipe σ vs) vs = wipe σ vs := by
  apply List.ext_getElem?
  intro k
  rw [wipe_get, wipe_length]
  by_cases hk : k ∈ vs
  · rw [if_pos hk, wipe_get, if_pos hk]
  · rw [if_neg hk]

/-- a comprehension's target: only its own slots are written -/
def tGc (K : PySem.W.Frag) (Γ : Nat → Addr) (E : XK) (vs : List Nat) (g : D → Env → M Env) : TG := fun v σ H Q => ∃ φ r S d, Sim K Γ φ S H ∧ RelE K H φ r σ ∧ RelD K H φ d v ∧ Post K Γ E (fun H φ r' σ' => RelE K H φ r' σ' ∧ wipe σ' vs = wipe σ vs) φ H (g d r S) Q
def setAll : Env → List Nat → List D → Env
  | r, i :: is, d :: ds => setAll (r.set i (some d)) is ds
  | r, _, _ => r
def gTp (is : List Nat) : D → Env → M Env := fun d r => match d with
  | .tup ds => if ds.length = is.length then pure (setAll r is ds) else stuck
  | _ => stuck
def gNms : List Nat → TGs
  | [] => gNil
  | i :: is => gCons (gName i) (gNms is)
section
variable {X : Cx} {Γ : Nat → Addr} {E : XK} {a b c e elt : Expr} {es : List Expr} {ma mb mc me : Env → M D} {pos : Pos} {st : Stmt} {rest : List Stmt} {mS mS' : Env → M Fl}
theorem nms_of {K : PySem.W.Frag} {H : Hp} {φ : List Addr} {vs0 : List Nat} {Q : Sl → Hp → Prop} : ∀ {is : List Nat} {ds : List D} {vs : List V} {r : Env} {σ : Sl}, RelE K H φ r σ → RelDs K H φ ds vs → ds.length = is.length → (∀ i ∈ is, i ∈ vs0) →
    (∀ σ', RelE K H φ (setAll r is ds) σ' → wipe σ' vs0 = wipe σ vs0 → Q σ' H) → gNms is vs σ H Q
  | [], [], _, r, σ, q, .nil, _, _, k => ⟨rfl, k σ q rfl⟩
  | i :: is, d :: ds, _, r, σ, q, .cons rv rvs, hl, hi, k => ⟨_, _, rfl, nms_of (vs0 := vs0) (q.set i rv) rvs (by simpa using hl) (fun j hj => hi j (List.mem_cons_of_mem _ hj)) fun σ' q' w' => k σ' q' (by rw [w', wipe_set (hi i List.mem_cons_self)])⟩
theorem cg_name {i : Nat} {x : Str} (hN : X.N.Nodup) (hi : X.N[i]? = some x) (hx : Loc X.env.scope x) (hf : X.fn x = true ∨ X.env.scope.names.lookup x = some .local := by first | exact .inl rfl | exact .inr rfl | assumption) : PG X (.Name x pos) (tGc X.K Γ E [i] (gNm i)) :=
  PG.weaken (pg_name hN hi hx hf) fun v σ H Q ⟨φ, r, S, d, s, q, rd, p⟩ => p.val s ⟨q.set i rd, wipe_set (by simp) _⟩
theorem cg_tup {is : List Nat} {k : Nat} (hc : X.calm = true) (h : PGs X es (gNms is)) (hn : (assignEach es X.env).length = is.length := by rfl) (hst : (assignEach es X.env).findIdx? (·.1) = none := by rfl) : PG X (.Tuple es k pos) (tGc X.K Γ E is (gTp is)) := by
  refine PG.weaken (pg_tup hc h hn hst) fun v σ H Q ⟨φ, r, S, d, s, q, rd, p⟩ => ?_
  cases d with
  | tup ds =>
    cases rd with
    | tup hT hx hr =>
      obtain ⟨hl, p2⟩ := Post.ite p
      exact ⟨_, _, rfl, hT, by rw [← RelDs.length hr]; exact hl, nms_of (vs0 := is) q hr hl (fun _ z => z) fun σ' q' w => p2.val s ⟨q', w⟩⟩
  | _ => exact p.elim
theorem rg_tup {is : List Nat} {k : Nat} (hc : X.calm = true) (h : PGs X es (gNms is)) (hn : (assignEach es X.env).length = is.length := by rfl) (hst : (assignEach es X.env).findIdx? (·.1) = none := by rfl) : RG X Γ E (.Tuple es k pos) (gTp is) := by
  refine PG.weaken (pg_tup hc h hn hst) fun v σ H Q ⟨φ, r, S, d, s, q, rd, p⟩ => ?_
  cases d with
  | tup ds =>
    cases rd with
    | tup hT hx hr =>
      obtain ⟨hl, p2⟩ := Post.ite p
      exact ⟨_, _, rfl, hT, by rw [← RelDs.length hr]; exact hl, nms_of (vs0 := is) q hr hl (fun _ z => z) fun σ' q' w => p2.val s q'⟩
  | _ => exact p.elim

/-! ### list comprehensions -/
def compN (g : D → Env → M Env) (tst : Env → M Bool) (el : Env → M D) (J : ItD) (r0 : Env) : Nat → Nat → List D → M (List D)
  | n, i, acc => fun S => match J.at i S with
    | none => .no
    | some none => .ok acc S
    | some (some d) => match n with
      | 0 => .no
      | n + 1 => (do
        let r1 ← g d r0
        let c ← tst r1
        if c = true then (do
          let y ← el r1
          if acc.length < sizeLine then compN g tst el J r0 n (i + 1) (acc ++ [y]) else stuck)
        else compN g tst el J r0 n (i + 1) acc) S
def lcM (own : List Nat) (mi : Env → M ItD) (g : D → Env → M Env) (tst : Env → M Bool) (el : Env → M D) : Env → M D := fun r => do
  let J ← mi r
  let acc ← (fun S => compN g tst el J (wipeE r own) (J.size S) 0 [] S)
  newO (.lst acc)
def compB (g : D → Env → M Env) (tst : Env → M Bool) (el : Env → M D) (J : ItD) (r0 : Env) (n i : Nat) (acc : List D) (d : D) : M (List D) := do
  let r1 ← g d r0
  let c ← tst r1
  if c = true then (do
    let y ← el r1
    if acc.length < sizeLine then compN g tst el J r0 n (i + 1) (acc ++ [y]) else stuck)
  else compN g tst el J r0 n (i + 1) acc
theorem compN_stuck {g : D → Env → M Env} {tst : Env → M Bool} {el : Env → M D} {J : ItD} {r0 : Env} {n i : Nat} {acc : List D} {S : Sto} (h : J.at i S = none) : compN g tst el J r0 n i acc S = .no := by
  cases n <;> (unfold compN; rw [h])
theorem compN_end {g : D → Env → M Env} {tst : Env → M Bool} {el : Env → M D} {J : ItD} {r0 : Env} {n i : Nat} {acc : List D} {S : Sto} (h : J.at i S = some none) : compN g tst el J r0 n i acc S = .ok acc S := by
  cases n <;> (unfold compN; rw [h])
theorem compN_zero {g : D → Env → M Env} {tst : Env → M Bool} {el : Env → M D} {J : ItD} {r0 : Env} {i : Nat} {acc : List D} {S : Sto} {d : D} (h : J.at i S = some (some d)) : compN g tst el J r0 0 i acc S = .no := by
  unfold compN; rw [h]
theorem compN_item {g : D → Env → M Env} {tst : Env → M Bool} {el : Env → M D} {J : ItD} {r0 : Env} {n i : Nat} {acc : List D} {S : Sto} {d : D} (h : J.at i S = some (some d)) : compN g tst el J r0 (n + 1) i acc S = compB g tst el J r0 n i acc d S := by
  rw [compN]
  simp only [h]
  rfl
theorem bnd_congr {α β : Type} {m m' : M α} {f : α → M β} {S : Sto} (h : m S = m' S) : (m >>= f) S = (m' >>= f) S := by
  rw [bind_def, bind_def, h]
theorem bnd_assoc {α β γ : Type} {m : M α} {f : α → M β} {g : β → M γ} {S : Sto} : ((m >>= f) >>= g) S = (m >>= fun a => f a >>= g) S := by
  simp only [bind_def]
  cases m S <;> rfl
abbrev RTs (X : Cx) (Γ : Nat → Addr) (E : XK) (ifs : List Expr) (m : Env → M Bool) : Prop := PTs X ifs (tT X.K Γ E m)
def yesM : Env → M Bool := fun _ => pure true
theorem rts_nil : RTs X Γ E [] yesM := ⟨fun pins s σ H Q I ⟨φ, r, S, sm, q, p⟩ => pts_nil.run pins s σ H Q I (p.val (v := true) sm rfl)⟩
theorem rts_one {t : Env → M Bool} (h : RT X Γ E c t) : RTs X Γ E [c] t := pts_one h
theorem lc_to {K : PySem.W.Frag} {own : List Nat} {mi : Env → M ItD} {g : D → Env → M Env} {tst : Env → M Bool} {el : Env → M D} {σ : Sl} {H : Hp} {Q : VK} (h : tE K Γ E (lcM own mi g tst el) σ H Q) :
    tLc (tIt K Γ E mi) (tGc K Γ E own g) (tT K Γ E tst) (tE K Γ E el) own σ H Q := by
  obtain ⟨φ, r, S, s, q, p⟩ := h
  refine ⟨φ, r, S, s, q, (Post.bnd (rel := fun H φ => rI K H φ) p).imp fun j H1 ⟨φ1, S1, J, e1, s1, rj, p1⟩ => ?_⟩
  intro D hD
  have q1 := q.mono e1
  refine ⟨fun i m H => ∃ φ S acc vacc, Ext K φ1 H1 φ H ∧ Sim K Γ φ S H ∧ D ∉ φ ∧ H D = some (.lst vacc) ∧ RelDs K H φ acc vacc ∧ rI K H φ J j ∧ RelE K H φ (wipeE r own) (wipe σ own) ∧
    Post K Γ E (rD K) φ1 H1 ((compN g tst el J (wipeE r own) m i acc >>= fun acc => newO (.lst acc)) S) Q, ⟨J.size S1, φ1, S1, [], [], Ext.new0 hD, s1.hide hD, s1.fresh hD, upd_same, .nil, rj.mono (Ext.new0 hD), (q1.mono (Ext.new0 hD)).wipe own, p1⟩, ?_⟩
  rintro i m H2 ⟨φ2, S2, acc, vacc, e2, s2, n2, hD2, ra, rj2, q2, p2⟩
  cases hJ : J.at i S2 with
  | none =>
    rw [bnd_congr (m' := stuck) (compN_stuck hJ)] at p2
    exact p2.elim
  | some o =>
    cases o with
    | none =>
      rw [bnd_ok (compN_end hJ)] at p2
      refine .inl ⟨rI.stop s2 rj2 hJ, ?_⟩
      have gr : Gr K φ2 H2 (φ2 ++ [D]) H2 := ⟨.refl, [D], rfl⟩
      refine p2 (φ2 ++ [D]) H2 (.ref D) ?_ (s2.unhide n2 ⟨vacc, hD2, RelDs.mono0 gr _ _ ra⟩ (.inl gr)) (.ref (by rw [← s2.len, List.getElem?_append_right (Nat.le_refl _)]; simp))
      refine ⟨⟨e2.toKp, ?_⟩, fun b u hb nb => ?_, e2.old⟩
      · obtain ⟨t, ht⟩ := e2.pre
        exact ⟨t ++ [D], by rw [ht, List.append_assoc]⟩
      · obtain ⟨h1, h2⟩ := e2.hid b u hb nb
        refine ⟨h1, fun z => ?_⟩
        rcases List.mem_append.mp z with z | z
        · exact h2 z
        · have zz : b = D := by simpa using z
          rw [zz, hD] at hb
          cases hb
    | some d =>
      obtain ⟨go, yl⟩ := rI.go s2 rj2 hJ
      cases m with
      | zero =>
        rw [bnd_congr (m' := stuck) (compN_zero hJ)] at p2
        exact p2.elim
      | succ m =>
        rw [bnd_congr (compN_item hJ), compB, bnd_assoc] at p2
        refine .inr ⟨go, fun H => ∃ φ S acc vacc, Ext K φ1 H1 φ H ∧ Sim K Γ φ S H ∧ D ∉ φ ∧ H D = some (.lst vacc) ∧ RelDs K H φ acc vacc ∧ rI K H φ J j ∧ RelE K H φ (wipeE r own) (wipe σ own) ∧
          Post K Γ E (rD K) φ1 H1 ((compN g tst el J (wipeE r own) m (i + 1) acc >>= fun acc => newO (.lst acc)) S) Q, fun H' h => ⟨m, Nat.lt_succ_self _, h⟩, fun x H' hy => ?_⟩
        obtain ⟨ey, s2, rx⟩ := yl x H' hy
        obtain ⟨hD2, n2⟩ := ey.hid D _ hD2 n2
        have e2 := e2.trans ey
        have ra := RelDs.mono ey _ _ ra
        have rj2 := rj2.mono ey
        have q2 := q2.mono ey
        refine ⟨φ2, wipeE r own, S2, d, s2, q2, rx, (Post.bnd0 (rel := fun H φ r' σ' => RelE K H φ r' σ' ∧ wipe σ' own = wipe (wipe σ own) own) e2 p2).imp fun σ3 H3 ⟨φ3, S3, r3, e3, s3, ⟨q3, w3⟩, p4⟩ => ?_⟩
        rw [bnd_assoc] at p4
        refine ⟨by rw [w3, wipe_wipe], φ3, r3, S3, s3, q3, (Post.bnd0 (rel := rB) (e2.trans e3) p4).imp fun b H4 ⟨φ4, S4, c, e4, s4, rc, p5⟩ => ?_⟩
        cases rc
        cases b with
        | false =>
          rw [if_neg Bool.false_ne_true] at p5 ⊢
          have e24 := e3.trans e4
          obtain ⟨hD4, n4⟩ := e24.hid D _ hD2 n2
          exact ⟨φ4, S4, acc, vacc, e2.trans e24, s4, n4, hD4, RelDs.mono e24 _ _ ra, rj2.mono e24, q2.mono e24, p5⟩
        | true =>
          rw [if_pos rfl] at p5 ⊢
          rw [bnd_assoc] at p5
          refine ⟨φ4, r3, S4, s4, q3.mono e4, (Post.bnd0 (rel := rD K) (e2.trans (e3.trans e4)) p5).imp fun y H5 ⟨φ5, S5, dy, e5, s5, ry, p8⟩ => ?_⟩
          have e25 := e3.trans (e4.trans e5)
          obtain ⟨hD5, n5⟩ := e25.hid D _ hD2 n2
          by_cases hz : acc.length < sizeLine
          · rw [if_pos hz] at p8
            have mu : Mut (H5 D) := by rw [hD5]; trivial
            obtain ⟨s6, kD⟩ := s5.hid (ho := .lst (vacc ++ [y])) n5 mu
            have kk : Kp K H5 (upd H5 D (.lst (vacc ++ [y]))) := .mut mu
            have gr : Gr K φ5 H5 φ5 (upd H5 D (.lst (vacc ++ [y]))) := ⟨kk, [], by simp⟩
            have rj5 := rj2.mono e25
            have q5 := q2.mono e25
            refine ⟨vacc, hD5, by rw [← RelDs.length ra]; exact hz, φ5, S5, acc ++ [dy], vacc ++ [y], ?_, s6, n5, upd_same, RelDs.app (RelDs.mono0 gr _ _ (RelDs.mono e25 _ _ ra)) (.cons (kD _ _ ry) .nil), ?_, ?_, p8⟩
            · have e15 := e2.trans e25
              refine ⟨⟨e15.toKp.trans kk, e15.pre⟩, fun b u hb nb => ?_, old_upd e15.old⟩
              obtain ⟨h1, h2⟩ := e15.hid b u hb nb
              have ne : b ≠ D := fun z => by rw [z, hD] at hb; cases hb
              rw [upd_ne ne]
              exact ⟨h1, h2⟩
            · cases rj5 with
              | tup x y => exact .tup (kk.tup _ _ x) (RelDs.mono0 gr _ _ y)
              | lst x => exact .lst x
              | fl x y => exact .fl (kk.frl _ _ x) (RelDs.mono0 gr _ _ y)
              | rng lo k => exact .rng lo k
              | str x => exact .str x
              | enl x => exact .enl x
              | enf x y => exact .enf (kk.frl _ _ x) (RelDs.mono0 gr _ _ y)
            · exact ⟨q5.len, fun i d h => let ⟨v, h1, h2⟩ := q5.at_ i d h; ⟨v, h1, kD _ _ h2⟩⟩
          · rw [if_neg hz] at p8
            exact p8.elim
theorem re_lc {tg iter : Expr} {ifs : List Expr} {scope : Scope} {own : List (Str × Nat)} {mi : Env → M ItD} {g : D → Env → M Env} {tst : Env → M Bool} (hc : X.calm = true) (hN : X.N.Nodup) (hi : RI X Γ E tg iter mi) (ok : BlkOk X.N X.env.scope scope own)
    (hg : ∀ (s : Shared) (H : Hp) (C : Addr) (cl : List (Str × Addr)) (fp : List Addr), PG (X.blk s H scope (compEnvC scope cl C X.env) fp) tg (tGc X.K Γ E (own.map (·.2)) g))
    (ht : ∀ (s : Shared) (H : Hp) (C : Addr) (cl : List (Str × Addr)) (fp : List Addr), RTs (X.blk s H scope (compEnvC scope cl C X.env) fp) Γ E ifs tst)
    (he : ∀ (s : Shared) (H : Hp) (C : Addr) (cl : List (Str × Addr)) (fp : List Addr), RE (X.blk s H scope (compEnvC scope cl C X.env) fp) Γ E elt me) (hs : ∀ x, foldedSetIterable iter X.env x = pure x := by intro _; rfl) :
    RE X Γ E (.ListComp elt [⟨tg, iter, ifs, 0⟩] scope pos) (lcM (own.map (·.2)) mi g tst me) :=
  PE.weaken (pe_lc hc hN hi ok hg ht he hs) fun σ H Q h => lc_to h
theorem rs_setLc {i : Nat} {y : Str} {py spos : Pos} {tg iter : Expr} {ifs : List Expr} {scope : Scope} {own : List (Str × Nat)} {mi : Env → M ItD} {g : D → Env → M Env} {tst : Env → M Bool} (hc : X.calm = true) (hN : X.N.Nodup) (hy : X.N[i]? = some y) (hyl : X.env.scope.names.lookup y = some .local)
    (hsw : swapsWith (.ListComp elt [⟨tg, iter, ifs, 0⟩] scope pos) (some (.Name y py)) spos.line X.env = pure true) (hi : RI X Γ E tg iter mi) (ok : BlkOk X.N X.env.scope scope own)
    (hg : ∀ (s : Shared) (H : Hp) (C : Addr) (cl : List (Str × Addr)) (fp : List Addr), PG (X.blk s H scope (compEnvC scope cl C X.env) fp) tg (tGc X.K Γ E (own.map (·.2)) g))
    (ht : ∀ (s : Shared) (H : Hp) (C : Addr) (cl : List (Str × Addr)) (fp : List Addr), RTs (X.blk s H scope (compEnvC scope cl C X.env) fp) Γ E ifs tst)
    (he : ∀ (s : Shared) (H : Hp) (C : Addr) (cl : List (Str × Addr)) (fp : List Addr), RE (X.blk s H scope (compEnvC scope cl C X.env) fp) Γ E elt me) (hs : ∀ x, foldedSetIterable iter X.env x = pure x := by intro _; rfl) :
    RS X Γ E (.Assign [.Name y py] (.ListComp elt [⟨tg, iter, ifs, 0⟩] scope pos) spos) (asgM (lcM (own.map (·.2)) mi g tst me) (gNm i)) := by
  refine PS.weaken (ps_setLc (tt := tT X.K Γ E tst) (te := tE X.K Γ E me) hc hN hy hyl hsw hi ok hg ht he hs) fun D σ H h => ?_
  have h2 : tE X.K Γ E (lcM (own.map (·.2)) mi g tst me) σ H fun x H1 => gName i x σ H1 D.nx := tE_imp (asg_to h) fun v H' q => gName_of q
  exact lc_to h2

/-! ### a def -/
def fnM (n : Nat) (m : Env → M Fl) : List D → M D := fun ds => do
  let f ← m (ds.map some ++ List.replicate (n - ds.length) none)
  match f with
  | .rt d => pure d
  | .nx _ => pure .non
  | _ => stuck
theorem relE_start {K : PySem.W.Frag} {H : Hp} {φ : List Addr} {ds : List D} {vs : List V} (N : List Str) (h : RelDs K H φ ds vs) : RelE K H φ (ds.map some ++ List.replicate (N.length - ds.length) none) (start N vs) := by
  unfold L2.start
  have hl := RelDs.length h
  refine ⟨by simp [hl], fun i d z => ?_⟩
  by_cases hi : i < ds.length
  · rw [List.getElem?_append_left (by simpa using hi), List.getElem?_map] at z
    cases hd : ds[i]? with
    | none => rw [hd] at z; cases z
    | some d' =>
      rw [hd] at z
      cases z
      obtain ⟨v, h1, h2⟩ := RelDs.get h hd
      exact ⟨v, by rw [List.getElem?_append_left (by simpa [← hl] using hi), List.getElem?_map, h1]; rfl, h2⟩
  · rw [List.getElem?_append_right (by simpa using hi)] at z
    rw [List.getElem?_replicate] at z
    split at z <;> cases z
variable {P : Program} {w : World} {K : PySem.W.Frag} {mg : Str → Option Value} {base : Heap}
theorem fn_okM {x qual : Str} {st : Stmt} {f : Addr} {fd : FuncData} {N ps : List Str} {k : Nat} {m : Env → M Fl} (F : Fun K x qual st f fd) (sc : FnScope N ps (defScope st))
    (hbody : ∀ (cdv : Value) (A : Around) (outer : List PySem.Env) (s : Shared) (H : Hp) (E : XK), Room k (A.deeper (envOfC qual (defScope st) s.heap.objs.size f cdv)) → RSs (cxOf CX0 P w K mg base N qual (defScope st) f cdv A outer s H E).nox Γ E (defBody st) m) :
    FnOk P w K mg base CX0 (k + 1) f fd ps (spM K Γ ps.length (fnM N.length m)) := by
  refine F.ok sc (fun vs H Q E h => h.1) (fun cdv A outer s H vs Q E hr h => ⟨_, hbody cdv A outer s H E hr, ?_⟩)
  obtain ⟨_, φ, S, ds, sm, rv, p⟩ := h
  refine ⟨φ, _, S, sm, relE_start N rv, (Post.bnd (rel := rF K) p).imp fun fv H1 ⟨φ1, S1, fl, e1, s1, rf, p1⟩ => ?_⟩
  cases rf with
  | nx q => exact p1.val (v := V.non) s1 .non
  | rt rv => exact p1.val s1 rv
  | bk q => exact p1.elim
  | ct q => exact p1.elim
end

open PySem PySem.Spec PyProof.Rows L2

/-! ### a def's promise where no repr is under way -/
def Quiet (A : Around) : Prop := A.guards = some []
structure FnG (P : Program) (w : World) (K : PySem.W.Frag) (mg : Str → Option Value) (base : Heap) (CX : CXT) (k : Nat) (f : Addr) (fd : FuncData) (ps : List Str) (sp : Sp) : Prop where
  few : ∀ vs H Q E, sp vs H Q E → vs.length = ps.length
  go : ∀ (A : Around) (fr : List PySem.Env) (s : Shared) (H : Hp) (args : Args) (us : List Value) (vs : List V) (Q : VK) (E : XK), Quiet A → Room k A → Env0 P w K mg base A fr s H → BindsTo s fd args (ps.zip us) → Vals vs us → sp vs H Q E →
    codeAny (model P w) A (.call (.ref f) args) (CR CX fr P w H s Q E) s
theorem FnG.up {P : Program} {w : World} {K : PySem.W.Frag} {mg : Str → Option Value} {base : Heap} {CX : CXT} {j k : Nat} {f : Addr} {fd : FuncData} {ps : List Str} {sp : Sp} (F : FnG P w K mg base CX j f fd ps sp) (h : j ≤ k) : FnG P w K mg base CX k f fd ps sp :=
  ⟨F.few, fun A fr s H args us vs Q E hq hr => F.go A fr s H args us vs Q E hq (hr.mono h)⟩
section
variable {X : Cx} {Γ : Nat → Addr} {E : XK} {e : Expr} {es : List Expr} {pos p : Pos} {x : Str} {CX : CXT} {k n : Nat} {f : Addr} {fd : FuncData} {ps : List Str} {sp : Sp} {mA : Env → M (List D)}
theorem call_G {pins : List (Addr × Obj)} {σ : Sl} {H : Hp} {s : Shared} {Q : VK} {us : List Value} {vs : List V} (F : FnG X.prog X.w X.K X.mg X.base CX k f fd ps sp) (hq : Quiet X.A) (hr : Room k X.A) (hb : Binds X.K fd ps []) (hx : Passes CX X E)
    (I : Inv X pins σ H s) (r : Vals vs us) (h : sp vs H Q E) : wpAny (model X.prog X.w) X.A (call (.ref f) us) (EP X pins σ Q) X.xe s := by
  have hl : us.length = ps.length := by rw [← r.length]; exact F.few _ _ _ _ h
  have b := hb s us I.kIn (by simpa using hl)
  rw [List.append_nil] at b
  refine wpAny_call (codeAny_mono (F.go X.A X.stack s H ⟨us, []⟩ us vs Q E hq hr I.env0 b r h) fun res s' q => ?_)
  match res, q with
  | .error ev, q => exact hx pins σ H s ev s' I q
  | .ok (.ret u), q => exact I.after q
theorem pe_callG (F : FnG X.prog X.w X.K X.mg X.base CX k f fd ps sp) (hq : Quiet X.A) (hr : Room k X.A) (hg : Gl X x) (hm : X.mg x = some (.ref f)) (hk : PySem.W.keepIn X.K (.ref f) = true) (hb : Binds X.K fd ps []) (hx : Passes CX X E) {t : TA} (ha : PA X (e :: es) t)
    (hdb : (x == ("__debug__" : Str)) = false := by decide) (he : starEach (e :: es) X.env = (false, eval e X.env) :: starEach es X.env := by rfl) (hpl : (backTo pos (starEach es X.env)).any (·.1) = false := by rfl) :
    PE X (.Call (.Name x p) (e :: es) [] pos) (fun σ H Q => t σ H fun vs H1 => sp vs H1 Q E) := by
  refine ⟨fun pins s σ H Q I h => wpAny_Call_Name_kw (ld_glob I hg hm ?_ hdb)⟩
  refine PySem.W.callWith_K (h₀ := X.base) I.ok.mod.kin hk (thn (ha.run pos pins s σ H _ I h) fun us s1 z => ?_) he hpl
  obtain ⟨vs, H1, I1, r, q⟩ := z
  exact ⟨I1.kIn, call_G F hq hr hb hx I1 r q⟩
theorem pe_callG0 (F : FnG X.prog X.w X.K X.mg X.base CX k f fd ps sp) (hq : Quiet X.A) (hr : Room k X.A) (hg : Gl X x) (hm : X.mg x = some (.ref f)) (hk : PySem.W.keepIn X.K (.ref f) = true) (hb : Binds X.K fd ps []) (hx : Passes CX X E)
    (hdb : (x == ("__debug__" : Str)) = false := by decide) : PE X (.Call (.Name x p) [] [] pos) (fun σ H Q => sp [] H Q E) := by
  refine ⟨fun pins s σ H Q I h => wpAny_Call_Name_kw (ld_glob I hg hm ?_ hdb)⟩
  exact PySem.W.callWith_K0 I.kIn hk (call_G (us := []) F hq hr hb hx I .nil h)
theorem sp_of {mf : List D → M D} {φ : List Addr} {r : Env} {S : Sto} {σ : Sl} {H : Hp} {Q : VK} (hl : ∀ r S ds S', mA r S = .ok ds S' → ds.length = n) (s : Sim X.K Γ φ S H) (q : RelE X.K H φ r σ) (p : Post X.K Γ E (rD X.K) φ H (clM mf mA r S) Q) :
    tA X.K Γ E mA σ H fun vs H1 => spM X.K Γ n mf vs H1 Q E := by
  refine ⟨φ, r, S, s, q, ?_⟩
  have p' : Post X.K Γ E (rD X.K) φ H ((mA r >>= mf) S) Q := p
  cases hm : mA r S with
  | ok ds S1 =>
    rw [bnd_ok hm] at p'
    exact fun φ1 H1 vs e1 s1 rv => ⟨by rw [← RelDs.length rv]; exact hl r S ds S1 hm, φ1, S1, ds, s1, rv, p'.mono e1⟩
  | err c fs S1 =>
    rw [bind_def, hm] at p'
    exact p'
  | no =>
    rw [bind_def, hm] at p'
    exact p'
theorem re_callG {mf : List D → M D} (F : FnG X.prog X.w X.K X.mg X.base CX k f fd ps (spM X.K Γ n mf)) (hq : Quiet X.A) (hr : Room k X.A) (hg : Gl X x) (hm : X.mg x = some (.ref f)) (hk : PySem.W.keepIn X.K (.ref f) = true) (hb : Binds X.K fd ps []) (hx : Passes CX X E)
    (ha : RA X Γ E (e :: es) mA) (hl : ∀ r S ds S', mA r S = .ok ds S' → ds.length = n) (hdb : (x == ("__debug__" : Str)) = false := by decide) (he : starEach (e :: es) X.env = (false, eval e X.env) :: starEach es X.env := by rfl) (hpl : (backTo pos (starEach es X.env)).any (·.1) = false := by rfl) :
    RE X Γ E (.Call (.Name x p) (e :: es) [] pos) (clM mf mA) :=
  PE.weaken (pe_callG F hq hr hg hm hk hb hx ha hdb he hpl) fun σ H Q ⟨φ, r, S, s, q, p⟩ => sp_of hl s q p
theorem re_callG0 {mf : List D → M D} (F : FnG X.prog X.w X.K X.mg X.base CX k f fd ps (spM X.K Γ 0 mf)) (hq : Quiet X.A) (hr : Room k X.A) (hg : Gl X x) (hm : X.mg x = some (.ref f)) (hk : PySem.W.keepIn X.K (.ref f) = true) (hb : Binds X.K fd ps []) (hx : Passes CX X E)
    (hdb : (x == ("__debug__" : Str)) = false := by decide) : RE X Γ E (.Call (.Name x p) [] [] pos) (clM mf nilA) :=
  PE.weaken (pe_callG0 F hq hr hg hm hk hb hx hdb) fun σ H Q ⟨φ, r, S, s, q, p⟩ => ⟨rfl, φ, S, [], s, .nil, p⟩
variable {P : Program} {w : World} {K : PySem.W.Frag} {mg : Str → Option Value} {base : Heap}
/-- the rule for a def, any body -/
theorem fn_G {qual : Str} {st : Stmt} {N : List Str} {nm : Str} (F : Fun K nm qual st f fd) (sc : FnScope N ps (defScope st)) (few : ∀ vs H Q E, sp vs H Q E → vs.length = ps.length)
    (hbody : ∀ (cdv : Value) (A : Around) (fr : List PySem.Env) (s : Shared) (H : Hp) (vs : List V) (Q : VK) (E : XK), Quiet (A.deeper (envOfC qual (defScope st) s.heap.objs.size f cdv)) → Room k (A.deeper (envOfC qual (defScope st) s.heap.objs.size f cdv)) → sp vs H Q E →
      ∃ t, PSs (cxOf CX P w K mg base N qual (defScope st) f cdv A fr s H E) (defBody st) t ∧ t { nx := fun _ H' => Q .non H', rt := Q } (L2.start N vs) H) : FnG P w K mg base CX (k + 1) f fd ps sp := by
  obtain ⟨oc, od, kV, doc, pm, an, cdv, ct, osl, rfl, lk, hcd⟩ := F.ex
  refine ⟨few, fun A fr s H args us vs Q E hq hr e0 hb r hsp => ?_⟩
  have hl := few _ _ _ _ hsp
  have hkind : ∀ y ∈ ps.zip us, (defScope st).names.lookup y.1 = some .local ∨ ((defScope st).names.lookup y.1 = some .cell ∧ ((cellsFrom (s.heap.objs.size + 1) (defScope st).names []).lookup y.1).isSome = true) := by
    rintro ⟨z, v⟩ hy
    exact (sc.par z (List.of_mem_zip hy).1).imp id fun q => ⟨q, PySem.W.cellsFrom_some _ _ _ (.inl q)⟩
  have lim : s.heap.NoLimit := e0.mod.nolimit.keeps fun b o z => (e0.bs b o z).1
  have KX : K.In s.heap := e0.mod.kin.keeps fun b o z => (e0.bs b o z).1
  refine codeAny_call_function hr.depth (KX _ _ lk) rfl sc.co sc.gen rfl (PySem.W.codeRec_of KX hcd) (hb _ _ _ _ (wpAny_newFunctionEnv_cells sc.kind hkind fun env he s1 x => ?_))
  subst he
  refine ⟨lim.keeps x.toInCall.keep, codeAny_func ?_⟩
  obtain ⟨t, ht, hqq⟩ := hbody cdv A fr s H vs Q E hq (hr.deeper _) hsp
  refine wpAny_mono (ht.run [] s1 (L2.start N vs) H _ (inv_start sc hr.hd e0 hl r x) hqq) (fun fl s' hs => ?_) fun _ _ hs => hs
  have done : ∀ {σ' : Sl} {H' : Hp} {v : V} {u : Value}, Inv (cxOf CX P w K mg base N qual (defScope st) f cdv A fr s H E) [] σ' H' s' → RelV v u → Q v H' → CE fr P w H s Q u s' := fun {σ' H' v u} J rv q => ⟨v, H', J.os, J.bare, J.base, J.hok, rv, q⟩
  cases fl with
  | ret u =>
    obtain ⟨v, σ', H', J, rv, q⟩ := hs
    exact done J rv q
  | next =>
    obtain ⟨σ', H', J, q⟩ := hs
    exact done (v := V.non) (u := Value.none) J rfl q
  | brk =>
    obtain ⟨_, _, _, q⟩ := hs
    exact False.elim q
  | cont =>
    obtain ⟨_, _, _, q⟩ := hs
    exact False.elim q
theorem fn_okG {nm qual : Str} {st : Stmt} {N : List Str} {m : Env → M Fl} (F : Fun K nm qual st f fd) (sc : FnScope N ps (defScope st))
    (hbody : ∀ (cdv : Value) (A : Around) (fr : List PySem.Env) (s : Shared) (H : Hp) (E : XK), Quiet (A.deeper (envOfC qual (defScope st) s.heap.objs.size f cdv)) → Room k (A.deeper (envOfC qual (defScope st) s.heap.objs.size f cdv)) → RSs (cxOf CX0 P w K mg base N qual (defScope st) f cdv A fr s H E).nox Γ E (defBody st) m) :
    FnG P w K mg base CX0 (k + 1) f fd ps (spM K Γ ps.length (fnM N.length m)) := by
  refine fn_G F sc (fun vs H Q E h => h.1) (fun cdv A fr s H vs Q E hq hr h => ⟨_, PSs.nox (hbody cdv A fr s H E hq hr), ?_⟩)
  obtain ⟨_, φ, S, ds, sm, rv, p⟩ := h
  refine ⟨φ, _, S, sm, relE_start N rv, (Post.bnd (rel := rF K) p).imp fun fv H1 ⟨φ1, S1, fl, e1, s1, rf, p1⟩ => ?_⟩
  cases rf with
  | nx q => exact p1.val (v := V.non) s1 .non
  | rt rv => exact p1.val s1 rv
  | bk q => exact p1.elim
  | ct q => exact p1.elim
end

/-- the interpreter's own dict of modules stands -/
def SysIn (base : Heap) : Prop := ∃ m, base.Ns sysModules m

/-! ### the end: the law's own call -/
section
variable {P : Program} {w : World} {K : PySem.W.Frag} {mg mb : Str → Option Value} {Γ : Nat → Addr}
/-- the script's list, by the heap: frozen at a, or an object of the module -/
theorem script_H {h : Heap} {a : Addr} {vs : List Value} {ns : List Int} (KX : K.In h) (ha : h.get? a = some { cls := .type "list", data := .seq vs.toArray }) (hi : IntsAre vs ns) (hl : ns.length ≤ sizeLine) :
    ∃ H : Hp, HOk P w H h ∧ (∀ b, H b ≠ none → b = a) ∧ (H a ≠ none → K.lookup a = none) ∧ (∀ b u, H b = some u → ∃ ys, u = .frz { cls := .type "list", data := .seq vs.toArray } (.lst ys)) ∧ FrL K H a (ns.map V.int) := by
  have rv := vals_ints hi
  have hlen := hi.length
  cases hk : K.lookup a with
  | some o =>
    have e := KX a o hk
    rw [ha] at e
    cases e
    exact ⟨fun _ => none, fun b u z => absurd z (by simp), fun b z => absurd rfl z, fun z => absurd rfl z, fun b u z => absurd z (by simp), .inr ⟨_, vs.toArray, _, hk, rfl, rfl, rfl, by rw [List.size_toArray, hlen]; exact hl, by simpa using rv⟩⟩
  | none =>
    have hH : ∀ b u, (fun b => if b = a then some (HO.frz { cls := .type "list", data := .seq vs.toArray } (.lst (ns.map V.int))) else none) b = some u → b = a ∧ u = .frz { cls := .type "list", data := .seq vs.toArray } (.lst (ns.map V.int)) := fun b u z => by
      by_cases hb : b = a
      · have z' := (if_pos hb).symm.trans z
        exact ⟨hb, (Option.some.inj z').symm⟩
      · have z' := (if_neg hb).symm.trans z
        cases z'
    refine ⟨_, fun b u z => ?_, fun b z => ?_, fun _ => rfl, fun b u z => ⟨_, (hH b u z).2⟩, .inl ⟨_, if_pos rfl⟩⟩
    · obtain ⟨rfl, rfl⟩ := hH b u z
      exact ⟨ha, by rw [List.length_map]; exact hl, vs, _, rv, ha⟩
    · obtain ⟨u, hu⟩ := Option.ne_none_iff_exists'.mp z
      exact (hH b u hu).1
theorem law_G {k : Nat} {fa a : Addr} {fd : FuncData} {x : Str} {mf : List D → M D} {s : Shared} {vs : List Value} {ns : List Int} (KX : K.In s.heap) (hns : s.heap.Ns mainGlobals mg) (hb : s.heap.Ns builtinsNs mb) (hbb : ∀ x : Str, x ≠ "__name__" → mb x = bootBuiltins x)
    (hlim : s.heap.NoLimit) (hsy : SysIn s.heap) (hg : s.gens = #[]) (ha : s.heap.get? a = some { cls := .type "list", data := .seq vs.toArray }) (hi : IntsAre vs ns) (hl : ns.length ≤ sizeLine) (hr : Room k callerA)
    (F : ∀ base : Heap, K.In base → base.Ns mainGlobals mg → SysIn base → FnG P w K mg base CX0 k fa fd [x] (spM K Γ 1 mf)) (hbind : ∀ (s : Shared) (u : Value), BindsTo s fd ⟨[u], []⟩ [(x, u)])
    (hm : ∃ S', mf [.fl (ns.map D.int)] [] = .ok (.bl true) S') :
    codeAny (model P w) callerA (.call (.ref fa) ⟨[.ref a], []⟩) (fun r s' => r = .ok (.ret (.bool true)) ∧ OldK s.heap s'.heap ∧ s'.os = s.os ∧ AllBare s'.gens) s := by
  obtain ⟨H, hok, hA, hK, hF, hfr⟩ := script_H (P := P) (w := w) KX ha hi hl
  -- what is no dict and not of the module is not hidden from the base
  have clear : ∀ {b : Addr} {o : Obj}, s.heap.get? b = some o → (∀ u, H b = some u → False) → (hidT s.heap H).get? b = some o := fun {b o} e q => hidT_get e (by
    cases z : H b with
    | none => rfl
    | some u => exact (q u z).elim)
  have only : ∀ {b : Addr} {u : HO}, H b = some u → b = a := fun {b u} z => hA b (by rw [z]; simp)
  have nsK : ∀ {b : Addr} {m : Str → Option Value}, s.heap.Ns b m → (hidT s.heap H).Ns b m := fun {b m} ⟨o, es, ep, e, d, r⟩ => ⟨o, es, ep, clear e (fun u z => by
    rw [only z, ha] at e
    cases e
    cases d), d, r⟩
  have hKb : K.In (hidT s.heap H) := fun b o e => clear (KX b o e) fun u z => by
    have hba := only z
    rw [hba, hK (by rw [← hba, z]; simp)] at e
    cases e
  have e0 : Env0 P w K mg (hidT s.heap H) callerA [] s H := ⟨rfl, ⟨hKb, nsK hns, ⟨mb, nsK hb, hbb⟩, let ⟨mc, h1, h2⟩ := hlim; ⟨mc, nsK h1, h2⟩⟩, fun b o e => of_hidT e, Nat.le_of_eq (hidT_size _ _), trivial, fun b z => absurd (show b ∈ ([] : List Addr) from z) (by simp), hok, .of_eq hg⟩
  obtain ⟨S', hS⟩ := hm
  have hsp : spM K Γ 1 mf [.ref a] H (fun v _ => v = .bl true) fun _ _ _ => False := by
    refine ⟨rfl, [], [], [.fl (ns.map D.int)], ⟨rfl, fun n m a z => by simp at z, fun n o a z => by simp at z⟩, .cons (.fl hfr ?_) .nil, ?_⟩
    · clear hS hi hl ha hfr
      induction ns with
      | nil => exact .nil
      | cons n ns ih => exact .cons (.int n) ih
    · rw [hS]
      intro φ' H' v e' s' r
      cases r
      rfl
  refine codeAny_mono ((F _ hKb (nsK hns) (let ⟨m, h⟩ := hsy; ⟨m, nsK h⟩)).go callerA [] s H ⟨[.ref a], []⟩ [.ref a] [.ref a] _ _ rfl hr e0 (hbind s (.ref a)) (.cons rfl .nil) hsp) fun res s' z => ?_
  match res, z with
  | .error ev, z => exact (show False from z).elim
  | .ok (.ret u), ⟨v, H', os, bare, un, hok', r', q⟩ =>
    have q' : v = .bl true := q
    subst q'
    obtain rfl : u = Value.bool true := r'
    refine ⟨rfl, OldK.of_keep fun b o e => ?_, os, bare⟩
    cases z : H b with
    | none => exact un.keep b o e z (fun y => absurd (show b ∈ ([] : List Addr) from y) (by simp)) (by simp)
    | some u =>
      obtain ⟨ys, rfl⟩ := hF b u z
      have e1 : s.heap.get? b = some _ := (hok b _ z).1
      have e2 : s'.heap.get? b = some _ := (hok' b _ (un.frzs b _ _ z)).1
      rw [e2, ← e1]
      exact e
theorem walk_G {l : PySem.W.OpenLaw} {n k : Nat} {q : Program} {loose : List Str} {XP : (Str → Option Value) → Heap → Prop} {YP : World → Heap → Prop} {d : DefRec} {K : Params → PySem.W.Frag} {x : Str} {mf : List D → M D}
    (hi : importsNone q = true) (hn : l.most = some n) (hn2 : n ≤ sizeLine) (hdf : d.params.defaults = []) (hr : Room k callerA) (hY : ∀ (w : World) (h : Heap), YP w h → (K w.params).In h)
    (F : ∀ (w : World) (mg : Str → Option Value) (fa : Addr) (h : Heap), (K w.params).In h → h.Ns mainGlobals mg → mg d.name = some (.ref fa) →
      ∃ (Γ : Nat → Addr) (fd : FuncData), (∀ (s : Shared) (u : Value), BindsTo s fd ⟨[u], []⟩ [(x, u)]) ∧ ∀ base : Heap, (K w.params).In base → base.Ns mainGlobals mg → SysIn base → FnG l.prog w (K w.params) mg base CX0 k fa fd [x] (spM (K w.params) Γ 1 mf))
    (hm : ∀ ns : List Int, ns.length ≤ n → ∃ S', mf [.fl (ns.map D.int)] [] = .ok (.bl true) S') :
    PySem.W.WalkO q loose XP YP l.row.toRowW d [] (fun f vs => PySem.call f vs) := by
  refine Att.attach_call hn hdf fun w s0 s mg mb fa o pm cd doc a vs ns G Y ho hd hcd hmg hobj hints hlen hg => ?_
  obtain ⟨Γ, fd, hb, hF⟩ := F w mg fa _ (hY w _ Y) G.T.g hmg
  exact law_G (hY w _ Y) G.T.g G.T.b G.T.builtins G.T.nolimit (let ⟨m, h, _⟩ := (G.T.seer hi).mods; ⟨m, h⟩) hg hobj hints (Nat.le_trans hlen hn2) hr hF hb (hm ns hlen)
end

open PySem PySem.Spec PyProof.Rows L2

/-! ### what data read as -/
def toPys (f : D → Option PyData) : List D → Option (List PyData)
  | [] => some []
  | x :: xs => match f x, toPys f xs with
    | some p, some ps => some (p :: ps)
    | _, _ => none
def keyPy : Key → PyData
  | .inl i => .int i
  | .inr x => .str x
def toPyK (f : D → Option PyData) : List (Key × D) → Option (List (PyData × PyData))
  | [] => some []
  | (k, x) :: xs => match f x, toPyK f xs with
    | some p, some ps => some ((keyPy k, p) :: ps)
    | _, _ => none
def toPy (S : Sto) : Nat → D → Option PyData
  | _, .non => some .none
  | _, .bl b => some (.bool b)
  | _, .int i => some (.int i)
  | _, .str x => some (.str x)
  | _, .exc _ _ _ => none
  | 0, .tup _ => none
  | n + 1, .tup xs => (toPys (toPy S n) xs).map .tuple
  | 0, .fl _ => none
  | n + 1, .fl xs => (toPys (toPy S n) xs).map .list
  | 0, .ref _ => none
  | n + 1, .ref k => match S[k]? with
    | some (.lst xs) => (toPys (toPy S n) xs).map .list
    | some (.dK kvs) => (toPyK (toPy S n) kvs).map .dict
    | _ => none
section
variable {K : PySem.W.Frag} {Γ : Nat → Addr} {φ : List Addr} {S : Sto} {H : Hp}
theorem toPys_cons {f : D → Option PyData} {x : D} {xs : List D} {ps : List PyData} (h : toPys f (x :: xs) = some ps) : ∃ p r, ps = p :: r ∧ f x = some p ∧ toPys f xs = some r := by
  unfold toPys at h
  split at h
  · rename_i p r h1 h2
    exact ⟨p, r, (Option.some.inj h).symm, h1, h2⟩
  · cases h
theorem dps_of {f : D → Option PyData} (h : ∀ d v p, f d = some p → p.canLay0 = true → RelD K H φ d v → Dp K H v p) : ∀ {ds : List D} {vs : List V} {ps : List PyData}, toPys f ds = some ps → PyData.canLayAll0 ps = true → RelDs K H φ ds vs → DpAll K H vs ps
  | [], _, _, e, _, r => by
    cases r
    unfold toPys at e
    cases e
    exact .nil
  | d :: ds, _, _, e, c, r => by
    cases r with
    | cons r1 r2 =>
      obtain ⟨p, q, rfl, h1, h2⟩ := toPys_cons e
      have c' : (p.canLay0 && PyData.canLayAll0 q) = true := by simpa [PyData.canLayAll0] using c
      rw [Bool.and_eq_true] at c'
      exact .cons (h _ _ _ h1 c'.1 r1) (dps_of h h2 c'.2 r2)
theorem dp_of (s : Sim K Γ φ S H) : ∀ (n : Nat) (d : D) (v : V) (p : PyData), toPy S n d = some p → p.canLay0 = true → RelD K H φ d v → Dp K H v p
  | n, .non, _, _, e, _, r => by cases r; cases n <;> (unfold toPy at e; cases e; exact .non)
  | n, .bl b, _, _, e, _, r => by cases r; cases n <;> (unfold toPy at e; cases e; exact .bl b)
  | n, .int i, _, _, e, _, r => by cases r; cases n <;> (unfold toPy at e; cases e; exact .int i)
  | n, .str x, _, _, e, _, r => by cases r; cases n <;> (unfold toPy at e; cases e; exact .str x)
  | n, .exc _ _ _, _, _, e, _, _ => by cases n <;> (unfold toPy at e; cases e)
  | 0, .tup _, _, _, e, _, _ => by unfold toPy at e; cases e
  | 0, .fl _, _, _, e, _, _ => by unfold toPy at e; cases e
  | 0, .ref _, _, _, e, _, _ => by unfold toPy at e; cases e
  | n + 1, .tup xs, _, _, e, c, r => by
    unfold toPy at e
    obtain ⟨ps, h1, rfl⟩ := Option.map_eq_some_iff.mp e
    cases r with
    | tup hT _ hr => exact .tup hT (dps_of (fun d v p h1 h2 h3 => dp_of s n d v p h1 h2 h3) h1 (by simpa [PyData.canLay0] using c) hr)
  | n + 1, .fl xs, _, _, e, c, r => by
    unfold toPy at e
    obtain ⟨ps, h1, rfl⟩ := Option.map_eq_some_iff.mp e
    cases r with
    | fl hT hr => exact .lst hT.sq (dps_of (fun d v p h1 h2 h3 => dp_of s n d v p h1 h2 h3) h1 (by simpa [PyData.canLay0] using c) hr)
  | n + 1, .ref k, _, _, e, c, r => by
    unfold toPy at e
    cases r with
    | ref hq =>
      cases hS : S[k]? with
      | none => simp only [hS] at e; cases e
      | some o =>
        cases o with
        | lst xs =>
          simp only [hS] at e
          obtain ⟨ps, h1, rfl⟩ := Option.map_eq_some_iff.mp e
          obtain ⟨vs, h2, h3⟩ := s.obj k _ _ hS hq
          exact .lst (SqL.of h2) (dps_of (fun d v p h1 h2 h3 => dp_of s n d v p h1 h2 h3) h1 (by simpa [PyData.canLay0] using c) h3)
        | dK kvs =>
          simp only [hS] at e
          obtain ⟨ps, h1, rfl⟩ := Option.map_eq_some_iff.mp e
          simp [PyData.canLay0] at c
        | dT kvs => simp only [hS] at e; cases e
        | ins _ _ => simp only [hS] at e; cases e
        | exo _ _ => simp only [hS] at e; cases e
        | exd _ => simp only [hS] at e; cases e
        | dKL _ => simp only [hS] at e; cases e
        | dTL _ => simp only [hS] at e; cases e
        | xdo _ => simp only [hS] at e; cases e
end

/-! ### == and != , in -/
def deep : Nat := 70
def eqP (S : Sto) (a b : D) : Option Bool := match toPy S deep a, toPy S deep b with
  | some p, some q => if SeqAt.shaped p = true ∧ SeqAt.shaped q = true then some (PyData.eqv p q) else none
  | _, _ => none
def twoStr : D → D → Option (Str × Str)
  | .str x, .str y => some (x, y)
  | _, _ => none
/-- dicts of plain values, alike -/
def flatEq : D → D → Bool
  | .non, .non => true
  | .bl a, .bl b => a == b
  | .int i, .int j => i == j
  | .str x, .str y => x == y
  | _, _ => false
def valD {κ : Type} [DecidableEq κ] (kvs : List (κ × D)) (k : κ) : Option D := (kvs.find? fun kv => decide (kv.1 = k)).map (·.2)
def sameK (ks ls : List (Key × D)) : Bool := ks.length == ls.length && ks.all fun p => match valD ls p.1 with
  | some d => flatEq p.2 d
  | none => false
def dictSame (S : Sto) : D → D → Bool
  | .ref n, .ref m => match S[n]?, S[m]? with
    | some (.dK ks), some (.dK ls) => sameK ks ls
    | _, _ => false
  | _, _ => false
/-- beside nothing -/
def empB (S : Sto) : D → D → Option Bool
  | .tup xs, .tup [] => some xs.isEmpty
  | .ref n, .ref m => match S[n]?, S[m]? with
    | some (.lst xs), some (.lst []) => some xs.isEmpty
    | _, _ => none
  | _, _ => none
def eqB (S : Sto) (a b : D) : Option Bool := match twoStr a b with
  | some (x, y) => some (x == y)
  | none => match eqP S a b with
    | some c => some c
    | none => if dictSame S a b = true then some true else empB S a b
section
variable {K : PySem.W.Frag} {H : Hp} {φ : List Addr}
theorem flat_rel {d e : D} {v w : V} (h : flatEq d e = true) (r1 : RelD K H φ d v) (r2 : RelD K H φ e w) : w = v ∧ flatB v = true := by
  cases d <;> cases e <;> first | cases (show false = true from h) | skip
  · cases r1; cases r2; exact ⟨rfl, rfl⟩
  · cases r1; cases r2; have := eq_of_beq h; subst this; exact ⟨rfl, rfl⟩
  · cases r1; cases r2; have := eq_of_beq h; subst this; exact ⟨rfl, rfl⟩
  · cases r1; cases r2; have := eq_of_beq h; subst this; exact ⟨rfl, rfl⟩
theorem valD_rel {κ : Type} [DecidableEq κ] {ks : List (κ × D)} {vs : List (κ × V)} (r : RelKv K H φ ks vs) (k : κ) : (∀ d, valD ks k = some d → ∃ v, valV vs k = some v ∧ RelD K H φ d v) ∧ (valD ks k = none → valV vs k = none) := by
  unfold RelKv at r
  induction r with
  | nil => exact ⟨fun d h => (by cases h), fun _ => rfl⟩
  | @cons p q ps qs h t ih =>
    by_cases e : p.1 = k
    · have e' : q.1 = k := h.1 ▸ e
      rw [valV_pos e']
      have : valD (p :: ps) k = some p.2 := by simp [valD, List.find?_cons, e]
      rw [this]
      exact ⟨fun d hd => (by cases hd; exact ⟨_, rfl, h.2⟩), fun z => (by cases z)⟩
    · have e' : ¬ q.1 = k := h.1 ▸ e
      rw [valV_neg e']
      have : valD (p :: ps) k = valD ps k := by simp [valD, List.find?_cons, e]
      rw [this]
      exact ih
theorem same_rel {ks ls : List (Key × D)} {vs ws : List (Key × V)} (h : sameK ks ls = true) (r1 : RelKv K H φ ks vs) (r2 : RelKv K H φ ls ws) : vs.length = ws.length ∧ ∀ p ∈ vs, valV ws p.1 = some p.2 ∧ flatB p.2 = true := by
  unfold sameK at h
  rw [Bool.and_eq_true] at h
  refine ⟨by rw [← Paired.length r1, ← Paired.length r2]; exact eq_of_beq h.1, ?_⟩
  have h2 := h.2
  clear h
  unfold RelKv at r1
  induction r1 with
  | nil => exact fun p hp => absurd hp (List.not_mem_nil)
  | @cons p q ps qs a t ih =>
    rw [List.all_cons, Bool.and_eq_true] at h2
    intro z hz
    rcases List.mem_cons.mp hz with rfl | hz
    · have b := h2.1
      split at b
      · rename_i d hd
        obtain ⟨v, h3, h4⟩ := (valD_rel r2 p.1).1 d hd
        obtain ⟨h5, h6⟩ := flat_rel b a.2 h4
        rw [a.1] at h3
        exact ⟨by rw [h3, h5], h6⟩
      · cases b
    · exact ih h2.2 z hz
theorem dictSame_rel {Γ : Nat → Addr} {S : Sto} {a b : D} {v w : V} (sm : Sim K Γ φ S H) (h : dictSame S a b = true) (r1 : RelD K H φ a v) (r2 : RelD K H φ b w) : ∃ x y vs ws, v = .ref x ∧ w = .ref y ∧ H x = some (.dK vs) ∧ H y = some (.dK ws) ∧ vs.length = ws.length ∧ ∀ p ∈ vs, valV ws p.1 = some p.2 ∧ flatB p.2 = true := by
  cases a <;> cases b <;> first | cases (show false = true from h) | skip
  rename_i n m
  cases r1 with
  | ref q1 =>
    cases r2 with
    | ref q2 =>
      unfold dictSame at h
      cases hn : S[n]? with
      | none => simp only [hn] at h; cases h
      | some o =>
        cases o with
        | dK ks =>
          cases hm : S[m]? with
          | none => simp only [hn, hm] at h; cases h
          | some o =>
            cases o with
            | dK ls =>
              simp only [hn, hm] at h
              obtain ⟨vs, h1, h2⟩ := sm.obj n _ _ hn q1
              obtain ⟨ws, h3, h4⟩ := sm.obj m _ _ hm q2
              obtain ⟨h5, h6⟩ := same_rel h h2 h4
              exact ⟨_, _, vs, ws, rfl, rfl, h1, h3, h5, h6⟩
            | _ => simp only [hn, hm] at h; cases h
        | _ => simp only [hn] at h; cases h
end
section
variable {P : Program} {w : World} {K : PySem.W.Frag} {mg : Str → Option Value} {Γ : Nat → Addr} {X : Cx}
theorem empB_rel {pins : List (Addr × Obj)} {s : Shared} {σ : Sl} {H : Hp} {φ : List Addr} {S : Sto} {a b : D} {x y : V} {v u : Value} {c : Bool} (I : Inv X pins σ H s) (sm : Sim X.K Γ φ S H) (h : empB S a b = some c) (r1 : RelD X.K H φ a x) (r2 : RelD X.K H φ b y) (rx : RelV x v) (ry : RelV y u)
    (hu : X.A.units < cLine) : SeqAt.RcAt X.A s v u c ∧ SeqAt.RcNeAt X.A s v u (!c) := by
  cases a <;> cases b <;> first | (cases (show none = some c from h); done) | skip
  · rename_i xs ys
    cases ys with
    | cons _ _ => cases h
    | nil =>
      cases r1 with
      | tup t1 x1 q1 =>
        cases r2 with
        | tup t2 x2 q2 =>
          cases q2
          cases rx
          cases ry
          obtain ⟨i1, v1, ⟨o1, h1, k1, n1, e1⟩, _⟩ := I.tuple t1
          obtain ⟨i2, v2, ⟨o2, h2, k2, n2, e2⟩, _⟩ := I.tuple t2
          cases v2
          have hc : c = xs.isEmpty := (Option.some.inj h).symm
          have hz : i1.length = xs.length := by rw [← v1.length, q1.length]
          have hm : min i1.toArray.size ([] : List Value).toArray.size = 0 := by simp
          have L1 : s.heap.IsTuple _ i1.toArray := ⟨_, h1, k1, _, e1⟩
          have L2 : s.heap.IsTuple _ ([] : List Value).toArray := ⟨_, h2, k2, _, e2⟩
          have r : c = ((List.range (min i1.toArray.size ([] : List Value).toArray.size)).all (fun _ => true) && i1.toArray.size == ([] : List Value).toArray.size) := by
            rw [hm, hc]
            cases xs with
            | nil => cases i1 <;> simp_all
            | cons _ _ => cases i1 <;> simp_all
          constructor
          · rw [r]
            exact SeqAt.RcAt.tuples (e := fun _ => true) L1 L2 hu fun j _ h2 => absurd h2 (by simp)
          · rw [r]
            exact SeqAt.RcNeAt.tuples (e := fun _ => true) L1 L2 hu fun j _ h2 => absurd h2 (by simp)
  · rename_i n m
    cases r1 with
    | ref q1 =>
      cases r2 with
      | ref q2 =>
        unfold empB at h
        cases hn : S[n]? with
        | none => simp only [hn] at h; cases h
        | some o =>
          cases o with
          | lst xs =>
            cases hm : S[m]? with
            | none => simp only [hn, hm] at h; cases h
            | some o =>
              cases o with
              | lst ys =>
                cases ys with
                | cons _ _ => simp only [hn, hm] at h; cases h
                | nil =>
                  simp only [hn, hm] at h
                  have hc : c = xs.isEmpty := (Option.some.inj h).symm
                  obtain ⟨vs, w1, p1⟩ := sm.obj n _ _ hn q1
                  obtain ⟨ws, w2, p2⟩ := sm.obj m _ _ hm q2
                  cases p2
                  cases rx
                  cases ry
                  obtain ⟨i1, v1, ⟨o1, n1, h1, k1, _, e1⟩, _⟩ := I.list (SqL.of w1)
                  obtain ⟨i2, v2, ⟨o2, n2, h2, k2, _, e2⟩, _⟩ := I.list (SqL.of w2)
                  cases v2
                  have hz : i1.length = xs.length := by rw [← v1.length, p1.length]
                  have L1 : s.heap.IsList _ i1.toArray := ⟨_, h1, k1, _, e1⟩
                  have L2 : s.heap.IsList _ ([] : List Value).toArray := ⟨_, h2, k2, _, e2⟩
                  cases xs with
                  | nil =>
                    obtain rfl : i1 = [] := List.eq_nil_of_length_eq_zero hz
                    obtain rfl : c = true := hc
                    exact ⟨SeqAt.RcAt.lists (e := fun _ => true) L1 L2 rfl hu fun j _ h2 => absurd h2 (by simp), SeqAt.RcNeAt.lists (e := fun _ => true) L1 L2 rfl hu fun j _ h2 => absurd h2 (by simp)⟩
                  | cons x xs =>
                    obtain rfl : c = false := hc
                    have hs : (i1.toArray.size != ([] : List Value).toArray.size) = true := by simp [hz]
                    exact ⟨SeqAt.RcAt.lists_lengths L1 L2 hs hu, SeqAt.RcNeAt.lists_lengths L1 L2 hs hu⟩
              | _ => simp only [hn, hm] at h; cases h
          | _ => simp only [hn] at h; cases h
end
def ofB (f : Sto → Option Bool) : M D := fun S => match f S with
  | some b => .ok (.bl b) S
  | none => .no
def eqD (a b : D) : M D := ofB fun S => eqB S a b
def neD (a b : D) : M D := ofB fun S => (eqB S a b).map (!·)
/-- x in c -/
def itemsPy (S : Sto) (c : D) : Option (List PyData) := match toPy S deep c with
  | some (.list ps) => some ps
  | some (.tuple ps) => some ps
  | _ => none
def inB (S : Sto) (x c : D) : Option Bool := match toPy S deep x, toPy S deep c with
  | some p, some (.list qs) => if SeqAt.shaped p = true ∧ SeqAt.shaped (.list qs) = true then some (qs.any fun y => PyData.eqv y p) else none
  | some p, some (.tuple qs) => if SeqAt.shaped p = true ∧ SeqAt.shaped (.tuple qs) = true then some (qs.any fun y => PyData.eqv y p) else none
  | _, _ => none
/-- one sign in a text -/
def inS (x c : D) : Option Bool := match x, c with
  | .str x, .str z => some (!(Builtin.Str.occurrences z x 0 z.length 1).isEmpty)
  | _, _ => none
def inD (x c : D) : M D := ofB fun S => match c with
  | .str _ => inS x c
  | .ref n => match S[n]? with
    | some (.dK kvs) => match x with
      | .int i => some (kvs.any fun p => decide (p.1 = Sum.inl i))
      | .str z => some (kvs.any fun p => decide (p.1 = Sum.inr z))
      | _ => none
    | _ => inB S x c
  | _ => inB S x c
def ninD (x c : D) : M D := fun S => match inD x c S with
  | .ok (.bl b) S' => .ok (.bl (!b)) S'
  | _ => .no
section
variable {X : Cx} {Γ : Nat → Addr} {E : XK}
theorem ofB_post {K : PySem.W.Frag} {φ : List Addr} {S : Sto} {H : Hp} {f : Sto → Option Bool} {Q : VK} (s : Sim K Γ φ S H) (p : Post K Γ E (rD K) φ H (ofB f S) Q) : ∃ b, f S = some b ∧ Q (.bl b) H := by
  unfold ofB at p
  cases h : f S with
  | none => simp only [h] at p; exact p.elim
  | some b => simp only [h] at p; exact ⟨b, rfl, p.here s (.bl b)⟩
theorem eqB_str {S : Sto} {x y : Str} : eqB S (.str x) (.str y) = some (x == y) := rfl
theorem eqB_cases {S : Sto} {a b : D} {c : Bool} (h : eqB S a b = some c) : (∃ x y, a = .str x ∧ b = .str y ∧ c = (x == y)) ∨ eqP S a b = some c ∨ (dictSame S a b = true ∧ c = true) ∨ empB S a b = some c := by
  unfold eqB at h
  split at h
  · rename_i x y e
    refine .inl ⟨x, y, ?_, ?_, (Option.some.inj h).symm⟩ <;> (cases a <;> cases b <;> cases e <;> rfl)
  · split at h
    · rename_i d hd
      cases h
      exact .inr (.inl hd)
    · by_cases hz : dictSame S a b = true
      · rw [if_pos hz] at h
        exact .inr (.inr (.inl ⟨hz, (Option.some.inj h).symm⟩))
      · rw [if_neg hz] at h; exact .inr (.inr (.inr h))
theorem eqB_of {S : Sto} {a b : D} {c : Bool} (h : eqP S a b = some c) : ∃ p q, toPy S deep a = some p ∧ toPy S deep b = some q ∧ SeqAt.shaped p = true ∧ SeqAt.shaped q = true ∧ c = PyData.eqv p q := by
  unfold eqP at h
  split at h
  · rename_i p q h1 h2
    by_cases hs : SeqAt.shaped p = true ∧ SeqAt.shaped q = true
    · rw [if_pos hs] at h
      exact ⟨p, q, h1, h2, hs.1, hs.2, (Option.some.inj h).symm⟩
    · rw [if_neg hs] at h; cases h
  · cases h
theorem od_eq (hu : X.A.units + 64 < cLine) : OpD X Γ E (compareOp .Eq) eqD := by
  intro pins s σ H x y v u Q I rx ry ⟨φ, S, dx, dy, sm, r1, r2, p⟩
  obtain ⟨b, h, q⟩ := ofB_post sm p
  rcases eqB_cases h with ⟨a, b', rfl, rfl, rfl⟩ | h | ⟨hz, rfl⟩ | hz
  rotate_left 3
  · exact (empB_rel I sm hz r1 r2 rx ry (by omega)).1 X.prog X.w X.xe _ ⟨.bl _, H, I, rfl, q⟩
  rotate_left 2
  · obtain ⟨x1, x2, vs, ws, rfl, rfl, h1, h2, h3, h4⟩ := dictSame_rel sm hz r1 r2
    exact op_eq_dictA (by omega) pins s σ H _ _ v u Q I rx ry ⟨_, _, vs, ws, rfl, rfl, h1, h2, h3, h4, q⟩
  · cases r1; cases r2
    obtain ⟨t, rfl⟩ := rx
    obtain ⟨t', rfl⟩ := ry
    exact eq_str (fin_bl I q rfl)
  obtain ⟨p1, p2, h1, h2, s1, s2, rfl⟩ := eqB_of h
  exact op_eqD hu pins s σ H x y v u Q I rx ry ⟨p1, p2, dp_of sm _ _ _ _ h1 (SeqAt.canLay_of_shaped s1) r1, dp_of sm _ _ _ _ h2 (SeqAt.canLay_of_shaped s2) r2, s1, s2, q⟩
theorem od_ne (hu : X.A.units + 64 < cLine) : OpD X Γ E (compareOp .NotEq) neD := by
  intro pins s σ H x y v u Q I rx ry ⟨φ, S, dx, dy, sm, r1, r2, p⟩
  obtain ⟨b, h, q⟩ := ofB_post sm p
  obtain ⟨c, h', rfl⟩ := Option.map_eq_some_iff.mp h
  rcases eqB_cases h' with ⟨a, b', rfl, rfl, rfl⟩ | h' | ⟨hz, rfl⟩ | hz
  rotate_left 3
  · exact (empB_rel I sm hz r1 r2 rx ry (by omega)).2 X.prog X.w X.xe _ ⟨.bl _, H, I, rfl, q⟩
  rotate_left 2
  · obtain ⟨x1, x2, vs, ws, rfl, rfl, h1, h2, h3, h4⟩ := dictSame_rel sm hz r1 r2
    exact op_ne_dictA (by omega) pins s σ H _ _ v u Q I rx ry ⟨_, _, vs, ws, rfl, rfl, h1, h2, h3, h4, q⟩
  · cases r1; cases r2
    obtain ⟨t, rfl⟩ := rx
    obtain ⟨t', rfl⟩ := ry
    exact ne_str (fin_bl I q rfl)
  obtain ⟨p1, p2, h1, h2, s1, s2, rfl⟩ := eqB_of h'
  exact op_neD hu pins s σ H x y v u Q I rx ry ⟨p1, p2, dp_of sm _ _ _ _ h1 (SeqAt.canLay_of_shaped s1) r1, dp_of sm _ _ _ _ h2 (SeqAt.canLay_of_shaped s2) r2, s1, s2, q⟩
theorem inB_of {S : Sto} {x c : D} {b : Bool} (h : inB S x c = some b) : ∃ p qs, toPy S deep x = some p ∧ (toPy S deep c = some (.list qs) ∨ toPy S deep c = some (.tuple qs)) ∧ SeqAt.shaped p = true ∧ PyData.canLayAll0 qs = true ∧ b = qs.any fun y => PyData.eqv y p := by
  unfold inB at h
  split at h
  · rename_i p qs h1 h2
    by_cases hs : SeqAt.shaped p = true ∧ SeqAt.shaped (.list qs) = true
    · rw [if_pos hs] at h
      exact ⟨p, qs, h1, .inl h2, hs.1, by simpa [PyData.canLay0] using SeqAt.canLay_of_shaped hs.2, (Option.some.inj h).symm⟩
    · rw [if_neg hs] at h; cases h
  · rename_i p qs h1 h2
    by_cases hs : SeqAt.shaped p = true ∧ SeqAt.shaped (.tuple qs) = true
    · rw [if_pos hs] at h
      exact ⟨p, qs, h1, .inr h2, hs.1, by simpa [PyData.canLay0] using SeqAt.canLay_of_shaped hs.2, (Option.some.inj h).symm⟩
    · rw [if_neg hs] at h; cases h
  · cases h
theorem in_seqD (hu : X.A.units + 65 < cLine) {pins : List (Addr × Obj)} {s : Shared} {σ : Sl} {H : Hp} {x y : V} {v u : Value} {Q : VK} {φ : List Addr} {S : Sto} {dx dy : D} {b : Bool} (I : Inv X pins σ H s) (rx : RelV x v) (ry : RelV y u) (sm : Sim X.K Γ φ S H) (r1 : RelD X.K H φ dx x) (r2 : RelD X.K H φ dy y)
    (h : inB S dx dy = some b) : (Q (.bl b) H → wpAny (model X.prog X.w) X.A (compareOp .In v u) (EP X pins σ Q) X.xe s) ∧ (Q (.bl (!b)) H → wpAny (model X.prog X.w) X.A (compareOp .NotIn v u) (EP X pins σ Q) X.xe s) := by
  obtain ⟨p, qs, h1, h2, s1, c2, rfl⟩ := inB_of h
  obtain ⟨bs, e1⟩ := Dp.reads I _ _ _ (dp_of sm _ _ _ _ h1 (SeqAt.canLay_of_shaped s1) r1) rx
  rcases h2 with h2 | h2
  · obtain ⟨as, e2⟩ := Dp.reads I _ _ _ (dp_of sm _ _ _ _ h2 (by simpa [PyData.canLay0] using c2) r2) ry
    exact ⟨fun q => SeqAt.in_list_reads e2 e1 c2 (SeqAt.canLay_of_shaped s1) (room_in_shaped s1 hu) ⟨.bl _, H, I, rfl, q⟩, fun q => SeqAt.notIn_list_reads e2 e1 c2 (SeqAt.canLay_of_shaped s1) (room_in_shaped s1 hu) ⟨.bl _, H, I, rfl, q⟩⟩
  · obtain ⟨as, e2⟩ := Dp.reads I _ _ _ (dp_of sm _ _ _ _ h2 (by simpa [PyData.canLay0] using c2) r2) ry
    exact ⟨fun q => SeqAt.in_tuple_reads e2 e1 c2 (SeqAt.canLay_of_shaped s1) (room_in_shaped s1 hu) ⟨.bl _, H, I, rfl, q⟩, fun q => SeqAt.notIn_tuple_reads e2 e1 c2 (SeqAt.canLay_of_shaped s1) (room_in_shaped s1 hu) ⟨.bl _, H, I, rfl, q⟩⟩
end

open PySem PySem.Spec PyProof.Rows L2

/-! ### operators -/
def addD (x y : D) : M D := match x, y with
  | .int i, .int j => pure (.int (i + j))
  | .str a, .str b => if a.length + b.length ≤ sizeLine then pure (.str (a ++ b)) else stuck
  | .tup a, .tup b => if a.length + b.length ≤ sizeLine then pure (.tup (a ++ b)) else stuck
  | .ref n, .ref m => fun S => match S[n]?, S[m]? with
    | some (.lst a), some (.lst b) => if a.length + b.length ≤ sizeLine then newO (.lst (a ++ b)) S else .no
    | _, _ => .no
  | _, _ => stuck
def subD (x y : D) : M D := match x, y with
  | .int i, .int j => pure (.int (i - j))
  | _, _ => stuck
def small64 (i : Int) : Bool := decide (-(2 ^ 64) < i) && decide (i < 2 ^ 64)
def mulD (x y : D) : M D := match x, y with
  | .int i, .int j => if small64 i || small64 j then pure (.int (i * j)) else stuck
  | .str a, .int k => if a.length ≤ 1000 ∧ -1000 ≤ k ∧ k ≤ 1000 then pure (.str (Txt.mul a k)) else stuck
  | .ref n, .int k => fun S => match S[n]? with
    | some (.lst a) => if -(2 ^ 63) ≤ k ∧ k < 2 ^ 63 ∧ a.length * k.toNat ≤ sizeLine then newO (.lst (List.replicate k.toNat a).flatten) S else .no
    | _ => .no
  | .tup a, .int k => if a ≠ [] ∧ 2 ≤ k ∧ (a.length : Int) * k ≤ 1000000 then pure (.tup (List.replicate k.toNat a).flatten) else stuck
  | _, _ => stuck
def modD (x y : D) : M D := match x, y with
  | .int i, .int j => if 0 < j then pure (.int (i % j)) else stuck
  | _, _ => stuck
def fdivD (x y : D) : M D := match x, y with
  | .int i, .int j => if 0 < j ∧ j < 1073741824 then pure (.int (i / j)) else stuck
  | _, _ => stuck
def powD (x y : D) : M D := match x, y with
  | .int i, .int j => if 0 ≤ j ∧ j ≤ 1000000 ∧ i.natAbs < 2 ^ 64 then pure (.int (i ^ j.toNat)) else stuck
  | _, _ => stuck
def negD (x : D) : M D := match x with
  | .int i => pure (.int (-i))
  | _ => stuck
def ltS (i j : Str) : Bool := decide (i.cps.toList < j.cps.toList)
def ltD (x y : D) : M D := match x, y with
  | .int i, .int j => pure (.bl (decide (i < j)))
  | .str i, .str j => pure (.bl (ltS i j))
  | _, _ => stuck
def leD (x y : D) : M D := match x, y with
  | .int i, .int j => pure (.bl (decide (i ≤ j)))
  | _, _ => stuck
def gtD (x y : D) : M D := match x, y with
  | .int i, .int j => pure (.bl (decide (j < i)))
  | _, _ => stuck
def geD (x y : D) : M D := match x, y with
  | .int i, .int j => pure (.bl (decide (j ≤ i)))
  | _, _ => stuck
def isNone : D → Bool
  | .non => true
  | _ => false
def isNoneD (x y : D) : M D := match y with
  | .non => pure (.bl (isNone x))
  | _ => stuck
def notNoneD (x y : D) : M D := match y with
  | .non => pure (.bl (!isNone x))
  | _ => stuck
/-- x is True, x is False, for truths -/
def isBlD (x y : D) : M D := match x, y with
  | .bl a, .bl b => pure (.bl (decide (a = b)))
  | _, _ => stuck
def notBlD (x y : D) : M D := match x, y with
  | .bl a, .bl b => pure (.bl (!decide (a = b)))
  | _, _ => stuck
section
variable {X : Cx} {Γ : Nat → Addr} {E : XK}
theorem od_add : OpD X Γ E (binaryOp .Add) addD := by
  intro pins s σ H x y v u Q I rx ry ⟨φ, S, dx, dy, sm, r1, r2, p⟩
  unfold addD at p
  split at p
  · cases r1; cases r2
    exact op_add pins s σ H _ _ v u Q I rx ry ⟨_, _, rfl, rfl, p.val sm (.int _)⟩
  · cases r1; cases r2
    obtain ⟨hz, p⟩ := Post.ite p
    exact op_add_str pins s σ H _ _ v u Q I rx ry ⟨_, _, rfl, rfl, hz, p.val sm (.str _)⟩
  · obtain ⟨hz, p⟩ := Post.ite p
    cases r1 with
    | tup t1 x1 q1 =>
      cases r2 with
      | tup t2 x2 q2 =>
        have l1 := RelDs.length q1
        have l2 := RelDs.length q2
        refine op_catA pins s σ H _ _ v u Q I rx ry ⟨_, _, _, _, rfl, rfl, t1, t2, by omega, fun e => ?_, fun e1 e2 => ?_, fun e1 e2 => ?_⟩
        · subst e
          cases q1
          exact p.val sm (.tup t2 x2 q2)
        · subst e2
          cases q2
          rw [List.append_nil] at p
          exact p.val sm (.tup t1 x1 q1)
        · exact Post.newT sm (RelDs.app q1 q2) p
  · rename_i n m
    cases r1 with
    | ref q1 =>
      cases r2 with
      | ref q2 =>
        cases hn : S[n]? with
        | none => simp only [hn] at p; exact p.elim
        | some o =>
          cases o with
          | lst a =>
            cases hm : S[m]? with
            | none => simp only [hn, hm] at p; exact p.elim
            | some o =>
              cases o with
              | lst b =>
                simp only [hn, hm] at p
                by_cases hz : a.length + b.length ≤ sizeLine
                · rw [if_pos hz] at p
                  obtain ⟨va, h1, z1⟩ := sm.obj n _ _ hn q1
                  obtain ⟨vb, h2, z2⟩ := sm.obj m _ _ hm q2
                  exact op_cat pins s σ H _ _ v u Q I rx ry ⟨_, _, _, _, rfl, rfl, h1, h2, by rw [← RelDs.length z1, ← RelDs.length z2]; exact hz, Post.newL sm (RelDs.app z1 z2) p⟩
                · rw [if_neg hz] at p; exact p.elim
              | dK _ => simp only [hn, hm] at p; exact p.elim
              | dT _ => simp only [hn, hm] at p; exact p.elim
              | ins _ _ => simp only [hn, hm] at p; exact p.elim
              | exo _ _ => simp only [hn, hm] at p; exact p.elim
              | exd _ => simp only [hn, hm] at p; exact p.elim
              | dKL _ => simp only [hn, hm] at p; exact p.elim
              | dTL _ => simp only [hn, hm] at p; exact p.elim
              | xdo _ => simp only [hn, hm] at p; exact p.elim
          | dK _ => simp only [hn] at p; exact p.elim
          | dT _ => simp only [hn] at p; exact p.elim
          | ins _ _ => simp only [hn] at p; exact p.elim
          | exo _ _ => simp only [hn] at p; exact p.elim
          | exd _ => simp only [hn] at p; exact p.elim
          | dKL _ => simp only [hn] at p; exact p.elim
          | dTL _ => simp only [hn] at p; exact p.elim
          | xdo _ => simp only [hn] at p; exact p.elim
  · exact p.elim
theorem od_sub : OpD X Γ E (binaryOp .Sub) subD := by
  intro pins s σ H x y v u Q I rx ry ⟨φ, S, dx, dy, sm, r1, r2, p⟩
  unfold subD at p
  split at p
  · cases r1; cases r2
    exact op_sub pins s σ H _ _ v u Q I rx ry ⟨_, _, rfl, rfl, p.val sm (.int _)⟩
  · exact p.elim
/-- tuple * int, up to a million items -/
def rRepW (K : PySem.W.Frag) : R2 := fun x y H Q => ∃ (a : Addr) (m : Int) (vs : List V), x = .ref a ∧ y = .int m ∧ SqT K H a vs ∧ vs ≠ [] ∧ 2 ≤ m ∧ (vs.length : Int) * m ≤ 1000000 ∧ ∀ q, H q = none → Q (.ref q) (upd H q (.tup (List.replicate m.toNat vs).flatten))
theorem op_repW : OpR X (binaryOp .Mult) (rRepW X.K) := by
  rintro pins s σ H x y v u Q I rx ry ⟨a, m, vs, rfl, rfl, hT, hne, h1, h2, q⟩
  cases rx
  obtain ⟨tt, rfl⟩ := ry
  obtain ⟨ws, r, ⟨⟨cl, dd, da, sl⟩, ho, hc, n, hd⟩, hs⟩ := I.tuple hT
  obtain rfl : cl = _ := hc
  obtain rfl : da = _ := hd
  have e1 : ws.length = vs.length := r.length.symm
  have p1 : 1 ≤ vs.length := by
    cases vs with
    | nil => exact absurd rfl hne
    | cons _ _ => simp
  have z1 : ws.toArray.size = vs.length := by rw [List.size_toArray, e1]
  have em : ws.toArray.isEmpty = false := by
    cases ws with
    | nil => simp at e1; omega
    | cons _ _ => rfl
  have m1 : m ≤ 1000000 := Int.le_trans (by have := Int.mul_le_mul_of_nonneg_right (show (1 : Int) ≤ (vs.length : Int) by omega) (show (0 : Int) ≤ m by omega); omega) h2
  have big : (List.replicate m.toNat ws).flatten.length ≤ 1000000 := by
    rw [PyProof.Rows.lm_len_rep_flat, e1]
    have : ((m.toNat * vs.length : Nat) : Int) ≤ 1000000 := by
      rw [Int.natCast_mul, Int.toNat_of_nonneg (by omega), Int.mul_comm]
      exact h2
    omega
  have sl1 : 1000000 ≤ sizeLine := by decide
  have k0 : (decide (m < -(2 ^ 63)) || decide (m ≥ 2 ^ 63)) = false := by
    rw [decide_eq_false (by omega), decide_eq_false (by omega)]; rfl
  have k1 : (ws.toArray.isEmpty || m == 1) = false := by
    rw [em, Bool.false_or]; exact beq_eq_false_iff_ne.mpr (by omega)
  have k2 : (decide (m ≤ 0) || ws.toArray.isEmpty) = false := by
    rw [em, Bool.or_false]; exact decide_eq_false (by omega)
  have k3 : ((ws.toArray.size : Nat) : Int) * m ≤ 1000000 := by rw [z1]; exact h2
  have k4 : Builtin.Tuple.tupleTooMany (((ws.toArray.size : Nat) : Int) * m) = false := by
    have : ((1000000 : Nat) : Int) ≤ (sizeLine : Int) := by exact_mod_cast sl1
    unfold Builtin.Tuple.tupleTooMany
    exact decide_eq_false (by omega)
  have W := tuple_mulW a ws.toArray n dd sl m tt k0 k1 k2 (by omega) k4 (by rw [size_rep, List.size_toArray]; omega)
  refine wpAny_binaryOp_repeat_ref (U := "int") (T := "tuple") (by decide) ⟨_, ho, rfl⟩
    (fun s' => typeIs_int s' m tt) noFill_tuple_mul F.fills_int_mul F.slot_int_rmul
    repeat_tuple F.slot_int_index.lookup ?_
  refine call_meets F.slot_int_rmul (typeIs_int s m tt) F.entry_int_rmul (F.args_int_rmul_2 _ _)
    (int_rmul_tuple m tt a ws.toArray n dd sl) ⟨ho, rfl, ⟨_, ho, rfl⟩, ?_⟩
  refine call_meets F.slot_tuple_mul ⟨_, ho, rfl⟩ F.entry_tuple_mul (F.args_tuple_mul_2 _ _) W ⟨ho, ?_⟩
  rw [size_rep]
  refine ⟨.ref s.heap.objs.size, _, I.laid (o := .tup (List.replicate m.toNat vs).flatten) (t' := s.toks)
    (fun b ob z => Heap.get?_push_of_some _ z) (Nat.le_refl _) ⟨?_, _, r.rep m.toNat, IsTup.new _ _⟩, rfl, q _ (I.hok.fresh (Nat.le_refl _))⟩
  have := (r.rep m.toNat).length
  omega
theorem od_mul : OpD X Γ E (binaryOp .Mult) mulD := by
  intro pins s σ H x y v u Q I rx ry ⟨φ, S, dx, dy, sm, r1, r2, p⟩
  unfold mulD at p
  split at p
  · rename_i i j
    cases r1; cases r2
    obtain ⟨hz, p⟩ := Post.ite p
    refine op_mul pins s σ H _ _ v u Q I rx ry ⟨_, _, rfl, rfl, ?_, p.val sm (.int _)⟩
    rw [Bool.or_eq_true] at hz
    unfold small64 at hz
    simp only [Bool.and_eq_true, decide_eq_true_eq] at hz
    exact hz
  · rename_i a k
    cases r1; cases r2
    obtain ⟨hz, p⟩ := Post.ite p
    obtain ⟨t, rfl⟩ := rx
    obtain ⟨t', rfl⟩ := ry
    exact SB.mul (mulOk_of 1000 1000 hz.1 (by omega) (by omega) (by decide) (by decide)) fun t' tk => ⟨.str _, H, I.tok _, ⟨_, rfl⟩, p.val sm (.str _)⟩
  · rename_i n k
    cases r1 with
    | ref q1 =>
      cases r2
      cases hn : S[n]? with
      | none => simp only [hn] at p; exact p.elim
      | some o =>
        cases o with
        | lst a =>
          simp only [hn] at p
          by_cases hz : -(2 ^ 63) ≤ k ∧ k < 2 ^ 63 ∧ a.length * k.toNat ≤ sizeLine
          · rw [if_pos hz] at p
            obtain ⟨va, h1, z1⟩ := sm.obj n _ _ hn q1
            exact op_rep pins s σ H _ _ v u Q I rx ry ⟨_, _, _, rfl, rfl, h1, hz.1, hz.2.1, by rw [← RelDs.length z1]; exact hz.2.2, Post.newL sm (RelDs.rep z1 _) p⟩
          · rw [if_neg hz] at p; exact p.elim
        | dK _ => simp only [hn] at p; exact p.elim
        | dT _ => simp only [hn] at p; exact p.elim
        | ins _ _ => simp only [hn] at p; exact p.elim
        | exo _ _ => simp only [hn] at p; exact p.elim
        | exd _ => simp only [hn] at p; exact p.elim
        | dKL _ => simp only [hn] at p; exact p.elim
        | dTL _ => simp only [hn] at p; exact p.elim
        | xdo _ => simp only [hn] at p; exact p.elim
  · rename_i a k
    cases r1 with
    | tup t1 x1 q1 =>
      cases r2
      obtain ⟨hz, p⟩ := Post.ite p
      have l1 := RelDs.length q1
      exact op_repW pins s σ H _ _ v u Q I rx ry ⟨_, _, _, rfl, rfl, t1, fun e => hz.1 (List.eq_nil_of_length_eq_zero (by rw [l1, e]; rfl)), hz.2.1, by rw [← l1]; exact hz.2.2, Post.newT sm (RelDs.rep q1 _) p⟩
  · exact p.elim
theorem od_mod : OpD X Γ E (binaryOp .Mod) modD := by
  intro pins s σ H x y v u Q I rx ry ⟨φ, S, dx, dy, sm, r1, r2, p⟩
  unfold modD at p
  split at p
  · cases r1; cases r2
    obtain ⟨hz, p⟩ := Post.ite p
    exact op_mod pins s σ H _ _ v u Q I rx ry ⟨_, _, rfl, rfl, hz, p.val sm (.int _)⟩
  · exact p.elim
theorem od_fdiv : OpD X Γ E (binaryOp .FloorDiv) fdivD := by
  intro pins s σ H x y v u Q I rx ry ⟨φ, S, dx, dy, sm, r1, r2, p⟩
  unfold fdivD at p
  split at p
  · cases r1; cases r2
    obtain ⟨hz, p⟩ := Post.ite p
    exact op_fdiv pins s σ H _ _ v u Q I rx ry ⟨_, _, rfl, rfl, hz, p.val sm (.int _)⟩
  · exact p.elim
theorem od_pow : OpD X Γ E (binaryOp .Pow) powD := by
  intro pins s σ H x y v u Q I rx ry ⟨φ, S, dx, dy, sm, r1, r2, p⟩
  unfold powD at p
  split at p
  · cases r1; cases r2
    obtain ⟨hz, p⟩ := Post.ite p
    exact op_pow pins s σ H _ _ v u Q I rx ry ⟨_, _, rfl, rfl, hz, p.val sm (.int _)⟩
  · exact p.elim
theorem ud_neg : UnD X Γ E (unaryOp .USub) negD := by
  intro pins s σ H x v Q I rx ⟨φ, S, dx, sm, r1, p⟩
  unfold negD at p
  split at p
  · cases r1
    exact un_neg pins s σ H _ v Q I rx ⟨_, rfl, p.val sm (.int _)⟩
  · exact p.elim
theorem od_lt : OpD X Γ E (compareOp .Lt) ltD := by
  intro pins s σ H x y v u Q I rx ry ⟨φ, S, dx, dy, sm, r1, r2, p⟩
  unfold ltD at p
  split at p
  · cases r1; cases r2
    exact op_lt pins s σ H _ _ v u Q I rx ry ⟨_, _, rfl, rfl, p.val sm (.bl _)⟩
  · cases r1; cases r2
    exact op_lt_str pins s σ H _ _ v u Q I rx ry ⟨_, _, rfl, rfl, p.val sm (.bl _)⟩
  · exact p.elim
theorem od_le : OpD X Γ E (compareOp .LtE) leD := by
  intro pins s σ H x y v u Q I rx ry ⟨φ, S, dx, dy, sm, r1, r2, p⟩
  unfold leD at p
  split at p
  · cases r1; cases r2
    exact op_le pins s σ H _ _ v u Q I rx ry ⟨_, _, rfl, rfl, p.val sm (.bl _)⟩
  · exact p.elim
theorem od_gt : OpD X Γ E (compareOp .Gt) gtD := by
  intro pins s σ H x y v u Q I rx ry ⟨φ, S, dx, dy, sm, r1, r2, p⟩
  unfold gtD at p
  split at p
  · cases r1; cases r2
    exact op_gt pins s σ H _ _ v u Q I rx ry ⟨_, _, rfl, rfl, p.val sm (.bl _)⟩
  · exact p.elim
theorem od_ge : OpD X Γ E (compareOp .GtE) geD := by
  intro pins s σ H x y v u Q I rx ry ⟨φ, S, dx, dy, sm, r1, r2, p⟩
  unfold geD at p
  split at p
  · cases r1; cases r2
    exact op_ge pins s σ H _ _ v u Q I rx ry ⟨_, _, rfl, rfl, p.val sm (.bl _)⟩
  · exact p.elim
theorem isNone_rel {K : PySem.W.Frag} {H : Hp} {φ : List Addr} {d : D} {v : V} (r : RelD K H φ d v) : decide (v = .non) = isNone d := by
  cases r <;> simp [isNone]
theorem od_isN : OpD X Γ E (compareOp .Is) isNoneD := by
  intro pins s σ H x y v u Q I rx ry ⟨φ, S, dx, dy, sm, r1, r2, p⟩
  unfold isNoneD at p
  split at p
  · cases r2
    exact op_isN pins s σ H _ _ v u Q I rx ry ⟨rfl, by rw [isNone_rel r1]; exact p.val sm (.bl _)⟩
  · exact p.elim
theorem od_notN : OpD X Γ E (compareOp .IsNot) notNoneD := by
  intro pins s σ H x y v u Q I rx ry ⟨φ, S, dx, dy, sm, r1, r2, p⟩
  unfold notNoneD at p
  split at p
  · cases r2
    exact op_notN pins s σ H _ _ v u Q I rx ry ⟨rfl, by rw [isNone_rel r1]; exact p.val sm (.bl _)⟩
  · exact p.elim
theorem od_isB : OpD X Γ E (compareOp .Is) isBlD := by
  intro pins s σ H x y v u Q I rx ry ⟨φ, S, dx, dy, sm, r1, r2, p⟩
  unfold isBlD at p
  split at p
  · cases r1; cases r2
    exact op_is_bl pins s σ H _ _ v u Q I rx ry ⟨_, _, rfl, rfl, p.val sm (.bl _)⟩
  · exact p.elim
theorem od_notB : OpD X Γ E (compareOp .IsNot) notBlD := by
  intro pins s σ H x y v u Q I rx ry ⟨φ, S, dx, dy, sm, r1, r2, p⟩
  unfold notBlD at p
  split at p
  · cases r1; cases r2
    exact op_isnot_bl pins s σ H _ _ v u Q I rx ry ⟨_, _, rfl, rfl, p.val sm (.bl _)⟩
  · exact p.elim
end

/-! ### in, not in -/
def memD (x c : D) : M D := ofB fun S => match x, c with
  | .str x, .str z => some (!(Builtin.Str.occurrences z x 0 z.length 1).isEmpty)
  | _, _ => inB S x c
def nmemD (x c : D) : M D := ofB fun S => match x, c with
  | .str x, .str z => some (!(!(Builtin.Str.occurrences z x 0 z.length 1).isEmpty))
  | _, _ => (inB S x c).map (!·)
section
variable {X : Cx} {Γ : Nat → Addr} {E : XK}
theorem od_in (hu : X.A.units + 65 < cLine) : OpD X Γ E (compareOp .In) memD := by
  intro pins s σ H x y v u Q I rx ry ⟨φ, S, dx, dy, sm, r1, r2, p⟩
  obtain ⟨b, h, q⟩ := ofB_post sm p
  split at h
  · cases r1; cases r2
    cases h
    exact op_in_str pins s σ H _ _ v u Q I rx ry ⟨_, _, rfl, rfl, q⟩
  · exact (in_seqD hu I rx ry sm r1 r2 h).1 q
theorem od_notIn (hu : X.A.units + 65 < cLine) : OpD X Γ E (compareOp .NotIn) nmemD := by
  intro pins s σ H x y v u Q I rx ry ⟨φ, S, dx, dy, sm, r1, r2, p⟩
  obtain ⟨b, h, q⟩ := ofB_post sm p
  split at h
  · cases r1; cases r2
    cases h
    exact op_notin_str pins s σ H _ _ v u Q I rx ry ⟨_, _, rfl, rfl, q⟩
  · obtain ⟨c, h', rfl⟩ := Option.map_eq_some_iff.mp h
    exact (in_seqD hu I rx ry sm r1 r2 h').2 q
end

/-! ### chains -/
section
variable {X : Cx} {Γ : Nat → Addr} {E : XK} {a b c : Expr} {ma mb mc : Env → M D} {pos : Pos}
def chM (f g : D → D → M D) (ma mb mc : Env → M D) : Env → M D := fun r => do
  let x ← ma r
  let y ← mb r
  let z ← f x y
  let k ← asB z
  if k = true then (do
    let w ← mc r
    g y w) else pure (.bl false)
theorem re_chain {op op' : CmpOp} {f g : D → D → M D} (ho : OpD X Γ E (compareOp op) f) (ho' : OpD X Γ E (compareOp op') g) (ha : RE X Γ E a ma) (hb : RE X Γ E b mb) (hc : RE X Γ E c mc)
    (hm : lastMarks [op, op'] [b, c] = false := by with_unfolding_all rfl) : RE X Γ E (.Compare a [op, op'] [b, c] pos) (chM f g ma mb mc) := by
  refine PE.weaken (pe_chain ho ho' ha hb hc hm) fun σ H Q ⟨φ, r, S, s, q, p⟩ => ?_
  refine tE_bnd s q p fun φ1 S1 d1 v1 H1 e1 s1 q1 r1 p1 => ?_
  refine tE_bnd s1 q1 p1 fun φ2 S2 d2 v2 H2 e2 s2 q2 r2 p2 => ?_
  refine ⟨φ2, S2, d1, d2, s2, RelD.mono e2 _ _ r1, r2, ?_⟩
  refine (Post.bnd (rel := rD X.K) p2).imp fun v3 H3 ⟨φ3, S3, d3, e3, s3, r3, p3⟩ => ?_
  obtain ⟨k, rfl, p4⟩ := asB_bnd r3 p3
  refine ⟨k, rfl, ?_⟩
  cases k with
  | true =>
    exact tE_bnd s3 (q2.mono e3) p4 fun φ4 S4 d4 v4 H4 e4 s4 q4 r4 p5 => ⟨φ4, S4, d2, d4, s4, RelD.mono (e3.trans e4) _ _ r2, r4, p5⟩
  | false => exact p4.val s3 (.bl false)
theorem rt_chain {op op' : CmpOp} {f g : D → D → M D} (ho : OpD X Γ E (compareOp op) f) (ho' : OpD X Γ E (compareOp op') g) (ha : RE X Γ E a ma) (hb : RE X Γ E b mb) (hc : RE X Γ E c mc)
    (hm : lastMarks [op, op'] [b, c] = false := by with_unfolding_all rfl) : RT X Γ E (.Compare a [op, op'] [b, c] pos) (tstM (chM f g ma mb mc)) := by
  refine PT.weaken (pt_chain ho ho' ha hb hc hm) fun σ H Q ⟨φ, r, S, s, q, p⟩ => ?_
  have p0 : Post X.K Γ E rB φ H (((chM f g ma mb mc r) >>= asB) S) Q := p
  unfold chM at p0
  rw [bnd_assoc] at p0
  refine tE_bnd s q p0 fun φ1 S1 d1 v1 H1 e1 s1 q1 r1 p1 => ?_
  rw [bnd_assoc] at p1
  refine tE_bnd s1 q1 p1 fun φ2 S2 d2 v2 H2 e2 s2 q2 r2 p2 => ?_
  rw [bnd_assoc] at p2
  refine ⟨φ2, S2, d1, d2, s2, RelD.mono e2 _ _ r1, r2, ?_⟩
  refine (Post.bnd (rel := rD X.K) p2).imp fun v3 H3 ⟨φ3, S3, d3, e3, s3, r3, p3⟩ => ?_
  rw [bnd_assoc] at p3
  obtain ⟨k, rfl, p4⟩ := asB_bnd r3 p3
  refine ⟨k, rfl, ?_⟩
  cases k with
  | true =>
    have p5 : Post X.K Γ E rB φ3 H3 (((mc r >>= fun w => g d2 w) >>= asB) S3) Q := p4
    rw [bnd_assoc] at p5
    exact tE_bnd s3 (q2.mono e3) p5 fun φ4 S4 d4 v4 H4 e4 s4 q4 r4 p6 => ⟨φ4, S4, d2, d4, s4, RelD.mono (e3.trans e4) _ _ r2, r4, (Post.bnd (rel := rD X.K) p6).imp fun v H5 ⟨φ5, S5, d, e5, s5, rv, p7⟩ => asB_post s5 rv p7⟩
  | false => exact asB_post s3 (.bl false) (show Post X.K Γ E rB φ3 H3 (asB (.bl false) S3) Q from p4)
end

open PySem PySem.Spec PyProof.Rows L2

/-! ### lists by their items -/
def unInt : D → Option Int
  | .int i => some i
  | _ => none
def unBl : D → Option Bool
  | .bl b => some b
  | _ => none
def unStr : D → Option Str
  | .str x => some x
  | _ => none
def allOf {α : Type} (f : D → Option α) : List D → Option (List α)
  | [] => some []
  | x :: xs => match f x, allOf f xs with
    | some a, some r => some (a :: r)
    | _, _ => none
/-- a list that is read -/
def seqL (S : Sto) : D → Option (List D)
  | .fl xs => some xs
  | .ref n => match S[n]? with
    | some (.lst xs) => some xs
    | _ => none
  | _ => none
section
variable {K : PySem.W.Frag} {Γ : Nat → Addr} {φ : List Addr} {S : Sto} {H : Hp}
theorem allOf_rel {α : Type} {f : D → Option α} {g : α → V} (h : ∀ d a v, f d = some a → RelD K H φ d v → v = g a) : ∀ {ds : List D} {vs : List V} {as : List α}, allOf f ds = some as → RelDs K H φ ds vs → vs = as.map g
  | [], _, _, e, r => by
    cases r
    unfold allOf at e
    cases e
    rfl
  | d :: ds, _, _, e, r => by
    cases r with
    | cons r1 r2 =>
      unfold allOf at e
      split at e
      · rename_i a q h1 h2
        cases e
        rw [h d a _ h1 r1, allOf_rel h h2 r2]
        rfl
      · cases e
theorem unInt_rel (d : D) (a : Int) (v : V) (h : unInt d = some a) (r : RelD K H φ d v) : v = .int a := by
  cases d <;> simp [unInt] at h
  subst h
  cases r
  rfl
theorem unBl_rel (d : D) (a : Bool) (v : V) (h : unBl d = some a) (r : RelD K H φ d v) : v = .bl a := by
  cases d <;> simp [unBl] at h
  subst h
  cases r
  rfl
theorem unStr_rel (d : D) (a : Str) (v : V) (h : unStr d = some a) (r : RelD K H φ d v) : v = .str a := by
  cases d <;> simp [unStr] at h
  subst h
  cases r
  rfl
theorem seqL_rel (s : Sim K Γ φ S H) {d : D} {v : V} {xs : List D} (h : seqL S d = some xs) (r : RelD K H φ d v) : ∃ a vs, v = .ref a ∧ SqL K H a vs ∧ RelDs K H φ xs vs := by
  cases d with
  | fl ys =>
    unfold seqL at h
    cases h
    cases r with
    | fl hf hr => exact ⟨_, _, rfl, hf.sq, hr⟩
  | ref n =>
    unfold seqL at h
    cases r with
    | ref hq =>
      cases hS : S[n]? with
      | none => simp only [hS] at h; cases h
      | some o =>
        cases o with
        | lst ys =>
          simp only [hS] at h
          cases h
          obtain ⟨vs, h1, h2⟩ := s.obj n _ _ hS hq
          exact ⟨_, vs, rfl, SqL.of h1, h2⟩
        | dK _ => simp only [hS] at h; cases h
        | dT _ => simp only [hS] at h; cases h
        | ins _ _ => simp only [hS] at h; cases h
        | exo _ _ => simp only [hS] at h; cases h
        | exd _ => simp only [hS] at h; cases h
        | dKL _ => simp only [hS] at h; cases h
        | dTL _ => simp only [hS] at h; cases h
        | xdo _ => simp only [hS] at h; cases h
  | _ => unfold seqL at h; cases h
theorem relDs_at {ds : List D} {vs : List V} {i : Int} {d : D} (r : RelDs K H φ ds vs) (h : atI ds i = some d) : ∃ v, atI vs i = some v ∧ RelD K H φ d v := by
  unfold atI at h ⊢
  rw [← RelDs.length r]
  cases e : ixN ds.length i with
  | none => rw [e] at h; cases h
  | some j =>
    rw [e] at h
    exact RelDs.get r h
end

/-! ### built-in functions -/
def lenD : List D → M D
  | [d] => fun S => match d with
    | .str x => if x.length ≤ sizeLine then .ok (.int x.length) S else .no
    | .tup xs => .ok (.int xs.length) S
    | .fl xs => .ok (.int xs.length) S
    | .ref n => match S[n]? with
      | some (.lst xs) => .ok (.int xs.length) S
      | some (.dK xs) => .ok (.int xs.length) S
      | _ => .no
    | _ => .no
  | _ => stuck
def absD : List D → M D
  | [.int i] => pure (.int (if i < 0 then -i else i))
  | _ => stuck
def sumD : List D → M D
  | [d] => fun S => match seqL S d with
    | some xs => match allOf unInt xs with
      | some ns => .ok (.int ns.sum) S
      | none => .no
    | none => .no
  | _ => stuck
def allD : List D → M D
  | [d] => fun S => match seqL S d with
    | some xs => match allOf unBl xs with
      | some ns => .ok (.bl (ns.all id)) S
      | none => .no
    | none => .no
  | _ => stuck
def anyD : List D → M D
  | [d] => fun S => match seqL S d with
    | some xs => match allOf unBl xs with
      | some ns => .ok (.bl (ns.any id)) S
      | none => .no
    | none => .no
  | _ => stuck
def tupleD : List D → M D
  | [.tup xs] => pure (.tup xs)
  | [d] => fun S => match seqL S d with
    | some xs => .ok (.tup xs) S
    | none => .no
  | _ => stuck
def listD : List D → M D
  | [.tup xs] => newO (.lst xs)
  | [d] => fun S => match seqL S d with
    | some xs => newO (.lst xs) S
    | none => .no
  | _ => stuck
def intD : List D → M D
  | [.int i] => pure (.int i)
  | [.bl b] => pure (.int (if b then 1 else 0))
  | _ => stuck
def showB (S : Sto) (d : D) : Option Str := match toPy S deep d with
  | some p => if p.depth ≤ 64 ∧ p.showable = true ∧ p.shown.length ≤ sizeLine then some p.shown else none
  | none => none
def reprD : List D → M D
  | [d] => fun S => match showB S d with
    | some z => .ok (.str z) S
    | none => .no
  | _ => stuck
mutual
theorem noDict : ∀ p : PyData, p.canLay0 = true → p.hasDict = false
  | .none, _ => by simp [PyData.hasDict]
  | .bool _, _ => by simp [PyData.hasDict]
  | .int _, _ => by simp [PyData.hasDict]
  | .str _, _ => by simp [PyData.hasDict]
  | .list xs, h => by
    have := noDicts xs (by simpa [PyData.canLay0] using h)
    simpa [PyData.hasDict] using this
  | .tuple xs, h => by
    have := noDicts xs (by simpa [PyData.canLay0] using h)
    simpa [PyData.hasDict] using this
  | .dict _, h => by simp [PyData.canLay0] at h
theorem noDicts : ∀ ps : List PyData, PyData.canLayAll0 ps = true → PyData.hasDictAll ps = false
  | [], _ => by simp [PyData.hasDictAll]
  | p :: ps, h => by
    have h' : (p.canLay0 && PyData.canLayAll0 ps) = true := by simpa [PyData.canLayAll0] using h
    rw [Bool.and_eq_true] at h'
    simp [PyData.hasDictAll, noDict p h'.1, noDicts ps h'.2]
end
section
variable {X : Cx} {Γ : Nat → Addr} {E : XK}
theorem rel1 {K : PySem.W.Frag} {H : Hp} {φ : List Addr} {d : D} {xs : List V} (r : RelDs K H φ [d] xs) : ∃ v, xs = [v] ∧ RelD K H φ d v := by
  cases r with
  | cons a b => cases b; exact ⟨_, rfl, a⟩
theorem cd_len : CallD X Γ E (.builtin "len") lenD := by
  intro pins s σ H xs us Q I rv ⟨φ, S, ds, sm, r, p⟩
  unfold lenD at p
  split at p
  · rename_i d
    obtain ⟨v, rfl, r1⟩ := rel1 r
    split at p
    · cases r1
      rename_i x
      by_cases hz : x.length ≤ sizeLine
      · rw [if_pos hz] at p
        exact call_len_str pins s σ H _ us Q I rv ⟨_, rfl, hz, p.here sm (.int _)⟩
      · rw [if_neg hz] at p; exact p.elim
    · cases r1 with
      | tup hT hx hr => exact call_len_seq pins s σ H _ us Q I rv ⟨_, _, rfl, .inr hT, p.here sm (by rw [RelDs.length hr]; exact .int _)⟩
    · cases r1 with
      | fl hF hr => exact call_len_seq pins s σ H _ us Q I rv ⟨_, _, rfl, .inl hF.sq, p.here sm (by rw [RelDs.length hr]; exact .int _)⟩
    · rename_i n
      cases r1 with
      | ref hq =>
        split at p
        · rename_i ys hS
          obtain ⟨vs, h1, h2⟩ := sm.obj n _ _ hS hq
          exact call_len_seq pins s σ H _ us Q I rv ⟨_, _, rfl, .inl (SqL.of h1), p.here sm (by rw [RelDs.length h2]; exact .int _)⟩
        · rename_i ys hS
          obtain ⟨vs, h1, h2⟩ := sm.obj n _ _ hS hq
          exact call_lenD pins s σ H _ us Q I rv ⟨_, _, rfl, h1, p.here sm (by rw [Paired.length h2]; exact .int _)⟩
        · exact p.elim
    · exact p.elim
  · exact p.elim
theorem cd_abs : CallD X Γ E (.builtin "abs") absD := by
  intro pins s σ H xs us Q I rv ⟨φ, S, ds, sm, r, p⟩
  unfold absD at p
  split at p
  · obtain ⟨v, rfl, r1⟩ := rel1 r
    cases r1
    exact call_abs pins s σ H _ us Q I rv ⟨_, rfl, p.val sm (.int _)⟩
  · exact p.elim
theorem cd_sum (hc : X.calm = true) : CallD X Γ E (.builtin "sum") sumD := by
  intro pins s σ H xs us Q I rv ⟨φ, S, ds, sm, r, p⟩
  unfold sumD at p
  split at p
  · obtain ⟨v, rfl, r1⟩ := rel1 r
    split at p
    · rename_i ys hy
      split at p
      · rename_i ns hn
        obtain ⟨a, vs, rfl, h1, h2⟩ := seqL_rel sm hy r1
        have e := allOf_rel unInt_rel hn h2
        subst e
        exact cr_sum hc pins s σ H _ us Q I rv ⟨a, ns, rfl, h1, p.here sm (.int _)⟩
      · exact p.elim
    · exact p.elim
  · exact p.elim
theorem cd_all (hc : X.calm = true) : CallD X Γ E (.builtin "all") allD := by
  intro pins s σ H xs us Q I rv ⟨φ, S, ds, sm, r, p⟩
  unfold allD at p
  split at p
  · obtain ⟨v, rfl, r1⟩ := rel1 r
    split at p
    · rename_i ys hy
      split at p
      · rename_i ns hn
        obtain ⟨a, vs, rfl, h1, h2⟩ := seqL_rel sm hy r1
        have e := allOf_rel unBl_rel hn h2
        subst e
        exact cr_all hc pins s σ H _ us Q I rv ⟨a, ns, rfl, h1, p.here sm (.bl _)⟩
      · exact p.elim
    · exact p.elim
  · exact p.elim
theorem cd_any (hc : X.calm = true) : CallD X Γ E (.builtin "any") anyD := by
  intro pins s σ H xs us Q I rv ⟨φ, S, ds, sm, r, p⟩
  unfold anyD at p
  split at p
  · obtain ⟨v, rfl, r1⟩ := rel1 r
    split at p
    · rename_i ys hy
      split at p
      · rename_i ns hn
        obtain ⟨a, vs, rfl, h1, h2⟩ := seqL_rel sm hy r1
        have e := allOf_rel unBl_rel hn h2
        subst e
        exact cr_any hc pins s σ H _ us Q I rv ⟨a, ns, rfl, h1, p.here sm (.bl _)⟩
      · exact p.elim
    · exact p.elim
  · exact p.elim
theorem cd_tuple : CallD X Γ E (.type "tuple") tupleD := by
  intro pins s σ H xs us Q I rv ⟨φ, S, ds, sm, r, p⟩
  unfold tupleD at p
  split at p
  · obtain ⟨v, rfl, r1⟩ := rel1 r
    cases r1 with
    | tup hT hx hr => exact call_tuple_of pins s σ H _ us Q I rv ⟨_, _, rfl, .inr ⟨hT, p.val sm (.tup hT hx hr)⟩⟩
  · obtain ⟨v, rfl, r1⟩ := rel1 r
    dsimp only at p
    split at p
    · rename_i ys hy
      obtain ⟨a, vs, rfl, h1, h2⟩ := seqL_rel sm hy r1
      exact call_tuple_of pins s σ H _ us Q I rv ⟨_, _, rfl, .inl ⟨h1, Post.newT sm h2 p⟩⟩
    · exact p.elim
  · exact p.elim
theorem cd_list : CallD X Γ E (.type "list") listD := by
  intro pins s σ H xs us Q I rv ⟨φ, S, ds, sm, r, p⟩
  unfold listD at p
  split at p
  · obtain ⟨v, rfl, r1⟩ := rel1 r
    cases r1 with
    | tup hT hx hr => exact call_list_of pins s σ H _ us Q I rv ⟨_, _, rfl, .inr hT, Post.newL sm hr p⟩
  · obtain ⟨v, rfl, r1⟩ := rel1 r
    dsimp only at p
    split at p
    · rename_i ys hy
      obtain ⟨a, vs, rfl, h1, h2⟩ := seqL_rel sm hy r1
      exact call_list_of pins s σ H _ us Q I rv ⟨_, _, rfl, .inl h1, Post.newL sm h2 p⟩
    · exact p.elim
  · exact p.elim
theorem cd_int : CallD X Γ E (.type "int") intD := by
  intro pins s σ H xs us Q I rv ⟨φ, S, ds, sm, r, p⟩
  unfold intD at p
  split at p
  · obtain ⟨v, rfl, r1⟩ := rel1 r
    cases r1
    exact call_int1 pins s σ H _ us Q I rv (.inl ⟨_, rfl, p.val sm (.int _)⟩)
  · obtain ⟨v, rfl, r1⟩ := rel1 r
    cases r1
    exact call_int1 pins s σ H _ us Q I rv (.inr ⟨_, rfl, p.val sm (.int _)⟩)
  · exact p.elim
theorem not_sys (hz : SysIn X.base) {pins : List (Addr × Obj)} {s : Shared} {σ : Sl} {H : Hp} (I : Inv X pins σ H s) {a : Addr} {o : Obj} {its : Array Value} {n : Nat} (h : s.heap.get? a = some o) (hd : o.data = .seq its n) : sysModules ≠ a := by
  obtain ⟨m, hm⟩ := hz
  obtain ⟨o', es, ep, e, d, _⟩ := hm.keeps I.bk
  rintro rfl
  rw [h] at e
  cases e
  rw [hd] at d
  cases d
theorem readsAll_of {s : Shared} {H : Hp} {φ : List Addr} {f : D → Option PyData} (h : ∀ d v p u, f d = some p → RelD X.K H φ d v → RelV v u → ∃ as, Reads s.heap u p as ∧ sysModules ∉ as) :
    ∀ {ds : List D} {vs : List V} {us : List Value} {ps : List PyData}, toPys f ds = some ps → RelDs X.K H φ ds vs → Vals vs us → ∃ as, ReadsAll s.heap us ps as ∧ sysModules ∉ as
  | [], _, _, _, e, r, rv => by
    cases r
    cases rv
    unfold toPys at e
    cases e
    exact ⟨_, .nil, List.not_mem_nil⟩
  | d :: ds, _, _, _, e, r, rv => by
    cases r with
    | cons r1 r2 =>
      cases rv with
      | cons v1 v2 =>
        obtain ⟨p, q, rfl, h1, h2⟩ := toPys_cons e
        obtain ⟨as, k1, n1⟩ := h _ _ _ _ h1 r1 v1
        obtain ⟨bs, k2, n2⟩ := readsAll_of h h2 r2 v2
        exact ⟨_, .cons k1 k2, fun z => (List.mem_append.mp z).elim n1 n2⟩
theorem keyPy_reads {P : Program} {w : World} {h : Heap} (k : Key) (key : Value) (e : (mixKind P w).is k key = true) : Reads h key (keyPy k) [] := by
  have e' : keyIs k key = true := e
  rcases keyIs_shape e' with ⟨i, t, rfl, rfl⟩ | ⟨x, t, rfl, rfl⟩
  · exact .int i t
  · exact .str x t
theorem pairs_of {s : Shared} {H : Hp} {φ : List Addr} {f : D → Option PyData} (h : ∀ d v p u, f d = some p → RelD X.K H φ d v → RelV v u → ∃ as, Reads s.heap u p as ∧ sysModules ∉ as) :
    ∀ {ds : List (Key × D)} {vs : List (Key × V)} {us : List (Key × Value)} {ps : List (PyData × PyData)}, toPyK f ds = some ps → RelKv X.K H φ ds vs → KV vs us → ∃ as, PyProof.V.PairsRead s.heap keyPy us ps as ∧ sysModules ∉ as
  | [], _, _, _, e, r, rv => by
    cases r
    cases rv
    unfold toPyK at e
    cases e
    exact ⟨_, .nil, List.not_mem_nil⟩
  | (k, d) :: ds, _, _, _, e, r, rv => by
    cases r with
    | @cons _ q _ qs r1 r2 =>
      cases rv with
      | @cons _ t _ ts v1 v2 =>
        unfold toPyK at e
        split at e
        · rename_i p r3 h1 h2
          cases e
          obtain ⟨k1, d1⟩ := q
          obtain ⟨k2, u2⟩ := t
          obtain ⟨e1, r1⟩ := r1
          obtain ⟨e2, v1⟩ := v1
          obtain rfl : k = k1 := e1
          obtain rfl : k = k2 := e2
          obtain ⟨as, z1, n1⟩ := h _ _ _ _ h1 r1 v1
          obtain ⟨bs, z2, n2⟩ := pairs_of h h2 r2 v2
          exact ⟨_, .cons z1 z2, fun z => (List.mem_append.mp z).elim n1 n2⟩
        · cases e
theorem reads_of (hz : SysIn X.base) {pins : List (Addr × Obj)} {s : Shared} {σ : Sl} {H : Hp} {φ : List Addr} {S : Sto} (I : Inv X pins σ H s) (sm : Sim X.K Γ φ S H) : ∀ (n : Nat) (d : D) (v : V) (p : PyData) (u : Value), toPy S n d = some p → RelD X.K H φ d v → RelV v u → ∃ as, Reads s.heap u p as ∧ sysModules ∉ as
  | n, .non, _, _, _, e, r, rv => by cases r; cases rv; cases n <;> (unfold toPy at e; cases e; exact ⟨_, .none, List.not_mem_nil⟩)
  | n, .bl b, _, _, _, e, r, rv => by cases r; cases rv; cases n <;> (unfold toPy at e; cases e; exact ⟨_, .bool b, List.not_mem_nil⟩)
  | n, .int i, _, _, _, e, r, rv => by cases r; obtain ⟨t, rfl⟩ := rv; cases n <;> (unfold toPy at e; cases e; exact ⟨_, .int i t, List.not_mem_nil⟩)
  | n, .str x, _, _, _, e, r, rv => by cases r; obtain ⟨t, rfl⟩ := rv; cases n <;> (unfold toPy at e; cases e; exact ⟨_, .str x t, List.not_mem_nil⟩)
  | n, .exc _ _ _, _, _, _, e, _, _ => by cases n <;> (unfold toPy at e; cases e)
  | 0, .tup _, _, _, _, e, _, _ => by unfold toPy at e; cases e
  | 0, .fl _, _, _, _, e, _, _ => by unfold toPy at e; cases e
  | 0, .ref _, _, _, _, e, _, _ => by unfold toPy at e; cases e
  | n + 1, .tup xs, _, _, _, e, r, rv => by
    unfold toPy at e
    obtain ⟨ps, h1, rfl⟩ := Option.map_eq_some_iff.mp e
    cases r with
    | tup hT hx hr =>
      cases rv
      obtain ⟨its, v1, ⟨o, ho, hc, k, hd⟩, _⟩ := I.tuple hT
      obtain ⟨as, q, nn⟩ := readsAll_of (fun d v p u h1 h2 h3 => reads_of hz I sm n d v p u h1 h2 h3) h1 hr v1
      exact ⟨_, .tuple ho hc hd q, nn⟩
  | n + 1, .fl xs, _, _, _, e, r, rv => by
    unfold toPy at e
    obtain ⟨ps, h1, rfl⟩ := Option.map_eq_some_iff.mp e
    cases r with
    | fl hF hr =>
      cases rv
      obtain ⟨its, v1, ⟨o, k, ho, hc, _, hd⟩, _⟩ := I.list hF.sq
      obtain ⟨as, q, nn⟩ := readsAll_of (fun d v p u h1 h2 h3 => reads_of hz I sm n d v p u h1 h2 h3) h1 hr v1
      exact ⟨_, .list ho hc hd q, fun z => (List.mem_cons.mp z).elim (not_sys hz I ho hd) nn⟩
  | n + 1, .ref k, _, _, _, e, r, rv => by
    unfold toPy at e
    cases r with
    | ref hq =>
      cases rv
      cases hS : S[k]? with
      | none => simp only [hS] at e; cases e
      | some o =>
        cases o with
        | lst xs =>
          simp only [hS] at e
          obtain ⟨ps, h1, rfl⟩ := Option.map_eq_some_iff.mp e
          obtain ⟨vs, h2, h3⟩ := sm.obj k _ _ hS hq
          obtain ⟨its, v1, ⟨o, k, ho, hc, _, hd⟩, _⟩ := I.list (SqL.of h2)
          obtain ⟨as, q, nn⟩ := readsAll_of (fun d v p u h1 h2 h3 => reads_of hz I sm n d v p u h1 h2 h3) h1 h3 v1
          exact ⟨_, .list ho hc hd q, fun z => (List.mem_cons.mp z).elim (not_sys hz I ho hd) nn⟩
        | dK kvs =>
          simp only [hS] at e
          obtain ⟨ps, h1, rfl⟩ := Option.map_eq_some_iff.mp e
          obtain ⟨vs, h2, h3⟩ := sm.obj k _ _ hS hq
          obtain ⟨_, lo, us, rel, dd⟩ := dk_of I.hok h2
          obtain ⟨as, q, nn⟩ := pairs_of (fun d v p u h1 h2 h3 => reads_of hz I sm n d v p u h1 h2 h3) h1 h3 rel
          refine ⟨_, PyProof.V.reads_dictOf keyPy_reads dd q, fun z => (List.mem_cons.mp z).elim (fun z => ?_) nn⟩
          rw [← z] at lo
          exact absurd lo (by decide)
        | dT kvs => simp only [hS] at e; cases e
        | ins _ _ => simp only [hS] at e; cases e
        | exo _ _ => simp only [hS] at e; cases e
        | exd _ => simp only [hS] at e; cases e
        | dKL _ => simp only [hS] at e; cases e
        | dTL _ => simp only [hS] at e; cases e
        | xdo _ => simp only [hS] at e; cases e
theorem cd_repr (hz : SysIn X.base) (hq : Quiet X.A) (hu : X.A.units + 100 < cLine) : CallD X Γ E (.builtin "repr") reprD := by
  intro pins s σ H xs us Q I rv ⟨φ, S, ds, sm, r, p⟩
  unfold reprD at p
  split at p
  · rename_i d
    obtain ⟨v, rfl, r1⟩ := rel1 r
    split at p
    · rename_i z hz'
      have q := p.here sm (.str z)
      unfold showB at hz'
      split at hz'
      · rename_i pd hp
        by_cases hs : pd.depth ≤ 64 ∧ pd.showable = true ∧ pd.shown.length ≤ sizeLine
        · rw [if_pos hs] at hz'
          have e : pd.shown = z := Option.some.inj hz'
          obtain ⟨hdp, h2, h3⟩ := hs
          obtain ⟨u, rfl, ru⟩ := vals1 rv
          obtain ⟨as, rd, ns⟩ := reads_of hz I sm _ _ _ _ _ hp r1 ru
          have fin : ∀ (h' : Heap) (t : Tok) (tk : Nat), (∀ b o, s.heap.get? b = some o → h'.get? b = some o) → EP X pins σ Q (.str pd.shown t) { s with heap := h', toks := tk } := fun h' t tk k => ⟨.str z, H, I.kept k, ⟨t, by rw [e]⟩, q⟩
          have base : ∀ (t : Tok) (tk : Nat), EP X pins σ Q (.str pd.shown t) { s with toks := tk } := fun t tk => ⟨.str z, H, I.tok tk, ⟨t, by rw [e]⟩, q⟩
          cases rd with
          | none => exact P.repr_of_none (base _ _)
          | bool b => exact P.repr_of_bool (base _ _)
          | int i t => exact P.repr_of_int (by simpa [PyData.showable] using h2) (base _ _)
          | str x t => exact P.repr_of_str (base _ _) (by simpa [PyData.shown] using h3)
          | list a1 a2 a3 a4 => exact repr_of_reads' (.list a1 a2 a3 a4) h2 (fun _ => ns) hq (by omega) (fun _ _ z => z) (fun h' t tk k => fin h' t tk k) h3
          | tuple a1 a2 a3 a4 => exact repr_of_reads' (.tuple a1 a2 a3 a4) h2 (fun _ => ns) hq (by omega) (fun _ _ z => z) (fun h' t tk k => fin h' t tk k) h3
          | dict a1 a2 a3 a4 a5 => exact repr_of_reads' (.dict a1 a2 a3 a4 a5) h2 (fun _ => ns) hq (by omega) (fun _ _ z => z) (fun h' t tk k => fin h' t tk k) h3
        · rw [if_neg hs] at hz'; cases hz'
      · cases hz'
    · exact p.elim
  · exact p.elim
end

open PySem PySem.Spec PyProof.Rows L2

/-! ### isinstance -/
inductive Tn where
  | tInt | tBool | tStr | tTuple | tList | tDict | tNone
  deriving DecidableEq
def Tn.nm : Tn → String
  | .tInt => "int" | .tBool => "bool" | .tStr => "str" | .tTuple => "tuple" | .tList => "list" | .tDict => "dict" | .tNone => "NoneType"
def Tn.sub : Tn → Tn → Bool
  | .tBool, .tInt => true
  | .tInt, .tInt => true
  | .tBool, .tBool => true
  | .tStr, .tStr => true
  | .tTuple, .tTuple => true
  | .tList, .tList => true
  | .tDict, .tDict => true
  | .tNone, .tNone => true
  | _, _ => false
theorem kit_tn {K : PySem.W.Frag} : ∀ a b : Tn, PySem.W.kitOne K (.type a.nm) (.type b.nm) = some (a.sub b) := fun a b => by
  refine kit_ty ?_
  cases a <;> cases b <;> decide +kernel
theorem boot_tn : ∀ T : Tn, T ≠ .tNone → bootBuiltins (Str.ofString T.nm) = some (.type T.nm) := fun T h => by
  cases T <;> first | decide +kernel | exact absurd rfl h
def tyTn (S : Sto) : D → Option Tn
  | .non => some .tNone
  | .bl _ => some .tBool
  | .int _ => some .tInt
  | .str _ => some .tStr
  | .tup _ => some .tTuple
  | .fl _ => some .tList
  | .exc _ _ _ => none
  | .ref n => match S[n]? with
    | some (.lst _) => some .tList
    | some (.dK _) => some .tDict
    | some (.dT _) => some .tDict
    | _ => none
theorem tyTn_rel {K : PySem.W.Frag} {Γ : Nat → Addr} {φ : List Addr} {S : Sto} {H : Hp} {d : D} {v : V} {t : Tn} (s : Sim K Γ φ S H) (h : tyTn S d = some t) (r : RelD K H φ d v) : TyX K H v (.type t.nm) := by
  cases r with
  | non => cases h; exact .base .non
  | bl b => cases h; exact .base (.bl b)
  | int i => cases h; exact .base (.int i)
  | str x => cases h; exact .base (.str x)
  | tup hT hx hr =>
    cases h
    rcases hT with (e | ⟨o, e⟩) | ⟨o, its, n, e, c, _⟩
    · exact .base (.tup e)
    · exact .fTuple e
    · exact .kTuple e c
  | fl hF hr =>
    cases h
    rcases hF with ⟨u, e⟩ | ⟨o, its, n, e, c, _⟩
    · exact .base (.frz e)
    · exact .kList e c
  | exc _ => cases h
  | @ref n a hq =>
    unfold tyTn at h
    cases hS : S[n]? with
    | none => simp only [hS] at h; cases h
    | some o =>
      cases o with
      | lst xs =>
        simp only [hS] at h
        cases h
        obtain ⟨vs, h1, _⟩ := s.obj n _ _ hS hq
        exact .base (.lst h1)
      | dK xs =>
        simp only [hS] at h
        cases h
        obtain ⟨vs, h1, _⟩ := s.obj n _ _ hS hq
        exact .base (.dK h1)
      | dT xs =>
        simp only [hS] at h
        cases h
        obtain ⟨vs, h1, _⟩ := s.obj n _ _ hS hq
        exact .base (.dT h1)
      | ins _ _ => simp only [hS] at h; cases h
      | exo _ _ => simp only [hS] at h; cases h
      | exd _ => simp only [hS] at h; cases h
      | dKL _ => simp only [hS] at h; cases h
      | dTL _ => simp only [hS] at h; cases h
      | xdo _ => simp only [hS] at h; cases h
def isiM (T : Tn) (m : Env → M D) : Env → M D := fun r => do
  let d ← m r
  fun S => match tyTn S d with
    | some t => .ok (.bl (t.sub T)) S
    | none => .no
def isi2M (T U : Tn) (m : Env → M D) : Env → M D := fun r => do
  let d ← m r
  fun S => match tyTn S d with
    | some t => .ok (.bl (t.sub T || t.sub U)) S
    | none => .no
section
variable {X : Cx} {Γ : Nat → Addr} {E : XK} {a b c e : Expr} {es : List Expr} {ma mb mc : Env → M D} {pos p pT pU pt : Pos}
theorem re_isi (T : Tn) (he : RE X Γ E e ma) (hg : Gl X "isinstance") (hm : X.mg "isinstance" = none) (hgT : Gl X (Str.ofString T.nm)) (hmT : X.mg (Str.ofString T.nm) = none) (hT : T ≠ .tNone := by decide)
    (h1 : starEach [e, .Name (Str.ofString T.nm) pT] X.env = (false, eval e X.env) :: starEach [.Name (Str.ofString T.nm) pT] X.env := by rfl) (h2 : (backTo pos (starEach [.Name (Str.ofString T.nm) pT] X.env)).any (·.1) = false := by rfl)
    (h3 : starEach [.Name (Str.ofString T.nm) pT] X.env = [(false, eval (.Name (Str.ofString T.nm) pT) X.env)] := by rfl) : RE X Γ E (.Call (.Name "isinstance" p) [e, .Name (Str.ofString T.nm) pT] [] pos) (isiM T ma) := by
  have hb : PE X (.Name (Str.ofString T.nm) pT) (tC (.ty T.nm)) := pe_bltn hgT hmT (boot_tn T hT) rfl (by cases T <;> decide) (by cases T <;> decide)
  refine PE.weaken (pe_callB call_isi hg hm (by decide +kernel) (pa_cons he (pa_cons hb pa_nil h3) h1) (by decide) (by decide) h1 h2) fun σ H Q ⟨φ, r, S, s, q, p⟩ => ?_
  refine tE_bnd s q p fun φ1 S1 d v H1 e1 s1 q1 rv p1 => ?_
  cases ht : tyTn S1 d with
  | none => simp only [ht] at p1; exact p1.elim
  | some t =>
    simp only [ht] at p1
    exact ⟨v, .ty T.nm, _, _, t.sub T, rfl, .ty _, tyTn_rel s1 ht rv, kit_tn t T, p1.here s1 (.bl _)⟩
theorem re_isi2 {kt : Nat} (T U : Tn) (he : RE X Γ E e ma) (hg : Gl X "isinstance") (hm : X.mg "isinstance" = none) (hgT : Gl X (Str.ofString T.nm)) (hmT : X.mg (Str.ofString T.nm) = none) (hgU : Gl X (Str.ofString U.nm)) (hmU : X.mg (Str.ofString U.nm) = none) (hT : T ≠ .tNone := by decide) (hU : U ≠ .tNone := by decide)
    (h1 : starEach [e, .Tuple [.Name (Str.ofString T.nm) pT, .Name (Str.ofString U.nm) pU] kt pt] X.env = (false, eval e X.env) :: starEach [.Tuple [.Name (Str.ofString T.nm) pT, .Name (Str.ofString U.nm) pU] kt pt] X.env := by rfl)
    (h2 : (backTo pos (starEach [.Tuple [.Name (Str.ofString T.nm) pT, .Name (Str.ofString U.nm) pU] kt pt] X.env)).any (·.1) = false := by rfl)
    (h3 : starEach [.Tuple [.Name (Str.ofString T.nm) pT, .Name (Str.ofString U.nm) pU] kt pt] X.env = [(false, eval (.Tuple [.Name (Str.ofString T.nm) pT, .Name (Str.ofString U.nm) pU] kt pt) X.env)] := by rfl)
    (h4 : starEach [.Name (Str.ofString T.nm) pT, .Name (Str.ofString U.nm) pU] X.env = (false, eval (.Name (Str.ofString T.nm) pT) X.env) :: starEach [.Name (Str.ofString U.nm) pU] X.env := by rfl)
    (h5 : starEach [.Name (Str.ofString U.nm) pU] X.env = [(false, eval (.Name (Str.ofString U.nm) pU) X.env)] := by rfl) :
    RE X Γ E (.Call (.Name "isinstance" p) [e, .Tuple [.Name (Str.ofString T.nm) pT, .Name (Str.ofString U.nm) pU] kt pt] [] pos) (isi2M T U ma) := by
  have hbT : PE X (.Name (Str.ofString T.nm) pT) (tC (.ty T.nm)) := pe_bltn hgT hmT (boot_tn T hT) rfl (by cases T <;> decide) (by cases T <;> decide)
  have hbU : PE X (.Name (Str.ofString U.nm) pU) (tC (.ty U.nm)) := pe_bltn hgU hmU (boot_tn U hU) rfl (by cases U <;> decide) (by cases U <;> decide)
  refine PE.weaken (pe_callB call_isiT hg hm (by decide +kernel) (pa_cons he (pa_cons (pe_tup (pa_cons hbT (pa_cons hbU pa_nil h5) h4)) pa_nil h3) h1) (by decide) (by decide) h1 h2) fun σ H Q ⟨φ, r, S, s, q, p⟩ => ?_
  refine tE_bnd s q p fun φ1 S1 d v H1 e1 s1 q1 rv p1 => ?_
  cases ht : tyTn S1 d with
  | none => simp only [ht] at p1; exact p1.elim
  | some t =>
    simp only [ht] at p1
    refine ⟨by show 2 ≤ sizeLine; decide, fun tp htp => ⟨v, tp, [.ty T.nm, .ty U.nm], _, _, _, rfl, upd_same, .cons (.ty _) (.cons (.ty _) .nil), tyTn_rel (s1.hide htp) ht (RelD.mono (Ext.new0 htp) _ _ rv), ?_, p1 φ1 _ _ (Ext.new0 htp) (s1.hide htp) (.bl _)⟩⟩
    unfold PySem.W.kitAny
    rw [kit_tn t T]
    cases t.sub T with
    | true => rfl
    | false =>
      show PySem.W.kitAny X.K (.type t.nm) [.type U.nm] = _
      unfold PySem.W.kitAny
      rw [kit_tn t U]
      cases t.sub U with
      | true => rfl
      | false => rfl

/-! ### subscripts -/
def ixD (x y : D) : M D := fun S => match y with
  | .int i => match x with
    | .str z => if z.length ≤ sizeLine then (match atI z.cps.toList i with
      | some c => .ok (.str ⟨#[c]⟩) S
      | none => .no) else .no
    | .tup xs => match atI xs i with
      | some d => .ok d S
      | none => .no
    | .fl xs => match atI xs i with
      | some d => .ok d S
      | none => .no
    | .ref n => match S[n]? with
      | some (.lst xs) => match atI xs i with
        | some d => .ok d S
        | none => .no
      | _ => .no
    | _ => .no
  | _ => .no
theorem xd_seq : IxD X Γ E ixD := by
  intro value slice pins s σ H x y v u Q I rx ry ⟨φ, S, dx, dy, sm, r1, r2, p⟩ hs
  unfold ixD at p
  split at p
  · cases r2
    refine ix_seq value slice pins s σ H x _ v u Q I rx ry ?_ hs
    split at p
    · cases r1
      rename_i z
      by_cases hz : z.length ≤ sizeLine
      · rw [if_pos hz] at p
        split at p
        · rename_i c hc
          exact .inr (.inr ⟨_, _, c, rfl, rfl, hz, hc, p.here sm (.str _)⟩)
        · exact p.elim
      · rw [if_neg hz] at p; exact p.elim
    · split at p
      · rename_i d hd
        cases r1 with
        | tup hT hx hr =>
          obtain ⟨w, h1, h2⟩ := relDs_at hr hd
          exact .inr (.inl ⟨_, _, _, w, rfl, rfl, hT, h1, p.here sm h2⟩)
      · exact p.elim
    · split at p
      · rename_i d hd
        cases r1 with
        | fl hF hr =>
          obtain ⟨w, h1, h2⟩ := relDs_at hr hd
          exact .inl ⟨_, _, _, w, rfl, rfl, hF.sq, h1, p.here sm h2⟩
      · exact p.elim
    · split at p
      · rename_i xs hS
        split at p
        · rename_i d hd
          cases r1 with
          | ref hq =>
            obtain ⟨vs, h3, hr⟩ := sm.obj _ _ _ hS hq
            obtain ⟨w, h1, h2⟩ := relDs_at hr hd
            exact .inl ⟨_, _, _, w, rfl, rfl, SqL.of h3, h1, p.here sm h2⟩
        · exact p.elim
      · exact p.elim
    · exact p.elim
  · exact p.elim
theorem re_ix {op : D → D → M D} (hr : IxD X Γ E op) (ha : RE X Γ E a ma) (hb : RE X Γ E b mb) (hs : PlainIx b := by intro _ _; rfl) : RE X Γ E (.Subscript a b pos) (binM op ma mb) :=
  PE.weaken (pe_ix hr ha hb hs) fun σ H Q h => tE_op h fun _ _ _ q => q

/-! ### slices -/
abbrev rO : Hp → List Addr → Option Int → Option Int → Prop := fun _ _ a b => a = b
def tOp_ (K : PySem.W.Frag) (Γ : Nat → Addr) (E : XK) (m : Env → M (Option Int)) : TO := fun σ H Q => ∃ φ r S, Sim K Γ φ S H ∧ RelE K H φ r σ ∧ Post K Γ E rO φ H (m r S) Q
abbrev RO (X : Cx) (Γ : Nat → Addr) (E : XK) (e : Option Expr) (m : Env → M (Option Int)) : Prop := PO X e (tOp_ X.K Γ E m)
theorem PO.weaken {e : Option Expr} {t t' : TO} (h : PO X e t) (k : ∀ σ H Q, t' σ H Q → t σ H Q) : PO X e t' := ⟨fun pins s σ H Q I q => h.run pins s σ H Q I (k σ H Q q)⟩
def noP : Env → M (Option Int) := fun _ => pure none
def someP (m : Env → M D) : Env → M (Option Int) := fun r => do
  let d ← m r
  match d with
  | .int i => pure (some i)
  | _ => stuck
theorem ro_none : RO X Γ E none noP := PO.weaken po_none fun σ H Q ⟨φ, r, S, s, q, p⟩ => p.val (v := none) s rfl
theorem ro_some (h : RE X Γ E e ma) : RO X Γ E (some e) (someP ma) := by
  refine PO.weaken (po_some h) fun σ H Q ⟨φ, r, S, s, q, p⟩ => ?_
  refine tE_bnd s q p fun φ1 S1 d v H1 e1 s1 q1 rv p1 => ?_
  cases d with
  | int i =>
    cases rv
    exact ⟨i, rfl, p1.val (v := some i) s1 rfl⟩
  | _ => exact p1.elim
def cutL {α : Type} (xs : List α) (lo hi : Option Int) : List α := (xs.drop (HT.sIx xs.length 0 lo)).take (HT.sIx xs.length xs.length hi - HT.sIx xs.length 0 lo)
def slD (d : D) (lo hi : Option Int) : M D := fun S => match d with
  | .str z => if z.length ≤ sizeLine then .ok (.str (cutS z lo hi)) S else .no
  | .tup xs => .ok (.tup (cutL xs lo hi)) S
  | _ => match seqL S d with
    | some xs => newO (.lst (cutL xs lo hi)) S
    | none => .no
def slM (m : Env → M D) (ml mh : Env → M (Option Int)) : Env → M D := fun r => do
  let d ← m r
  let lo ← ml r
  let hi ← mh r
  slD d lo hi
theorem cut_rel {K : PySem.W.Frag} {H : Hp} {φ : List Addr} {ds : List D} {vs : List V} {lo hi : Option Int} (r : RelDs K H φ ds vs) : RelDs K H φ (cutL ds lo hi) (cutV vs lo hi) := by
  unfold cutL cutV
  rw [← RelDs.length r]
  exact RelDs.take _ (RelDs.drop _ r)
theorem tO_bnd {K : PySem.W.Frag} {α β' : Type} {m : Env → M (Option Int)} {f : Option Int → M α} {rel' : Hp → List Addr → α → β' → Prop} {φ : List Addr} {r : Env} {S : Sto} {σ : Sl} {H : Hp} {Q : β' → Hp → Prop} {Q' : Option Int → Hp → Prop} (s : Sim K Γ φ S H) (q : RelE K H φ r σ)
    (h : Post K Γ E rel' φ H ((m r >>= f) S) Q) (k : ∀ φ1 S1 d H1, Ext K φ H φ1 H1 → Sim K Γ φ1 S1 H1 → RelE K H1 φ1 r σ → Post K Γ E rel' φ1 H1 (f d S1) Q → Q' d H1) : tOp_ K Γ E m σ H Q' :=
  ⟨φ, r, S, s, q, (Post.bnd (rel := rO) h).imp fun v H1 ⟨φ1, S1, d, e, s1, rv, p⟩ => by
    cases rv
    exact k φ1 S1 v H1 e s1 (q.mono e) p⟩
theorem re_slice {lo hi : Option Expr} {ml mh : Env → M (Option Int)} {p2 : Pos} (he : RE X Γ E e ma) (hl : RO X Γ E lo ml) (hh : RO X Γ E hi mh) : RE X Γ E (.Subscript e (.Slice lo hi none p2) pos) (slM ma ml mh) := by
  refine PE.weaken (pe_slice (sl_list.or (sl_tupA.or sl_str)) he hl hh) fun σ H Q ⟨φ, r, S, s, q, p⟩ => ?_
  refine tE_bnd s q p fun φ1 S1 d v H1 e1 s1 q1 rv p1 => ?_
  refine tO_bnd s1 q1 p1 fun φ2 S2 l H2 e2 s2 q2 p2 => ?_
  refine tO_bnd s2 q2 p2 fun φ3 S3 h H3 e3 s3 q3 p3 => ?_
  have rv3 := RelD.mono (e2.trans e3) _ _ rv
  unfold slD at p3
  split at p3
  · cases rv3
    rename_i z
    by_cases hz : z.length ≤ sizeLine
    · rw [if_pos hz] at p3
      exact .inr (.inr ⟨z, rfl, hz, p3.here s3 (.str _)⟩)
    · rw [if_neg hz] at p3; exact p3.elim
  · cases rv3 with
    | tup hT hx hr =>
      refine .inr (.inl ⟨_, _, rfl, hT, fun hw => ?_, fun _ => Post.newT s3 (cut_rel hr) p3⟩)
      refine p3.here s3 ?_
      have e : ∀ {α : Type} (ys : List α), HT.sIx ys.length 0 l = 0 → HT.sIx ys.length ys.length h = ys.length → cutL ys l h = ys := fun ys a b => by
        unfold cutL
        rw [a, b]
        simp
      rw [e _ (by rw [RelDs.length hr]; exact hw.1) (by rw [RelDs.length hr]; exact hw.2)]
      exact .tup hT hx hr
  · split at p3
    · rename_i ys hy
      obtain ⟨a, vs, rfl, h1, h2⟩ := seqL_rel s3 hy rv3
      exact .inl ⟨_, _, rfl, h1, Post.newL s3 (cut_rel h2) p3⟩
    · exact p3.elim

/-! ### stores into a list -/
def addI (x y : D) : M D := match x, y with
  | .int i, .int j => pure (.int (i + j))
  | _, _ => stuck
def setLD (o i d : D) : M Unit := fun S => match o, i with
  | .ref n, .int k => match S[n]? with
    | some (.lst xs) => match ixN xs.length k with
      | some j => .ok () (S.set n (.lst (xs.set j d)))
      | none => .no
    | _ => .no
  | _, _ => .no
/-- a place written -/
theorem Post.put {K : PySem.W.Frag} {α β : Type} {rel : Hp → List Addr → α → β → Prop} {φ : List Addr} {S : Sto} {H : Hp} {n : Nat} {o u : O} {ho : HO} {a : Addr} {r : α} {v : β} {Q : β → Hp → Prop} (s : Sim K Γ φ S H) (hS : S[n]? = some u) (hq : φ[n]? = some a) (mu : Mut (H a))
    (ro : RelO K Γ (upd H a ho) φ a o) (rr : rel (upd H a ho) φ r v) (p : Post K Γ E rel φ H (.ok r (S.set n o)) Q) : Q v (upd H a ho) :=
  p φ _ v (Ext.mut mu hq) (s.set mu hS hq ro) rr
theorem sd_list : SetD X Γ E setLD := by
  intro pins s σ H o i v ov iv u Q I ro ri rv ⟨φ, S, dO, dI, dV, sm, r1, r2, r3, p⟩
  unfold setLD at p
  split at p
  · rename_i n k
    cases r1 with
    | @ref _ a hq =>
      cases r2
      split at p
      · rename_i xs hS
        split at p
        · rename_i j hj
          obtain ⟨vs, h1, h2⟩ := sm.obj n _ _ hS hq
          have mu : Mut (H a) := by rw [h1]; trivial
          refine set_list pins s σ H _ _ v ov iv u Q I ro ri rv ⟨_, vs, k, j, rfl, rfl, h1, by rw [← RelDs.length h2]; exact hj, ?_⟩
          have e := Ext.mut (K := X.K) (φ := φ) (o := .lst (vs.set j v)) mu hq
          exact Post.put (v := ()) (o := .lst (xs.set j dV)) (ho := .lst (vs.set j v)) (Q := fun _ H' => Q H') (rel := rU) sm hS hq mu ⟨_, upd_same, RelDs.set j (RelDs.mono e _ _ h2) (RelD.mono e _ _ r3)⟩ trivial p
        · exact p.elim
      · exact p.elim
  · exact p.elim
/-- xs[i] read, for an augmented store -/
def getLD (o i : D) : M D := fun S => match o, i with
  | .ref n, .int k => if 0 ≤ k ∧ k < 2 ^ 63 then (match S[n]? with
    | some (.lst xs) => match xs[k.toNat]? with
      | some d => .ok d S
      | none => .no
    | _ => .no) else .no
  | _, _ => .no
theorem gd_list : GetD X Γ E getLD := by
  intro pins s σ H o i ov iv Q I ro ri ⟨φ, S, dO, dI, sm, r1, r2, p⟩
  unfold getLD at p
  split at p
  · rename_i n k
    cases r1 with
    | ref hq =>
      cases r2
      by_cases hk : 0 ≤ k ∧ k < 2 ^ 63
      · rw [if_pos hk] at p
        split at p
        · rename_i xs hS
          split at p
          · rename_i d hd
            obtain ⟨vs, h1, h2⟩ := sm.obj n _ _ hS hq
            obtain ⟨w, h3, h4⟩ := RelDs.get h2 hd
            cases (show ov = Value.ref _ from ro)
            obtain ⟨t, rfl⟩ := ri
            obtain ⟨its, rr, pl, hz⟩ := I.list (SqL.of h1)
            obtain ⟨z, ez, rz⟩ := rr.get h3
            exact wpAny_getItem_list pl.isList hk.1 hk.2 (by simpa using ez) ⟨w, H, I, rz, p.here sm h4⟩
          · exact p.elim
        · exact p.elim
      · rw [if_neg hk] at p; exact p.elim
  · exact p.elim
theorem ip_addI : IpD X Γ E .Add addI := by
  intro pins s σ H x y v u Q I rx ry ⟨φ, S, dx, dy, sm, r1, r2, p⟩
  unfold addI at p
  split at p
  · cases r1; cases r2
    exact ip_add pins s σ H _ _ v u Q I rx ry ⟨_, _, rfl, rfl, p.val sm (.int _)⟩
  · exact p.elim
theorem ip_subI : IpD X Γ E .Sub subD := by
  intro pins s σ H x y v u Q I rx ry ⟨φ, S, dx, dy, sm, r1, r2, p⟩
  unfold subD at p
  split at p
  · cases r1; cases r2
    exact ip_sub pins s σ H _ _ v u Q I rx ry ⟨_, _, rfl, rfl, p.val sm (.int _)⟩
  · exact p.elim
end

open PySem PySem.Spec PyProof.Rows L2

/-! ### a list or a tuple is walked -/
def itAny (m : Env → M D) : Env → M ItD := fun r => do
  let d ← m r
  match d with
  | .tup xs => pure (.tup xs)
  | .fl xs => pure (.fl xs)
  | .str x => pure (.str x)
  | .ref n => fun S => match S[n]? with
    | some (.lst _) => .ok (.lst n) S
    | _ => .no
  | _ => stuck
section
variable {X : Cx} {Γ : Nat → Addr} {E : XK} {ma : Env → M D}
theorem iter_list {tg : Expr} {pins : List (Addr × Obj)} {σ : Sl} {H : Hp} {s : Shared} {a : Addr} {xs : List V} {R : It → Hp → Prop} (I : Inv X pins σ H s) (h : SqL X.K H a xs) (q : R (Itl X.K a) H) : wpAny (model X.prog X.w) X.A (pyIter (.ref a)) (PIE X pins σ tg R) X.xe s := by
  obtain ⟨its, rv, pl, hz⟩ := I.list h
  refine wpAny_pyIter_list pl.isList ⟨s.heap.objs.size, [s.heap.objs.size], _, _, H, rfl, I.kept (t' := s.toks) (fun b o z => Heap.get?_push_of_some _ z), turn_list a _, ⟨_, Heap.get?_push_size _ rfl, rfl, rfl⟩, fun b hb => ?_, q⟩
  rw [show b = s.heap.objs.size by simpa using hb]
  exact I.fpOk (Nat.le_refl _) (I.hok.fresh (Nat.le_refl _))
theorem iter_tup {tg : Expr} {pins : List (Addr × Obj)} {σ : Sl} {H : Hp} {s : Shared} {a : Addr} {xs : List V} {R : It → Hp → Prop} (I : Inv X pins σ H s) (h : SqT X.K H a xs) (q : R (Itt X.K a) H) : wpAny (model X.prog X.w) X.A (pyIter (.ref a)) (PIE X pins σ tg R) X.xe s := by
  obtain ⟨its, rv, pl, hz⟩ := I.tuple h
  refine wpAny_pyIter_tuple (show s.heap.IsTuple a its.toArray from pl) ⟨s.heap.objs.size, [s.heap.objs.size], _, _, H, rfl, I.kept (t' := s.toks) (fun b o z => Heap.get?_push_of_some _ z), turn_tuple a _, ⟨_, Heap.get?_push_size _ rfl, rfl, rfl⟩, fun b hb => ?_, q⟩
  rw [show b = s.heap.objs.size by simpa using hb]
  exact I.fpOk (Nat.le_refl _) (I.hok.fresh (Nat.le_refl _))
theorem ri_any {tg l : Expr} (h : RE X Γ E l ma) : RI X Γ E tg l (itAny ma) := by
  refine ⟨fun pins s σ H R I ⟨φ, r, S, sm, q, p⟩ => ?_⟩
  have hw : tE X.K Γ E ma σ H fun v H1 => (∃ a xs, v = .ref a ∧ SqL X.K H1 a xs ∧ R (Itl X.K a) H1) ∨ (∃ a xs, v = .ref a ∧ SqT X.K H1 a xs ∧ R (Itt X.K a) H1) ∨ ∃ x, v = .str x ∧ R (Its x) H1 := by
    refine tE_bnd sm q p fun φ1 S1 d v H1 e1 s1 q1 rv p1 => ?_
    cases d with
    | ref n =>
      cases rv with
      | ref hq =>
        simp only [] at p1
        cases hS : S1[n]? with
        | none => simp only [hS] at p1; exact p1.elim
        | some o =>
          cases o with
          | lst xs =>
            simp only [hS] at p1
            obtain ⟨vs, h1, _⟩ := sim_list s1 hq hS
            exact .inl ⟨_, _, rfl, SqL.of h1, p1.here s1 (.lst hq)⟩
          | dK _ => simp only [hS] at p1; exact p1.elim
          | dT _ => simp only [hS] at p1; exact p1.elim
          | ins _ _ => simp only [hS] at p1; exact p1.elim
          | exo _ _ => simp only [hS] at p1; exact p1.elim
          | exd _ => simp only [hS] at p1; exact p1.elim
          | dKL _ => simp only [hS] at p1; exact p1.elim
          | dTL _ => simp only [hS] at p1; exact p1.elim
          | xdo _ => simp only [hS] at p1; exact p1.elim
    | fl xs =>
      cases rv with
      | fl hF hr => exact .inl ⟨_, _, rfl, hF.sq, p1.val s1 (.fl hF hr)⟩
    | tup xs =>
      cases rv with
      | tup hT hx hr => exact .inr (.inl ⟨_, _, rfl, hT, p1.val s1 (.tup hT hr)⟩)
    | str z =>
      cases rv
      exact .inr (.inr ⟨_, rfl, p1.val s1 (.str z)⟩)
    | _ => exact p1.elim
  refine thn (h.run pins s σ H _ I hw) fun v s1 ⟨x, H1, I1, r1, z⟩ => ?_
  rcases z with ⟨a, xs, rfl, hl, hR⟩ | ⟨a, xs, rfl, hl, hR⟩ | ⟨y, rfl, hR⟩
  · cases r1
    exact iter_list I1 hl hR
  · cases r1
    exact iter_tup I1 hl hR
  · obtain ⟨t, rfl⟩ := r1
    cases ha : y.cps.all (· < 128)
    · exact wpAny_pyIter_wide ha (pi_one (tk := s1.toks) I1 _ (turn_str _ y t "str_iterator" (.inr rfl)) ⟨_, Heap.get?_push_size _ rfl, rfl, rfl⟩ hR)
    · exact wpAny_pyIter_ascii ha (pi_one (tk := s1.toks) I1 _ (turn_str _ y t "str_ascii_iterator" (.inl rfl)) ⟨_, Heap.get?_push_size _ rfl, rfl, rfl⟩ hR)
end

/-! ### defs of the text, by their names -/
structure DefOk (K : PySem.W.Frag) (mg : Str → Option Value) (nm qual : Str) (st : Stmt) (ps : List Str) : Prop where
  ex : ∃ (f : Addr) (fd : FuncData), Fun K nm qual st f fd ∧ mg nm = some (.ref f) ∧ Binds K fd ps []
theorem def_mk {K : PySem.W.Frag} {mg : Str → Option Value} {h : Heap} {nm : Str} {st : Stmt} {ps : List Str} {f : Addr} {od an : Option Addr} {sl : Array (Option Value)} {oc kV dc pm cd ct : Value} (X : K.In h) (G : h.Ns mainGlobals mg)
    (a : PySem.W.nsIn K mainGlobals nm = some (some (.ref f))) (l : K.lookup f = some ⟨oc, od, .func (PySem.W.fnOf nm nm (defArgs st) (defBody st) (defScope st) .none kV dc pm an cd ct), sl⟩) (c : PySem.W.codeIn K cd nm = true) (k : PySem.W.keepIn K (.ref f) = true)
    (hb : ∀ (kV doc pm : Value) (an : Option Addr) (cdv ct : Value) (us : List Value), us.length = ps.length → bindArgs (PySem.W.fnOf nm nm (defArgs st) (defBody st) (defScope st) .none kV doc pm an cdv ct) ⟨us, []⟩ = pure (ps.zip us)) : DefOk K mg nm nm st ps :=
  have F := fun_mk (st := st) l c k
  ⟨⟨f, _, F, PySem.W.mg_of X G a, F.binds hb⟩⟩
structure Callee (P : Program) (w : World) (K : PySem.W.Frag) (mg : Str → Option Value) (base : Heap) (Γ : Nat → Addr) (k : Nat) (nm : Str) (n : Nat) (mf : List D → M D) : Prop where
  ex : ∃ (f : Addr) (fd : FuncData) (ps : List Str), FnG P w K mg base CX0 k f fd ps (spM K Γ n mf) ∧ mg nm = some (.ref f) ∧ PySem.W.keepIn K (.ref f) = true ∧ Binds K fd ps []
section
variable {P : Program} {w : World} {K : PySem.W.Frag} {mg : Str → Option Value} {base : Heap} {Γ : Nat → Addr} {k : Nat} {nm qual : Str} {st : Stmt} {N ps : List Str}
theorem callee_mk {m : Env → M Fl} (D : DefOk K mg nm qual st ps) (sc : FnScope N ps (defScope st))
    (hbody : ∀ (f : Addr) (cdv : Value) (A : Around) (fr : List PySem.Env) (s : Shared) (H : Hp) (E : XK), Quiet (A.deeper (envOfC qual (defScope st) s.heap.objs.size f cdv)) → Room k (A.deeper (envOfC qual (defScope st) s.heap.objs.size f cdv)) → RSs (cxOf CX0 P w K mg base N qual (defScope st) f cdv A fr s H E).nox Γ E (defBody st) m) :
    Callee P w K mg base Γ (k + 1) nm ps.length (fnM N.length m) := by
  obtain ⟨f, fd, F, g, b⟩ := D.ex
  exact ⟨⟨f, fd, ps, fn_okG F sc fun cdv A fr s H E hq hr => hbody f cdv A fr s H E hq hr, g, F.kp, b⟩⟩
theorem callee_zero {k : Nat} (D : DefOk K mg nm qual st ps) : Callee P w K mg base Γ k nm ps.length (fun _ => stuck) := by
  obtain ⟨f, fd, F, g, b⟩ := D.ex
  exact ⟨⟨f, fd, ps, ⟨fun vs H Q E h => h.1, fun A fr s H args us vs Q E _ _ _ _ _ h => by
    obtain ⟨_, φ, S, ds, _, _, p⟩ := h
    exact p.elim⟩, g, F.kp, b⟩⟩
theorem Callee.up {j k n : Nat} {mf : List D → M D} (C : Callee P w K mg base Γ j nm n mf) (h : j ≤ k) : Callee P w K mg base Γ k nm n mf := by
  obtain ⟨f, fd, ps, F, g, kp, b⟩ := C.ex
  exact ⟨⟨f, fd, ps, F.up h, g, kp, b⟩⟩
end
section
variable {X : Cx} {Γ : Nat → Addr} {E : XK} {e : Expr} {es : List Expr} {mA : Env → M (List D)} {pos p : Pos} {k n : Nat} {x : Str} {mf : List D → M D}
theorem re_callC (C : Callee X.prog X.w X.K X.mg X.base Γ k x n mf) (hq : Quiet X.A) (hr : Room k X.A) (ha : RA X Γ E (e :: es) mA) (hl : ∀ r S ds S', mA r S = .ok ds S' → ds.length = n) (hg : Gl X x := by rfl) (hdb : (x == ("__debug__" : Str)) = false := by decide)
    (he : starEach (e :: es) X.env = (false, eval e X.env) :: starEach es X.env := by rfl) (hpl : (backTo pos (starEach es X.env)).any (·.1) = false := by rfl) : RE X Γ E (.Call (.Name x p) (e :: es) [] pos) (clM mf mA) := by
  obtain ⟨f, fd, ps, F, g, kp, b⟩ := C.ex
  exact re_callG F hq hr hg g kp b pass0 ha hl hdb he hpl
theorem re_callC0 (C : Callee X.prog X.w X.K X.mg X.base Γ k x 0 mf) (hq : Quiet X.A) (hr : Room k X.A) (hg : Gl X x := by rfl) (hdb : (x == ("__debug__" : Str)) = false := by decide) : RE X Γ E (.Call (.Name x p) [] [] pos) (clM mf nilA) := by
  obtain ⟨f, fd, ps, F, g, kp, b⟩ := C.ex
  exact re_callG0 F hq hr hg g kp b pass0 hdb
end
theorem room_eq {k : Nat} {A : Around} (hr : Room k A) : A.units + 64 < cLine := hr.units
theorem room_in {k : Nat} {A : Around} (hr : Room k A) : A.units + 65 < cLine := by have := hr.un; omega
theorem room_re {k : Nat} {A : Around} (hr : Room k A) : A.units + 100 < cLine := by have := hr.un; omega
theorem room_1 {k : Nat} {A : Around} (hr : Room k A) : A.units + 1 < cLine := by have := hr.un; omega
theorem bt_len : bootBuiltins "len" = some (.builtin "len") := by decide +kernel
theorem bt_abs : bootBuiltins "abs" = some (.builtin "abs") := by decide +kernel
theorem bt_sum : bootBuiltins "sum" = some (.builtin "sum") := by decide +kernel
theorem bt_all : bootBuiltins "all" = some (.builtin "all") := by decide +kernel
theorem bt_any : bootBuiltins "any" = some (.builtin "any") := by decide +kernel
theorem bt_repr : bootBuiltins "repr" = some (.builtin "repr") := by decide +kernel
theorem bt_sorted : bootBuiltins "sorted" = some (.builtin "sorted") := by decide +kernel
theorem bt_tuple : bootBuiltins "tuple" = some (.type "tuple") := by decide +kernel
theorem bt_list : bootBuiltins "list" = some (.type "list") := by decide +kernel
theorem bt_int : bootBuiltins "int" = some (.type "int") := by decide +kernel
theorem bt_dict : bootBuiltins "dict" = some (.type "dict") := by decide +kernel
theorem bt_set : bootBuiltins "set" = some (.type "set") := by decide +kernel
/-- constants of the module -/
def ConstIs (K : PySem.W.Frag) (mg : Str → Option Value) (nm : Str) (d : D) : Prop := ∃ (v : V) (u : Value), mg nm = some u ∧ RelV v u ∧ ∀ H φ, RelD K H φ d v
theorem const_v {K : PySem.W.Frag} {mg : Str → Option Value} {h : Heap} {nm : Str} {u : Value} {v : V} {d : D} (X : K.In h) (G : h.Ns mainGlobals mg) (a : PySem.W.nsIn K mainGlobals nm = some (some u)) (r : RelV v u) (q : ∀ H φ, RelD K H φ d v) : ConstIs K mg nm d :=
  ⟨v, u, PySem.W.mg_of X G a, r, q⟩
theorem const_t {K : PySem.W.Frag} {mg : Str → Option Value} {h : Heap} {nm : Str} {a : Addr} {dd : Option Addr} {its : Array Value} {n : Nat} {sl : Array (Option Value)} {ds : List D} {vs : List V} (X : K.In h) (G : h.Ns mainGlobals mg) (e : PySem.W.nsIn K mainGlobals nm = some (some (.ref a)))
    (l : K.lookup a = some ⟨.type "tuple", dd, .seq its n, sl⟩) (z : its.size ≤ sizeLine) (r : Vals vs its.toList) (q : ∀ H φ, RelDs K H φ ds vs) (hp : pathy ds = false := by rfl) : ConstIs K mg nm (.tup ds) :=
  ⟨.ref a, .ref a, PySem.W.mg_of X G e, rfl, fun H φ => .tup (.inr ⟨_, its, n, l, rfl, rfl, z, r⟩) (fun z => by rw [hp] at z; cases z) (q H φ)⟩

open PySem PySem.Spec PyProof.Rows L2

/-! ### methods -/
def tyD (T : String) (S : Sto) : D → Bool
  | .str _ => T == "str"
  | .ref n => match S[n]? with
    | some (.lst _) => T == "list"
    | some (.dK _) => T == "dict"
    | some (.dT _) => T == "dict"
    | _ => false
  | _ => false
theorem tyD_rel {K : PySem.W.Frag} {Γ : Nat → Addr} {φ : List Addr} {S : Sto} {H : Hp} {T : String} {d : D} {v : V} (s : Sim K Γ φ S H) (h : tyD T S d = true) (r : RelD K H φ d v) : tyV K T v H := by
  cases d with
  | str x =>
    cases r
    exact eq_of_beq h
  | ref n =>
    cases r with
    | ref hq =>
      unfold tyD at h
      cases hS : S[n]? with
      | none => simp only [hS] at h; cases h
      | some o =>
        simp only [hS] at h
        cases o with
        | lst xs =>
          obtain ⟨vs, h1, _⟩ := s.obj n _ _ hS hq
          exact .inl ⟨eq_of_beq h, _, SqL.of h1⟩
        | dK xs =>
          obtain ⟨vs, h1, _⟩ := s.obj n _ _ hS hq
          exact .inr (.inr (.inl ⟨eq_of_beq h, .inl ⟨_, h1⟩⟩))
        | dT xs =>
          obtain ⟨vs, h1, _⟩ := s.obj n _ _ hS hq
          exact .inr (.inr (.inl ⟨eq_of_beq h, .inr ⟨_, h1⟩⟩))
        | ins _ _ => cases h
        | exo _ _ => cases h
        | exd _ => cases h
        | dKL _ => cases h
        | dTL _ => cases h
        | xdo _ => cases h
  | _ => cases h
def needM (f : Sto → Bool) : M Unit := fun S => if f S = true then .ok () S else .no
def mtM (T : String) (op : D → List D → M D) (mo : Env → M D) (ma : Env → M (List D)) : Env → M D := fun r => do
  let d ← mo r
  needM (fun S => tyD T S d)
  let ds ← ma r
  op d ds
section
variable {X : Cx} {Γ : Nat → Addr} {E : XK} {o e : Expr} {es : List Expr} {mo : Env → M D} {ma : Env → M (List D)} {name : Str} {apos cpos : Pos} {T id : String} {op : D → List D → M D}
theorem re_mt (hm : MtD X Γ E id op) (pa : PlainAttrs T) (slot : Slot T name id) (hty : typeOf (.builtin id) = pure (.type "method_descriptor")) (ho : RE X Γ E o mo) (ha : RA X Γ E (e :: es) ma)
    (hbase : attributeBase o name X.env (eval o X.env) = eval o X.env := by rfl)
    (hfew : ((backTo cpos (starEach (e :: es) X.env)).all (fun x => !x.1) && (backToKw cpos (keywordEach [] X.env)).all (fun x => x.1.isSome)
      && decide ((e :: es).length + ([] : List Keyword).length + (if ([] : List Keyword).isEmpty then 0 else 1) < 30)) = true := by rfl)
    (hline : (apos.endLine == cpos.line) = true := by rfl) (hs : starEach (e :: es) X.env = (false, eval e X.env) :: starEach es X.env := by rfl) (hplain : (backTo cpos (starEach es X.env)).any (·.1) = false := by rfl) :
    RE X Γ E (.Call (.Attribute o name apos) (e :: es) [] cpos) (mtM T op mo ma) := by
  refine PE.weaken (pe_bm pa slot hty hm ho ha hbase hfew hline hs hplain) fun σ H Q ⟨φ, r, S, s, q, p⟩ => ?_
  refine tE_bnd s q p fun φ1 S1 d v H1 e1 s1 q1 rv p1 => ?_
  rw [bind_def] at p1
  unfold needM at p1
  cases hT : tyD T S1 d with
  | false => simp only [hT] at p1; exact p1.elim
  | true =>
    simp only [hT] at p1
    refine ⟨tyD_rel s1 hT rv, ?_⟩
    refine tA_bnd s1 q1 p1 fun φ2 S2 ds vs H2 e2 s2 q2 rvs p2 => ?_
    exact ⟨φ2, S2, d, ds, s2, RelD.mono e2 _ _ rv, rvs, p2⟩
end
/-- xs.append(d) -/
def appendD (o : D) (ds : List D) : M D := fun S => match o, ds with
  | .ref n, [d] => match S[n]? with
    | some (.lst xs) => if xs.length < sizeLine then .ok .non (S.set n (.lst (xs ++ [d]))) else .no
    | _ => .no
  | _, _ => .no
/-- xs.insert(i, d) -/
def insertD (o : D) (ds : List D) : M D := fun S => match o, ds with
  | .ref n, [.int i, d] => match S[n]? with
    | some (.lst xs) => if xs.length < sizeLine ∧ 0 ≤ i ∧ i < 2 ^ 63 then .ok .non (S.set n (.lst (xs.take i.toNat ++ [d] ++ xs.drop i.toNat))) else .no
    | _ => .no
  | _, _ => .no
/-- a.split(b) -/
def splitD (o : D) (ds : List D) : M D := match o, ds with
  | .str a, [.str b] => if (b.length == 0) = false ∧ a.length + 2 ≤ sizeLine then newO (.lst ((Txt.split a b).map D.str)) else stuck
  | _, _ => stuck
section
variable {X : Cx} {Γ : Nat → Addr} {E : XK}
theorem relDs_one {K : PySem.W.Frag} {H : Hp} {φ : List Addr} {d : D} {vs : List V} (h : RelDs K H φ [d] vs) : ∃ v, vs = [v] ∧ RelD K H φ d v := by
  cases h with
  | cons a b => cases b; exact ⟨_, rfl, a⟩
theorem relDs_two {K : PySem.W.Frag} {H : Hp} {φ : List Addr} {d e : D} {vs : List V} (h : RelDs K H φ [d, e] vs) : ∃ v w, vs = [v, w] ∧ RelD K H φ d v ∧ RelD K H φ e w := by
  cases h with
  | cons a b =>
    obtain ⟨w, rfl, c⟩ := relDs_one b
    exact ⟨_, w, rfl, a, c⟩
theorem md_append : MtD X Γ E "list.append" appendD := by
  intro pins s σ H x vs v us Q I rx rv ⟨φ, S, d, ds, sm, r1, r2, p⟩
  unfold appendD at p
  split at p
  · rename_i n d
    cases r1 with
    | @ref _ a hq =>
      obtain ⟨w, rfl, r3⟩ := relDs_one r2
      split at p
      · rename_i xs hS
        obtain ⟨ws, h1, h2⟩ := sm.obj n _ _ hS hq
        by_cases hz : xs.length < sizeLine
        · rw [if_pos hz] at p
          have mu : Mut (H a) := by rw [h1]; trivial
          have e := Ext.mut (K := X.K) (φ := φ) (o := .lst (ws ++ [w])) mu hq
          refine mt_append pins s σ H _ _ v us Q I rx rv ⟨_, ws, _, rfl, rfl, h1, by rw [← RelDs.length h2]; exact hz, ?_⟩
          exact Post.put (o := .lst (xs ++ [d])) (ho := .lst (ws ++ [w])) sm hS hq mu ⟨_, upd_same, RelDs.app (RelDs.mono e _ _ h2) (.cons (RelD.mono e _ _ r3) .nil)⟩ .non p
        · rw [if_neg hz] at p; exact p.elim
      · exact p.elim
  · exact p.elim
theorem md_insert : MtD X Γ E "list.insert" insertD := by
  intro pins s σ H x vs v us Q I rx rv ⟨φ, S, d, ds, sm, r1, r2, p⟩
  unfold insertD at p
  split at p
  · rename_i n i d
    cases r1 with
    | @ref _ a hq =>
      obtain ⟨w0, w, rfl, r3, r5⟩ := relDs_two r2
      cases r3
      split at p
      · rename_i xs hS
        obtain ⟨ws, h1, h2⟩ := sm.obj n _ _ hS hq
        by_cases hz : xs.length < sizeLine ∧ 0 ≤ i ∧ i < 2 ^ 63
        · rw [if_pos hz] at p
          have mu : Mut (H a) := by rw [h1]; trivial
          refine mt_insert pins s σ H _ _ v us Q I rx rv ⟨_, ws, i, _, rfl, rfl, h1, by rw [← RelDs.length h2]; exact hz.1, hz.2.1, hz.2.2, ?_⟩
          have e := Ext.mut (K := X.K) (φ := φ) (o := .lst (ws.take i.toNat ++ [w] ++ ws.drop i.toNat)) mu hq
          exact Post.put (o := .lst (xs.take i.toNat ++ [d] ++ xs.drop i.toNat)) (ho := .lst (ws.take i.toNat ++ [w] ++ ws.drop i.toNat)) sm hS hq mu ⟨_, upd_same, RelDs.app (RelDs.app (RelDs.take _ (RelDs.mono e _ _ h2)) (.cons (RelD.mono e _ _ r5) .nil)) (RelDs.drop _ (RelDs.mono e _ _ h2))⟩ .non p
        · rw [if_neg hz] at p; exact p.elim
      · exact p.elim
  · exact p.elim
theorem relDs_str {K : PySem.W.Frag} {H : Hp} {φ : List Addr} : ∀ ys : List Str, RelDs K H φ (ys.map D.str) (ys.map V.str)
  | [] => .nil
  | y :: ys => .cons (.str y) (relDs_str ys)
theorem md_split : MtD X Γ E "str.split" splitD := by
  intro pins s σ H x vs v us Q I rx rv ⟨φ, S, d, ds, sm, r1, r2, p⟩
  unfold splitD at p
  split at p
  · cases r1
    cases r2 with
    | cons r3 r4 =>
      cases r3
      cases r4
      obtain ⟨hz, p⟩ := Post.ite p
      exact mt_split pins s σ H _ _ v us Q I rx rv ⟨_, _, rfl, rfl, hz.1, hz.2, Post.newL sm (relDs_str _) p⟩
  · exact p.elim
def itemsD (S : Sto) : D → Option (List D)
  | .tup xs => some xs
  | d => seqL S d
theorem itemsD_rel {K : PySem.W.Frag} {Γ : Nat → Addr} {φ : List Addr} {S : Sto} {H : Hp} (sm : Sim K Γ φ S H) {d : D} {v : V} {xs : List D} (h : itemsD S d = some xs) (r : RelD K H φ d v) : ∃ a vs, v = .ref a ∧ (SqL K H a vs ∨ SqT K H a vs) ∧ RelDs K H φ xs vs := by
  unfold itemsD at h
  split at h
  · cases h
    cases r with
    | tup hT hx hr => exact ⟨_, _, rfl, .inr hT, hr⟩
  · obtain ⟨b, vs, e, h1, h2⟩ := seqL_rel sm h r
    exact ⟨b, vs, e, .inl h1, h2⟩
/-- a.join(xs) -/
def joinD (o : D) (ds : List D) : M D := fun S => match o, ds with
  | .str a, [d] => match itemsD S d with
    | some xs => match allOf unStr xs with
      | some ys => if (ys.map (·.length)).sum + ys.length * a.length ≤ 16777216 then .ok (.str (Txt.join a ys)) S else .no
      | none => .no
    | none => .no
  | _, _ => .no
theorem md_join : MtD X Γ E "str.join" joinD := by
  intro pins s σ H x vs v us Q I rx rv ⟨φ, S, d, ds, sm, r1, r2, p⟩
  unfold joinD at p
  split at p
  · rename_i a d
    cases r1
    obtain ⟨w, rfl, r3⟩ := relDs_one r2
    split at p
    · rename_i xs hd
      split at p
      · rename_i ys ha
        by_cases hz : (ys.map (·.length)).sum + ys.length * a.length ≤ 16777216
        · rw [if_pos hz] at p
          obtain ⟨b, vs', rfl, h1, h2⟩ := itemsD_rel sm hd r3
          have e := allOf_rel (g := V.str) unStr_rel ha h2
          subst e
          exact mt_join pins s σ H _ _ v us Q I rx rv ⟨_, _, ys, rfl, rfl, h1, hz, p.here sm (.str _)⟩
        · rw [if_neg hz] at p; exact p.elim
      · exact p.elim
    · exact p.elim
  · exact p.elim
end

/-! ### xs[::step], step 1 or -1 -/
def stepD (d st : D) : M D := fun S => match seqL S d, st with
  | some xs, .int i => if i = 1 then newO (.lst xs) S else if i = -1 then newO (.lst xs.reverse) S else .no
  | _, _ => .no
def stM (m ms : Env → M D) : Env → M D := fun r => do
  let d ← m r
  let i ← ms r
  stepD d i
theorem pick_one (its : Array Value) : slicePick its none none (some 1) = its := by
  have e := slicePick_all its
  unfold slicePick at e ⊢
  exact e
section
variable {X : Cx} {Γ : Nat → Addr} {E : XK} {e st : Expr} {m ms : Env → M D} {p3 pos : Pos}
theorem re_step (he : RE X Γ E e m) (hst : RE X Γ E st ms) : RE X Γ E (.Subscript e (.Slice none none (some st) p3) pos) (stM m ms) := by
  refine ⟨fun pins s σ H Q I ⟨φ, r, S, sm, q, p⟩ => ?_⟩
  have w : tE X.K Γ E m σ H fun v H1 => tE X.K Γ E ms σ H1 fun u H2 => ∃ i, u = V.int i ∧ ∃ a xs, v = .ref a ∧ SqL X.K H2 a xs ∧ ((i = 1 ∧ ∀ b, H2 b = none → Q (.ref b) (upd H2 b (.lst xs))) ∨ (i = -1 ∧ ∀ b, H2 b = none → Q (.ref b) (upd H2 b (.lst xs.reverse)))) := by
    refine tE_bnd sm q p fun φ1 S1 d v H1 e1 s1 q1 rv p1 => ?_
    refine tE_bnd s1 q1 p1 fun φ2 S2 i u H2 e2 s2 q2 ru p2 => ?_
    unfold stepD at p2
    split at p2
    · rename_i xs k hx
      cases ru
      obtain ⟨a, vs, rfl, h1, h2⟩ := seqL_rel s2 hx (RelD.mono e2 _ _ rv)
      refine ⟨_, rfl, a, vs, rfl, h1, ?_⟩
      by_cases h3 : k = 1
      · rw [if_pos h3] at p2
        exact .inl ⟨h3, Post.newL s2 h2 p2⟩
      · rw [if_neg h3] at p2
        by_cases h4 : k = -1
        · rw [if_pos h4] at p2
          exact .inr ⟨h4, Post.newL s2 (RelDs.rev h2) p2⟩
        · rw [if_neg h4] at p2; exact p2.elim
    · exact p2.elim
  refine Subscript_ (thn (he.run pins s σ H _ I w) fun v s1 ⟨x, H1, I1, r1, w1⟩ => ?_)
  refine wpAny_Slice (thn (po_none.run pins s1 σ H1 (fun o G => o = none ∧ G = H1) I1 ⟨rfl, rfl⟩) fun vl s2 ⟨lo, G2, I2, pl, elo, e2⟩ => ?_)
  subst elo e2
  refine thn (po_none.run pins s2 σ G2 (fun o G => o = none ∧ G = G2) I2 ⟨rfl, rfl⟩) fun vu s3 ⟨hi, G3, I3, pu, ehi, e3⟩ => ?_
  subst ehi e3
  refine thn ((po_some hst).run pins s3 σ G3 (fun o G => ∃ i, o = some i ∧ ∃ a xs, x = .ref a ∧ SqL X.K G a xs ∧ ((i = 1 ∧ ∀ b, G b = none → Q (.ref b) (upd G b (.lst xs))) ∨ (i = -1 ∧ ∀ b, G b = none → Q (.ref b) (upd G b (.lst xs.reverse))))) I3 ?_) fun vs s4 ⟨o, H4, I4, ps, i, eo, a, xs, ex, hx, hq⟩ => ?_
  · obtain ⟨φ1, r1', S1, z1, z2, z3⟩ := w1
    exact ⟨φ1, r1', S1, z1, z2, z3.imp fun u G ⟨i, e, z⟩ => ⟨i, e, i, rfl, z⟩⟩
  · subst eo ex
    cases r1
    have I5 := I4.kept (t' := s4.toks) (h' := s4.heap.push { cls := .type "slice", data := .fields #[vl, vu, vs] }) fun b ob z => Heap.get?_push_of_some _ z
    obtain ⟨its, rr, ht, hz⟩ := I5.list hx
    have hlen := rr.length
    have fr := I5.hok.fresh (Nat.le_refl _)
    have hsz : its.toArray.size ≤ sizeLine := by rw [List.size_toArray]; omega
    have h0 : some i ≠ some (0 : Int) := fun z => by
      cases z
      rcases hq with ⟨z, _⟩ | ⟨z, _⟩ <;> exact absurd z (by decide)
    have done : ∀ ys jts, Vals ys jts → ys.length ≤ sizeLine → slicePick its.toArray none none (some i) = jts.toArray → (∀ b, H4 b = none → Q (.ref b) (upd H4 b (.lst ys))) → wpAny (model X.prog X.w) X.A (getItem (.ref a) (.ref s4.heap.objs.size)) (EP X pins σ Q) X.xe { s4 with heap := s4.heap.push { cls := .type "slice", data := .fields #[vl, vu, vs] } } := fun ys jts hv hl hp hQ => by
      refine wpAny_getItem_list_slice ht.isList (Heap.IsSliceOf.new _ vl vu vs) pl pu ps h0 ?_ hsz
      rw [hp]
      exact ⟨.ref _, _, I5.laid (t' := s4.toks) (o := .lst ys) (fun b ob z => Heap.get?_push_of_some _ z) (Nat.le_refl _) ⟨hl, jts, 0, hv, Heap.get?_push_size _ rfl⟩, rfl, hQ _ fr⟩
    have go : wpAny (model X.prog X.w) X.A (getItem (.ref a) (.ref s4.heap.objs.size)) (EP X pins σ Q) X.xe { s4 with heap := s4.heap.push { cls := .type "slice", data := .fields #[vl, vu, vs] } } := by
      rcases hq with ⟨rfl, hQ⟩ | ⟨rfl, hQ⟩
      · exact done xs its rr hz (pick_one _) hQ
      · exact done xs.reverse its.reverse rr.reverse (by rw [List.length_reverse]; exact hz) (PySem.W.krv_pick _) hQ
    exact tail_any (ops := [.ref a, .ref s4.heap.objs.size]) ht.isList.typeIs (PySem.slot_list_getitem.lookup) go (by with_unfolding_all rfl)
end

/-! ### dicts -/
def putKD {κ : Type} [DecidableEq κ] (kvs : List (κ × D)) (k : κ) (v : D) : List (κ × D) :=
  if (valD kvs k).isSome = true then kvs.map (fun kv => if kv.1 = k then (kv.1, v) else kv) else kvs ++ [(k, v)]
def mergeKD (kvs more : List (Key × D)) : List (Key × D) := more.foldl (fun acc kv => putKD acc kv.1 kv.2) kvs
def unKey : D → Option Key
  | .int i => some (.inl i)
  | .str x => some (.inr x)
  | _ => none
def unPair : D → Option (Key × D)
  | .tup [k, v] => (unKey k).map fun a => (a, v)
  | _ => none
section
variable {K : PySem.W.Frag} {H : Hp} {φ : List Addr}
theorem relKv_app {κ : Type} {xs ys : List (κ × D)} {us vs : List (κ × V)} (a : RelKv K H φ xs us) (b : RelKv K H φ ys vs) : RelKv K H φ (xs ++ ys) (us ++ vs) := by
  unfold RelKv at a b ⊢
  induction a with
  | nil => exact b
  | cons r t ih => exact .cons r ih
theorem relKv_put {κ : Type} [DecidableEq κ] {ks : List (κ × D)} {vs : List (κ × V)} (r : RelKv K H φ ks vs) (k : κ) {d : D} {v : V} (rv : RelD K H φ d v) : RelKv K H φ (putKD ks k d) (putK vs k v) := by
  have e : (valD ks k).isSome = (vs.any fun kv => decide (kv.1 = k)) := by
    rw [valV_any]
    obtain ⟨h1, h2⟩ := valD_rel r k
    cases hd : valD ks k with
    | none => rw [h2 hd]; rfl
    | some d =>
      obtain ⟨w, hw, _⟩ := h1 d hd
      rw [hw]; rfl
  unfold putKD putK
  rw [← e]
  by_cases hz : (valD ks k).isSome = true
  · rw [if_pos hz, if_pos hz]
    clear e hz
    unfold RelKv at r ⊢
    induction r with
    | nil => exact .nil
    | @cons p q ps qs a t ih =>
      refine .cons ?_ ih
      show (if p.1 = k then (p.1, d) else p).1 = (if q.1 = k then (q.1, v) else q).1 ∧ RelD K H φ (if p.1 = k then (p.1, d) else p).2 (if q.1 = k then (q.1, v) else q).2
      by_cases hp : p.1 = k
      · rw [if_pos hp, if_pos (a.1 ▸ hp)]
        exact ⟨a.1, rv⟩
      · rw [if_neg hp, if_neg (a.1 ▸ hp)]
        exact a
  · rw [if_neg hz, if_neg hz]
    exact relKv_app r (.cons ⟨rfl, rv⟩ .nil)
theorem relKv_merge : ∀ {ms : List (Key × D)} {ns : List (Key × V)} {ks : List (Key × D)} {vs : List (Key × V)}, RelKv K H φ ms ns → RelKv K H φ ks vs → RelKv K H φ (mergeKD ks ms) (mergeK vs ns)
  | _, _, _, _, .nil, r => r
  | _, _, _, _, .cons (l₁ := ps) (l₂ := qs) (a := p) (b := q) a t, r => by
    show RelKv K H φ (mergeKD (putKD _ p.1 p.2) ps) (mergeK (putK _ q.1 q.2) qs)
    refine relKv_merge t ?_
    rw [← a.1]
    exact relKv_put r p.1 a.2
theorem unKey_rel {d : D} {k : Key} {v : V} (h : unKey d = some k) (r : RelD K H φ d v) : v = kV k := by
  cases d <;> simp [unKey] at h
  · subst h; cases r; rfl
  · subst h; cases r; rfl
theorem pairs_rel : ∀ {xs : List D} {vs : List V} {kvs : List (Key × D)}, allOf unPair xs = some kvs → RelDs K H φ xs vs → ∃ (ps : List Addr) (ws : List (Key × V)), vs = ps.map V.ref ∧ Paired (fun p kv => SqT K H p [kV kv.1, kv.2]) ps ws ∧ RelKv K H φ kvs ws
  | [], _, _, e, r => by
    cases r
    unfold allOf at e
    cases e
    exact ⟨[], [], rfl, .nil, .nil⟩
  | d :: xs, _, _, e, r => by
    cases r with
    | cons r1 r2 =>
      unfold allOf at e
      split at e
      · rename_i a q h1 h2
        cases e
        obtain ⟨ps, ws, rfl, h3, h4⟩ := pairs_rel h2 r2
        unfold unPair at h1
        split at h1
        · rename_i k v
          obtain ⟨kk, hk, rfl⟩ := Option.map_eq_some_iff.mp h1
          cases r1 with
          | tup hT hx hr =>
            obtain ⟨u, w, rfl, ru, rw'⟩ := relDs_two hr
            have := unKey_rel hk ru
            subst this
            exact ⟨_ :: ps, (kk, w) :: ws, rfl, .cons hT h3, .cons ⟨rfl, rw'⟩ h4⟩
        · cases h1
      · cases e
end
def dnewM : Env → M D := fun _ => newO (.dK [])
def dictD (ds : List D) : M D := fun S => match ds with
  | [.ref n] => match S[n]? with
    | some (.dK kvs) => newO (.dK kvs) S
    | some (.lst xs) => match allOf unPair xs with
      | some kvs => newO (.dK (mergeKD [] kvs)) S
      | none => .no
    | _ => .no
  | _ => .no
def dgetD (d k x : D) : M D := fun S => match d, unKey k with
  | .ref n, some k => match S[n]? with
    | some (.dK kvs) => .ok ((valD kvs k).getD x) S
    | _ => .no
  | _, _ => .no
def dget2M (md mk mx : Env → M D) : Env → M D := fun r => do
  let d ← md r
  needM (fun S => tyD "dict" S d)
  let k ← mk r
  let x ← mx r
  dgetD d k x
theorem Post.newK {K : PySem.W.Frag} {Γ : Nat → Addr} {E : XK} {φ : List Addr} {S : Sto} {H : Hp} {ks : List (Key × D)} {vs : List (Key × V)} {Q : VK} (s : Sim K Γ φ S H) (r : RelKv K H φ ks vs) (p : Post K Γ E (rD K) φ H (newO (.dK ks) S) Q) : ∀ q, H q = none → Q (.ref q) (upd H q (.dK vs)) := fun q hq =>
  p (φ ++ [q]) _ (.ref q) (Ext.new hq) (s.new hq ⟨_, upd_same, RelKv.mono (Ext.new hq).toGr r⟩) (.ref (by rw [← s.len]; simp))
section
variable {X : Cx} {Γ : Nat → Addr} {E : XK} {o e f : Expr} {md mk mx : Env → M D} {apos cpos pos : Pos}
theorem re_dnew : RE X Γ E (.Dict [] [] pos) dnewM := by
  refine PE.weaken pe_dnewK fun σ H Q ⟨φ, r, S, s, q, p⟩ => ?_
  exact Post.newK s .nil p
theorem cd_dict (hc : X.calm = true) : CallD X Γ E (.type "dict") dictD := by
  intro pins s σ H xs us Q I rv ⟨φ, S, ds, sm, r, p⟩
  unfold dictD at p
  split at p
  · rename_i n
    obtain ⟨v, rfl, r1⟩ := relDs_one r
    cases r1 with
    | ref hq =>
      cases hS : S[n]? with
      | none => simp only [hS] at p; exact p.elim
      | some o =>
        simp only [hS] at p
        cases o with
        | dK kvs =>
          obtain ⟨vs, h1, h2⟩ := sm.obj n _ _ hS hq
          exact call_dictD pins s σ H _ us Q I rv ⟨_, vs, rfl, .inl h1, Post.newK sm h2 p⟩
        | lst xs =>
          simp only [] at p
          split at p
          · rename_i kvs hk
            obtain ⟨vs, h1, h2⟩ := sm.obj n _ _ hS hq
            obtain ⟨ps, ws, rfl, h3, h4⟩ := pairs_rel hk h2
            exact call_dictP hc pins s σ H _ us Q I rv ⟨_, ps, ws, rfl, SqL.of h1, h3, Post.newK sm (relKv_merge h4 .nil) p⟩
          · exact p.elim
        | dT _ => exact p.elim
        | ins _ _ => exact p.elim
        | exo _ _ => exact p.elim
        | exd _ => exact p.elim
        | dKL _ => exact p.elim
        | dTL _ => exact p.elim
        | xdo _ => exact p.elim
  · exact p.elim
theorem re_dget2 (hu : X.A.units + 1 < cLine) (ho : RE X Γ E o md) (he : RE X Γ E e mk) (hf : RE X Γ E f mx) (m : M2 X o "get" apos e f cpos := by exact ⟨rfl, rfl, rfl, rfl⟩) : RE X Γ E (.Call (.Attribute o "get" apos) [e, f] [] cpos) (dget2M md mk mx) := by
  refine PE.weaken (pe_dget2 hu ho he hf m) fun σ H Q ⟨φ, r, S, s, q, p⟩ => ?_
  refine tE_bnd s q p fun φ1 S1 d v H1 e1 s1 q1 rv p1 => ?_
  rw [bind_def] at p1
  unfold needM at p1
  cases hT : tyD "dict" S1 d with
  | false => simp only [hT] at p1; exact p1.elim
  | true =>
    simp only [hT] at p1
    have dd : ∃ n a, d = .ref n ∧ v = .ref a ∧ φ1[n]? = some a ∧ IsD H1 a := by
      cases d with
      | str x => exact absurd (show ("dict" == "str") = true from hT) (by decide)
      | ref n =>
        cases rv with
        | ref hq =>
          refine ⟨n, _, rfl, rfl, hq, ?_⟩
          have ty := tyD_rel s1 hT (.ref hq)
          rcases ty with ⟨h, _⟩ | ⟨h, _⟩ | ⟨_, h⟩ | ⟨h, _⟩
          · exact absurd h (by decide)
          · exact absurd h (by decide)
          · rcases h with ⟨kvs, h⟩ | ⟨kvs, h⟩
            · exact .inl ⟨kvs, .inl h⟩
            · exact .inr ⟨kvs, .inl h⟩
          · exact absurd h (by decide)
      | _ => cases hT
    obtain ⟨n, a, rfl, rfl, hq, hd⟩ := dd
    refine ⟨a, rfl, hd, ?_⟩
    refine tE_bnd s1 q1 p1 fun φ2 S2 k u H2 e2 s2 q2 ru p2 => ?_
    refine tE_bnd s2 q2 p2 fun φ3 S3 x w H3 e3 s3 q3 rw' p3 => ?_
    have hq3 := e3.get (e2.get hq)
    unfold dgetD at p3
    cases hk : unKey k with
    | none => simp only [hk] at p3; exact p3.elim
    | some key =>
      simp only [hk] at p3
      cases hS : S3[n]? with
      | none => simp only [hS] at p3; exact p3.elim
      | some ob =>
        simp only [hS] at p3
        cases ob with
        | dK kvs =>
          obtain ⟨vs, h1, h2⟩ := s3.obj n _ _ hS hq3
          have := unKey_rel hk ru
          subst this
          refine ⟨valV vs key, .inl ⟨vs, key, .inl h1, rfl, rfl⟩, p3.here s3 ?_⟩
          obtain ⟨h3, h4⟩ := valD_rel h2 key
          cases hv : valD kvs key with
          | none => rw [h4 hv]; exact rw'
          | some d =>
            obtain ⟨z, h5, h6⟩ := h3 d hv
            rw [h5]
            exact h6
        | _ => exact p3.elim
end

/-! ### three names at once -/
def par3M (i j k : Nat) (mA : Env → M (List D)) : Env → M Fl := fun r => do
  let ds ← mA r
  match ds with
  | [x, y, z] => pure (.nx (((r.set i (some x)).set j (some y)).set k (some z)))
  | _ => stuck
section
variable {X : Cx} {Γ : Nat → Addr} {E : XK} {a b c : Expr} {pos : Pos}
theorem rs_par3 {i j l : Nat} {x y z : Str} {mA : Env → M (List D)} {px py pz pt : Pos} {kt k2 pt2} (hc : X.calm = true) (hN : X.N.Nodup) (hi : X.N[i]? = some x) (hj : X.N[j]? = some y) (hl : X.N[l]? = some z) (hij : i ≠ j) (hil : i ≠ l) (hjl : j ≠ l)
    (hx : X.env.scope.names.lookup x = some .local) (hy : X.env.scope.names.lookup y = some .local) (hz : X.env.scope.names.lookup z = some .local) (ha : RA X Γ E [a, b, c] mA)
    (hw : swappedStores [.Tuple [.Name x px, .Name y py, .Name z pz] kt pt] (.Tuple [a, b, c] k2 pt2) X.env = pure (some [x, y, z]))
    (hs : swapsWithSole [.Tuple [.Name x px, .Name y py, .Name z pz] kt pt] (.Tuple [a, b, c] k2 pt2) pos.line X.env = pure false := by rfl) :
    RS X Γ E (.Assign [.Tuple [.Name x px, .Name y py, .Name z pz] kt pt] (.Tuple [a, b, c] k2 pt2) pos) (par3M i j l mA) := by
  refine PS.weaken (ps_par3 hc hN hi hj hl hij hil hjl hx hy hz ha hw hs) fun D σ H ⟨φ, r, S, s, q, p⟩ => ?_
  refine tA_bnd s q p fun φ1 S1 ds vs H1 e1 s1 q1 rv p1 => ?_
  match ds, rv, p1 with
  | [_, _, _], .cons r1 (.cons r2 (.cons r3 .nil)), p1 => exact ⟨_, _, _, rfl, p1.val (v := FV.nx _) s1 (.nx (((q1.set i r1).set j r2).set l r3))⟩
  | [], _, p1 => exact p1.elim
  | [_], _, p1 => exact p1.elim
  | [_, _], _, p1 => exact p1.elim
  | _ :: _ :: _ :: _ :: _, _, p1 => exact p1.elim
end

open PySem PySem.Spec PyProof.Rows L2

/-- xs.index(x), of data -/
def indexD (o : D) (ds : List D) : M D := fun S => match o, ds with
  | .ref n, [d] => match toPy S deep (.ref n), toPy S deep d with
    | some (.list qs), some p => if SeqAt.shaped (.list qs) = true ∧ SeqAt.shaped p = true then (match qs.findIdx? (fun z => PyData.eqv z p) with
      | some j => .ok (.int j) S
      | none => .no) else .no
    | _, _ => .no
  | _, _ => .no
section
variable {X : Cx} {Γ : Nat → Addr} {E : XK}
theorem md_index (hu : X.A.units + 65 < cLine) : MtD X Γ E "list.index" indexD := by
  intro pins s σ H x vs v us Q I rx rv ⟨φ, S, d, ds, sm, r1, r2, p⟩
  unfold indexD at p
  split at p
  · rename_i n d
    obtain ⟨w, rfl, r3⟩ := relDs_one r2
    split at p
    · rename_i qs q h1 h2
      by_cases hs : SeqAt.shaped (.list qs) = true ∧ SeqAt.shaped q = true
      · rw [if_pos hs] at p
        split at p
        · rename_i j hj
          obtain ⟨hl, h3, h4⟩ := List.findIdx?_eq_some_iff_getElem.mp hj
          have d1 := dp_of sm _ _ _ _ h1 (SeqAt.canLay_of_shaped hs.1) r1
          have d2 := dp_of sm _ _ _ _ h2 (SeqAt.canLay_of_shaped hs.2) r3
          cases r1 with
          | @ref _ a hq =>
            refine mt_indexD hu pins s σ H _ _ v us Q I rx rv ⟨a, w, q, qs, j, qs[j], rfl, rfl, d1, d2, hs.1, hs.2, List.getElem?_eq_getElem hl, h3, fun m z hm hz => ?_, p.here sm (.int _)⟩
            obtain ⟨hl2, rfl⟩ := List.getElem?_eq_some_iff.mp hz
            simpa using h4 m hm
        · exact p.elim
      · rw [if_neg hs] at p; exact p.elim
    · exact p.elim
  · exact p.elim
end

open PySem PySem.Spec PyProof.Rows L2

/-! ### {k: v, ..} -/
def pnilM : Env → M (List (D × D)) := fun _ => pure []
def pconM (mk mv : Env → M D) (m : Env → M (List (D × D))) : Env → M (List (D × D)) := fun r => do
  let x ← mk r
  let y ← mv r
  let ps ← m r
  pure ((x, y) :: ps)
def kvsOf : List (D × D) → Option (List (Key × D))
  | [] => some []
  | (k, v) :: r => match unKey k, kvsOf r with
    | some a, some l => some ((a, v) :: l)
    | _, _ => none
def dispF (ps : List (D × D)) : M D := fun S => match kvsOf ps with
  | some kvs => if kvs.length ≤ 15 then newO (.dK (mergeKD [] kvs)) S else .no
  | none => .no
def dispM (m : Env → M (List (D × D))) : Env → M D := fun r => m r >>= dispF
section
variable {X : Cx} {Γ : Nat → Addr} {E : XK} {K : PySem.W.Frag}
abbrev rPs (K : PySem.W.Frag) : Hp → List Addr → List (D × D) → List (V × V) → Prop := fun H φ => Paired fun a b => RelD K H φ a.1 b.1 ∧ RelD K H φ a.2 b.2
inductive PMt (K : PySem.W.Frag) (Γ : Nat → Addr) (E : XK) : List (TE × TE) → (Env → M (List (D × D))) → Prop
  | nil : PMt K Γ E [] pnilM
  | cons {trs : List (TE × TE)} {m : Env → M (List (D × D))} {mk mv : Env → M D} : PMt K Γ E trs m → PMt K Γ E ((tE K Γ E mk, tE K Γ E mv) :: trs) (pconM mk mv m)
theorem PMt.go {trs : List (TE × TE)} {m : Env → M (List (D × D))} (t : PMt K Γ E trs m) : ∀ {φ : List Addr} {r : Env} {S : Sto} {H : Hp} {σ : Sl} {Q : List (V × V) → Hp → Prop}, Sim K Γ φ S H → RelE K H φ r σ → Post K Γ E (rPs K) φ H (m r S) Q → tPairs trs σ H Q := by
  induction t with
  | nil =>
    intro φ r S H σ Q s q p
    exact p.val s .nil
  | @cons trs m mk mv t ih =>
    intro φ r S H σ Q s q p
    refine tE_bnd s q p fun φ1 S1 d v H1 e1 s1 q1 rv p1 => ?_
    refine tE_bnd s1 q1 p1 fun φ2 S2 d2 v2 H2 e2 s2 q2 rv2 p2 => ?_
    refine ih s2 q2 ((Post.bnd (rel := rPs K) p2).imp fun ps H3 ⟨φ3, S3, ds, e3, s3, r3, p3⟩ => ?_)
    exact p3.val s3 (.cons ⟨RelD.mono (e2.trans e3) _ _ rv, RelD.mono e3 _ _ rv2⟩ r3)
theorem kvs_rel {H : Hp} {φ : List Addr} : ∀ {ps : List (D × D)} {vs : List (V × V)} {kvs : List (Key × D)}, kvsOf ps = some kvs → rPs K H φ ps vs → ∃ ws : List (Key × V), vs = ws.map (fun kv => (kV kv.1, kv.2)) ∧ RelKv K H φ kvs ws
  | [], _, _, e, r => by
    cases r
    unfold kvsOf at e
    cases e
    exact ⟨[], rfl, .nil⟩
  | (k, v) :: ps, _, _, e, r => by
    cases r with
    | @cons _ b _ bs r1 r2 =>
      unfold kvsOf at e
      split at e
      · rename_i a l h1 h2
        cases e
        obtain ⟨ws, rfl, h3⟩ := kvs_rel h2 r2
        obtain ⟨b1, b2⟩ := b
        have hk : b1 = kV a := unKey_rel h1 r1.1
        subst hk
        exact ⟨(a, b2) :: ws, rfl, .cons ⟨rfl, r1.2⟩ h3⟩
      · cases e
theorem relKv_length {κ : Type} {H : Hp} {φ : List Addr} {ks : List (κ × D)} {vs : List (κ × V)} (r : RelKv K H φ ks vs) : ks.length = vs.length := Paired.length r
theorem re_disp {pos : Pos} {keys : List (Option Expr)} {values : List Expr} {trs : List (TE × TE)} {m : Env → M (List (D × D))} (h : PPs X pos keys values trs) (t : PMt X.K Γ E trs m) (hall : keys.all (·.isSome) = true) (hl : keys.length = values.length) (h0 : keys ≠ [])
    (h15 : keys.length ≤ 15) : RE X Γ E (.Dict keys values pos) (dispM m) := by
  refine PE.weaken (pe_disp h hall hl h0 h15) fun σ H Q ⟨φ, r, S, s, q, p⟩ => ?_
  intro D hD
  have q' := q.mono (Ext.new0 (o := .dK []) hD)
  refine t.go (s.hide hD) q' ?_
  unfold dispM at p
  cases hm : m r S with
  | no => rw [bind_def, hm] at p; exact p.elim
  | err c fs S1 =>
    rw [bind_def, hm] at p
    exact fun φ' H' dx e' s' x z => p φ' H' dx ((Ext.new0 hD).trans e') s' x fun b y => (Ext.new0 (K := X.K) (φ := φ) (o := .dK []) hD).old b (z b y)
  | ok ps S1 =>
    rw [bnd_ok hm] at p
    unfold dispF at p
    intro φ' H' vs e' s' rv
    cases hk : kvsOf ps with
    | none => simp only [hk] at p; exact p.elim
    | some kvs =>
      simp only [hk] at p
      by_cases hz : kvs.length ≤ 15
      · rw [if_pos hz] at p
        obtain ⟨ws, rfl, rk⟩ := kvs_rel hk rv
        obtain ⟨hD2, hn⟩ := e'.hid D _ upd_same (s.fresh hD)
        have mu : Mut (H' D) := by rw [hD2]; exact trivial
        refine ⟨hD2, ws, rfl, by rw [← relKv_length rk]; exact hz, ?_⟩
        have s2 : Sim X.K Γ φ' S1 (upd H' D (.dK (mergeK [] ws))) := (s'.hid hn mu).1
        have kD := (s'.hid (ho := .dK (mergeK [] ws)) hn mu).2
        have gr : Gr X.K φ' (upd H' D (.dK (mergeK [] ws))) (φ' ++ [D]) (upd H' D (.dK (mergeK [] ws))) := ⟨.refl, [D], rfl⟩
        have rk2 : RelKv X.K (upd H' D (.dK (mergeK [] ws))) φ' kvs ws := Paired.mapP rk fun a b ⟨z1, z2⟩ => ⟨z1, kD _ _ z2⟩
        have ro : RelO X.K Γ (upd H' D (.dK (mergeK [] ws))) (φ' ++ [D]) D (.dK (mergeKD [] kvs)) := ⟨_, upd_same, RelKv.mono gr (relKv_merge rk2 .nil)⟩
        refine p (φ' ++ [D]) (upd H' D (.dK (mergeK [] ws))) (.ref D) ?_ (s2.unhide hn ro (.inl gr)) (.ref (by rw [← s2.len, List.getElem?_append_right (Nat.le_refl _)]; simp))
        refine ⟨⟨((Kp.new hD).trans e'.toKp).trans (Kp.mut mu), ?_⟩, fun b u hb nb => ?_, old_upd fun b z => (old_upd (p := D) fun _ y => y) b (e'.old b z)⟩
        · obtain ⟨t, ht⟩ := e'.pre
          exact ⟨t ++ [D], by rw [ht, List.append_assoc]⟩
        · have ne : b ≠ D := ne_of_none hb hD
          obtain ⟨z1, z2⟩ := e'.hid b u (by rw [upd_ne ne]; exact hb) nb
          refine ⟨by rw [upd_ne ne]; exact z1, fun z => ?_⟩
          rcases List.mem_append.mp z with z | z
          · exact z2 z
          · exact ne (by simpa using z)
      · rw [if_neg hz] at p; exact p.elim
end

/-! own classes: fields, making, methods -/
open PySem PySem.Spec PyProof.Rows L2

theorem relKv_lookup {K : PySem.W.Frag} {H : Hp} {φ : List Addr} {f : Str} : ∀ {fs : List (Str × D)} {vs : List (Str × V)}, RelKv K H φ fs vs → (∀ d, fs.lookup f = some d → ∃ v, vs.lookup f = some v ∧ RelD K H φ d v) ∧ (fs.lookup f = none → vs.lookup f = none)
  | _, _, .nil => ⟨fun d h => (by cases h), fun _ => rfl⟩
  | _, _, .cons (a := p) (b := q) a t => by
    obtain ⟨x, d⟩ := p
    obtain ⟨y, v⟩ := q
    obtain ⟨e, r⟩ := a
    obtain rfl : x = y := e
    obtain ⟨i1, i2⟩ := relKv_lookup (f := f) t
    simp only [List.lookup_cons]
    by_cases hx : (f == x) = true
    · rw [hx]
      exact ⟨fun d' h => ⟨v, rfl, (by cases h; exact r)⟩, fun h => (by cases h)⟩
    · rw [Bool.eq_false_iff.mpr hx]
      exact ⟨i1, i2⟩
/-! ### e.f -/
def fldD (cs : List Nat) (f : Str) (d : D) : M D := fun S => match d with
  | .ref n => match S[n]? with
    | some (.ins c fs) => if c ∈ cs then (match fs.lookup f with
      | some v => .ok v S
      | none => .no) else .no
    | _ => .no
  | _ => .no
def fldM (cs : List Nat) (f : Str) (m : Env → M D) : Env → M D := fun r => m r >>= fldD cs f
section
variable {X : Cx} {Γ : Nat → Addr} {E : XK} {e o value : Expr} {m mo mv : Env → M D} {f : Str} {pos pos' : Pos}
theorem sim_ins {K : PySem.W.Frag} {φ : List Addr} {S : Sto} {H : Hp} {n c : Nat} {a : Addr} {fs : List (Str × D)} (s : Sim K Γ φ S H) (hq : φ[n]? = some a) (h : S[n]? = some (.ins c fs)) : ∃ dx vs, H a = some (.ins (Γ c) dx vs) ∧ RelKv K H φ fs vs := s.obj n _ _ h hq
theorem re_fld {cs : List Nat} (hc : ∀ c ∈ cs, Cls X.K (Γ c) ∧ NoAttr X.K (Γ c) f) (he : RE X Γ E e m) (hb : attributeBase e f X.env (eval e X.env) = eval e X.env := by rfl) : RE X Γ E (.Attribute e f pos) (fldM cs f m) := by
  refine PE.weaken (pe_fld he hb) fun σ H Q ⟨φ, r, S, s, q, p⟩ => ?_
  refine tE_bnd s q p fun φ1 S1 d v H1 e1 s1 q1 rv p1 => ?_
  unfold fldD at p1
  cases d with
  | ref n =>
    cases rv with
    | @ref _ a hq =>
      cases hS : S1[n]? with
      | none => simp only [hS] at p1; exact p1.elim
      | some u =>
        cases u with
        | ins c fs =>
          simp only [hS] at p1
          by_cases hcs : c ∈ cs
          · rw [if_pos hcs] at p1
            cases hl : fs.lookup f with
            | none => simp only [hl] at p1; exact p1.elim
            | some d' =>
              simp only [hl] at p1
              obtain ⟨dx, vs, h1, h2⟩ := sim_ins s1 hq hS
              obtain ⟨w, h3, h4⟩ := (relKv_lookup h2).1 d' hl
              exact ⟨a, Γ c, dx, vs, w, rfl, h1, (hc c hcs).1, (hc c hcs).2, h3, p1.here s1 h4⟩
          · rw [if_neg hcs] at p1; exact p1.elim
        | _ => simp only [hS] at p1; exact p1.elim
  | _ => exact p1.elim
end
/-! ### o.m(..) -/
def insOk (c : Nat) (m : Str) (o : D) : M Unit := fun S => match o with
  | .ref n => match S[n]? with
    | some (.ins c' fs) => if c' = c ∧ fs.lookup m = none then .ok () S else .no
    | _ => .no
  | _ => .no
def methM (c : Nat) (m : Str) (f : List D → M D) (mo : Env → M D) (mA : Env → M (List D)) : Env → M D := fun r => mo r >>= fun o => insOk c m o >>= fun _ => mA r >>= fun ds => f (o :: ds)
section
variable {X : Cx} {Γ : Nat → Addr} {E : XK} {e o : Expr} {es : List Expr} {mo : Env → M D} {mA : Env → M (List D)} {CX : CXT} {k n c : Nat} {f C : Addr} {fd : FuncData} {ps : List Str} {sp : Sp} {m x : Str} {p pos apos : Pos} {ta : TE} {t : TA} {mf : List D → M D}
def tMethG (C : Addr) (m : Str) (sp : Sp) (E : XK) (ta : TE) (t : TA) : TE := fun σ H Q => ta σ H fun x H1 => ∃ a dx fs, x = .ref a ∧ H1 a = some (.ins C dx fs) ∧ fs.lookup m = none ∧ t σ H1 fun vs H2 => sp (x :: vs) H2 Q E
theorem pe_methG {pl : Sem Bool} (he : PE X o ta) (hC : Cls X.K C) (hm : Meth X.K C m f) (F : FnG X.prog X.w X.K X.mg X.base CX k f fd ps sp) (hq : Quiet X.A) (hr : Room k X.A) (hb : Binds X.K fd ps []) (hx : Passes CX X E) (ha : PA X (e :: es) t)
    (h1 : starEach (e :: es) X.env = (false, eval e X.env) :: starEach es X.env := by rfl) (h2 : (backTo pos (starEach es X.env)).any (·.1) = false := by rfl)
    (h3 : eval (.Call (.Attribute o m apos) (e :: es) [] pos) X.env = (do
      let recv ← eval o X.env
      standAt apos.atName
      let (g, first) ← holding [recv] (getMethod recv m pl)
      callWith pos g first (backTo pos (starEach (e :: es) X.env)) (backToKw pos (keywordEach [] X.env))) := by rfl) :
    PE X (.Call (.Attribute o m apos) (e :: es) [] pos) (tMethG C m sp E ta t) := by
  refine ⟨fun pins s σ H Q I h => PySem.W.methodCall_KW (pl := pl) (thn (he.run pins s σ H _ I h) ?_) h3⟩
  rintro u s1 ⟨x, H1, I1, rx, a, dx, fs, rfl, ea, l, q⟩
  obtain rfl : u = Value.ref a := rx
  refine getmeth_ok I1 ea hC hm l ?_
  refine PySem.W.callWith_K (h₀ := X.base) (first := [.ref a]) I.ok.mod.kin hm.kp (thn (ha.run pos pins s1 σ H1 _ I1 q) ?_) h1 h2
  rintro us s2 ⟨vs, H2, I2, r, q2⟩
  exact ⟨I2.kIn, call_G (us := .ref a :: us) (vs := .ref a :: vs) F hq hr hb hx I2 (.cons rfl r) q2⟩
theorem pe_methG0 {pl : Sem Bool} (he : PE X o ta) (hC : Cls X.K C) (hm : Meth X.K C m f) (F : FnG X.prog X.w X.K X.mg X.base CX k f fd ps sp) (hq : Quiet X.A) (hr : Room k X.A) (hb : Binds X.K fd ps []) (hx : Passes CX X E)
    (h3 : eval (.Call (.Attribute o m apos) [] [] pos) X.env = (do
      let recv ← eval o X.env
      standAt apos.atName
      let (g, first) ← holding [recv] (getMethod recv m pl)
      callWith pos g first (backTo pos (starEach [] X.env)) (backToKw pos (keywordEach [] X.env))) := by rfl) :
    PE X (.Call (.Attribute o m apos) [] [] pos) (tMethG C m sp E ta tNil) := by
  refine ⟨fun pins s σ H Q I h => PySem.W.methodCall_KW (pl := pl) (thn (he.run pins s σ H _ I h) ?_) h3⟩
  rintro u s1 ⟨x, H1, I1, rx, a, dx, fs, rfl, ea, l, q⟩
  obtain rfl : u = Value.ref a := rx
  refine getmeth_ok I1 ea hC hm l ?_
  exact PySem.W.callWith_K0 (first := [.ref a]) I1.kIn hm.kp (call_G (us := [.ref a]) (vs := [.ref a]) F hq hr hb hx I1 (.cons rfl .nil) q)
theorem meth_to {φ : List Addr} {r : Env} {S : Sto} {σ : Sl} {H : Hp} {Q : VK} (hl : ∀ r S ds S', mA r S = .ok ds S' → ds.length + 1 = n) (s : Sim X.K Γ φ S H) (q : RelE X.K H φ r σ) (p : Post X.K Γ E (rD X.K) φ H (methM c m mf mo mA r S) Q) :
    tMethG (Γ c) m (spM X.K Γ n mf) E (tE X.K Γ E mo) (tA X.K Γ E mA) σ H Q := by
  unfold methM at p
  refine tE_bnd s q p fun φ1 S1 d v H1 e1 s1 q1 rv p1 => ?_
  unfold insOk at p1
  cases d with
  | ref k =>
    cases rv with
    | @ref _ a hq =>
      cases hS : S1[k]? with
      | none =>
        rw [bind_def] at p1
        simp only [hS] at p1
        exact p1.elim
      | some u =>
        cases u with
        | ins c' fs =>
          by_cases hz : c' = c ∧ fs.lookup m = none
          · obtain ⟨rfl, hl2⟩ := hz
            obtain ⟨dx, vs, h1, h2⟩ := sim_ins s1 hq hS
            refine ⟨a, dx, vs, rfl, h1, (relKv_lookup h2).2 hl2, ?_⟩
            have p2 : Post X.K Γ E (rD X.K) φ1 H1 ((mA r >>= fun ds => mf (.ref k :: ds)) S1) Q := by
              rw [bind_def] at p1
              simp only [hS, hl2, and_self, if_true] at p1
              exact p1
            refine ⟨φ1, r, S1, s1, q1, ?_⟩
            cases hm : mA r S1 with
            | ok ds S2 =>
              rw [bnd_ok hm] at p2
              exact fun φ2 H2 vs2 e2 s2 rv2 => ⟨by rw [List.length_cons, ← RelDs.length rv2]; exact hl r S1 ds S2 hm, φ2, S2, .ref k :: ds, s2, .cons (.ref (e2.toGr.get hq)) rv2, p2.mono e2⟩
            | err c2 fs2 S2 => rw [bind_def, hm] at p2; exact p2
            | no => rw [bind_def, hm] at p2; exact p2
          · rw [bind_def] at p1
            simp only [hS, if_neg hz] at p1
            exact p1.elim
        | lst _ => rw [bind_def] at p1; simp only [hS] at p1; exact p1.elim
        | dK _ => rw [bind_def] at p1; simp only [hS] at p1; exact p1.elim
        | dT _ => rw [bind_def] at p1; simp only [hS] at p1; exact p1.elim
        | exo _ _ => rw [bind_def] at p1; simp only [hS] at p1; exact p1.elim
        | exd _ => rw [bind_def] at p1; simp only [hS] at p1; exact p1.elim
        | dKL _ => rw [bind_def] at p1; simp only [hS] at p1; exact p1.elim
        | dTL _ => rw [bind_def] at p1; simp only [hS] at p1; exact p1.elim
        | xdo _ => rw [bind_def] at p1; simp only [hS] at p1; exact p1.elim
  | _ => rw [bind_def] at p1; exact p1.elim
theorem re_meth {pl : Sem Bool} (he : RE X Γ E o mo) (hC : Cls X.K (Γ c)) (hm : Meth X.K (Γ c) m f) (F : FnG X.prog X.w X.K X.mg X.base CX k f fd ps (spM X.K Γ n mf)) (hq : Quiet X.A) (hr : Room k X.A) (hb : Binds X.K fd ps []) (hx : Passes CX X E) (ha : RA X Γ E (e :: es) mA)
    (hl : ∀ r S ds S', mA r S = .ok ds S' → ds.length + 1 = n)
    (h1 : starEach (e :: es) X.env = (false, eval e X.env) :: starEach es X.env := by rfl) (h2 : (backTo pos (starEach es X.env)).any (·.1) = false := by rfl)
    (h3 : eval (.Call (.Attribute o m apos) (e :: es) [] pos) X.env = (do
      let recv ← eval o X.env
      standAt apos.atName
      let (g, first) ← holding [recv] (getMethod recv m pl)
      callWith pos g first (backTo pos (starEach (e :: es) X.env)) (backToKw pos (keywordEach [] X.env))) := by rfl) :
    RE X Γ E (.Call (.Attribute o m apos) (e :: es) [] pos) (methM c m mf mo mA) :=
  PE.weaken (pe_methG he hC hm F hq hr hb hx ha h1 h2 h3) fun σ H Q ⟨φ, r, S, s, q, p⟩ => meth_to hl s q p
theorem re_meth0 {pl : Sem Bool} (he : RE X Γ E o mo) (hC : Cls X.K (Γ c)) (hm : Meth X.K (Γ c) m f) (F : FnG X.prog X.w X.K X.mg X.base CX k f fd ps (spM X.K Γ 1 mf)) (hq : Quiet X.A) (hr : Room k X.A) (hb : Binds X.K fd ps []) (hx : Passes CX X E)
    (h3 : eval (.Call (.Attribute o m apos) [] [] pos) X.env = (do
      let recv ← eval o X.env
      standAt apos.atName
      let (g, first) ← holding [recv] (getMethod recv m pl)
      callWith pos g first (backTo pos (starEach [] X.env)) (backToKw pos (keywordEach [] X.env))) := by rfl) :
    RE X Γ E (.Call (.Attribute o m apos) [] [] pos) (methM c m mf mo nilA) :=
  PE.weaken (pe_methG0 he hC hm F hq hr hb hx h3) fun σ H Q ⟨φ, r, S, s, q, p⟩ => by
    obtain ⟨φ1, r1, S1, s1, q1, p1⟩ := meth_to (n := 1) (fun r S ds S' h => by cases h; rfl) s q p
    refine ⟨φ1, r1, S1, s1, q1, p1.imp fun v H1 ⟨a, dx, fs, z1, z2, z3, z4⟩ => ⟨a, dx, fs, z1, z2, z3, ?_⟩⟩
    obtain ⟨φ2, r2, S2, s2, q2, p2⟩ := z4
    exact p2.here s2 .nil
end

/-! own classes: a field set, an instance made -/
open PySem PySem.Spec PyProof.Rows L2

def putD (f : Str) (d : D) : List (Str × D) → List (Str × D)
  | [] => [(f, d)]
  | (g, x) :: r => if g = f then (g, d) :: r else (g, x) :: putD f d r
theorem relKv_putD {K : PySem.W.Frag} {H : Hp} {φ : List Addr} {f : Str} {d : D} {v : V} (hv : RelD K H φ d v) : ∀ {fs : List (Str × D)} {vs : List (Str × V)}, RelKv K H φ fs vs → RelKv K H φ (putD f d fs) (putF f v vs)
  | _, _, .nil => .cons ⟨rfl, hv⟩ .nil
  | _, _, .cons (a := p) (b := q) a t => by
    obtain ⟨x, d'⟩ := p
    obtain ⟨y, v'⟩ := q
    obtain ⟨e, r⟩ := a
    obtain rfl : x = y := e
    unfold putD putF
    by_cases hx : x = f
    · rw [if_pos hx, if_pos hx]
      exact .cons ⟨rfl, hv⟩ t
    · rw [if_neg hx, if_neg hx]
      exact .cons ⟨rfl, r⟩ (relKv_putD hv t)
def fsetD (cs : List Nat) (f : Str) (o v : D) : M Unit := fun S => match o with
  | .ref n => match S[n]? with
    | some (.ins c fs) => if c ∈ cs ∧ fs.length < 1000 then .ok () (S.set n (.ins c (putD f v fs))) else .no
    | _ => .no
  | _ => .no
def fsetM (cs : List Nat) (f : Str) (mo mv : Env → M D) : Env → M Fl := fun r => mv r >>= fun v => mo r >>= fun o => fsetD cs f o v >>= fun _ => pure (.nx r)
section
variable {X : Cx} {Γ : Nat → Addr} {E : XK} {e o value : Expr} {mo mv : Env → M D} {f : Str} {pos pos' : Pos}
theorem rs_fset {cs : List Nat} (hc : ∀ c ∈ cs, Cls X.K (Γ c) ∧ NoAttr X.K (Γ c) f) (ho : RE X Γ E o mo) (hv : RE X Γ E value mv) (hs : swapsWith value (some (.Attribute o f pos')) pos.line X.env = pure false := by rfl) : RS X Γ E (.Assign [.Attribute o f pos'] value pos) (fsetM cs f mo mv) := by
  refine PS.weaken (ps_fld ho hv hs) fun D σ H ⟨φ, r, S, s, q, p⟩ => ?_
  refine tE_bnd s q p fun φ1 S1 dv y H1 e1 s1 q1 ry p1 => ?_
  refine tE_bnd s1 q1 p1 fun φ2 S2 d x H2 e2 s2 q2 rx p2 => ?_
  unfold fsetD at p2
  rw [bind_def] at p2
  cases d with
  | ref n =>
    cases rx with
    | @ref _ a hq =>
      cases hS : S2[n]? with
      | none => simp only [hS] at p2; exact p2.elim
      | some u =>
        cases u with
        | ins c fs =>
          simp only [hS] at p2
          by_cases hz : c ∈ cs ∧ fs.length < 1000
          · rw [if_pos hz] at p2
            obtain ⟨dx, vs, h1, h2⟩ := sim_ins s2 hq hS
            have mu : Mut (H2 a) := by rw [h1]; exact trivial
            have e3 := Ext.mut (K := X.K) (φ := φ2) (o := HO.ins (Γ c) dx (putF f y vs)) mu hq
            have rk : RelKv X.K (upd H2 a (.ins (Γ c) dx (putF f y vs))) φ2 (putD f dv fs) (putF f y vs) := RelKv.mono e3.toGr (relKv_putD (RelD.mono e2 _ _ ry) h2)
            refine ⟨a, Γ c, dx, vs, rfl, h1, (hc c hz.1).1, (hc c hz.1).2, by rw [← relKv_length h2]; exact hz.2, ?_⟩
            exact p2 φ2 (upd H2 a (.ins (Γ c) dx (putF f y vs))) (FV.nx σ) e3 (s2.set mu hS hq ⟨dx, _, upd_same, rk⟩) (.nx (q2.mono e3))
          · rw [if_neg hz] at p2; exact p2.elim
        | lst _ => simp only [hS] at p2; exact p2.elim
        | dK _ => simp only [hS] at p2; exact p2.elim
        | dT _ => simp only [hS] at p2; exact p2.elim
        | exo _ _ => simp only [hS] at p2; exact p2.elim
        | exd _ => simp only [hS] at p2; exact p2.elim
        | dKL _ => simp only [hS] at p2; exact p2.elim
        | dTL _ => simp only [hS] at p2; exact p2.elim
        | xdo _ => simp only [hS] at p2; exact p2.elim
  | _ => exact p2.elim
end
/-! ### C(..) -/
def mkM (c : Nat) (mi : List D → M D) : List D → M D := fun ds S => match mi (.ref S.length :: ds) (S ++ [.ins c []]) with
  | .ok .non S' => .ok (.ref S.length) S'
  | .ok _ _ => .no
  | .err c' fs S' => .err c' fs S'
  | .no => .no
section
variable {X : Cx} {Γ : Nat → Addr} {E : XK} {e : Expr} {es : List Expr} {mA : Env → M (List D)} {CX : CXT} {k n c : Nat} {f C : Addr} {fd : FuncData} {ps : List Str} {sp : Sp} {x : Str} {p pos : Pos} {t : TA} {mi : List D → M D} {dvs : List V} {ds : List Value}
theorem run_makeG {pins : List (Addr × Obj)} {σ : Sl} {H : Hp} {s : Shared} {Q : VK} {us : List Value} {vs : List V} (T : Mk X.K C f) (F : FnG X.prog X.w X.K X.mg X.base CX k f fd ps sp) (hq : Quiet X.A) (hr : Room (k + 1) X.A) (hb : Binds X.K fd ps ds) (hd : Vals dvs ds)
    (hx : Passes CX X E) (I : Inv X pins σ H s) (r : Vals vs us) (h : ∀ y dx, H y = none → H dx = none → dx ≠ y → sp (.ref y :: (vs ++ dvs)) (upd (upd H dx (.own y)) y (.ins C dx [])) (fun v H2 => v = .non ∧ Q (.ref y) H2) E) :
    wpAny (model X.prog X.w) X.A (call (.ref C) us) (EP X pins σ Q) X.xe s := by
  have z := h (s.heap.objs.size + 1) s.heap.objs.size (I.hok.fresh (Nat.le_succ _)) (I.hok.fresh (Nat.le_refl _)) (Nat.ne_of_lt (Nat.lt_succ_self _))
  have J := Inv.made (C := C) I
  have rr : Vals (V.ref (s.heap.objs.size + 1) :: (vs ++ dvs)) (Value.ref (s.heap.objs.size + 1) :: (us ++ ds)) := .cons rfl (r.append hd)
  have hz : (Value.ref (s.heap.objs.size + 1) :: us ++ ds).length = ps.length := by
    rw [← F.few _ _ _ _ z]
    exact rr.length.symm
  have go := F.go (X.A.under (.builtin "type.__call__" ⟨.ref C :: us, []⟩)) X.stack _ _ ⟨Value.ref (s.heap.objs.size + 1) :: us, []⟩
    (Value.ref (s.heap.objs.size + 1) :: (us ++ ds)) _ _ E hq (hr.make C us []) (J.env0.make C us [])
    (hb _ (Value.ref (s.heap.objs.size + 1) :: us) J.kIn hz) rr z
  refine wpAny_call (make_map (f := f) I.kIn T.makes T.init (beq_iff_eq.mp T.fn) (codeAny_mono go fun res s' q => ?_))
  match res, q with
  | .error ev, q => exact hx pins σ _ _ ev s' J q
  | .ok (.ret u), q =>
    obtain ⟨v, H', J', rv, ev, q3⟩ := J.after q
    subst ev
    exact ⟨rv, V.ref (s.heap.objs.size + 1), H', J', rfl, q3⟩
def tMakeG (C : Addr) (sp : Sp) (dvs : List V) (E : XK) (t : TA) : TE := fun σ H Q => t σ H fun vs H1 => ∀ y dx, H1 y = none → H1 dx = none → dx ≠ y → sp (.ref y :: (vs ++ dvs)) (upd (upd H1 dx (.own y)) y (.ins C dx [])) (fun v H2 => v = .non ∧ Q (.ref y) H2) E
theorem pe_makeG (T : Mk X.K C f) (F : FnG X.prog X.w X.K X.mg X.base CX k f fd ps sp) (hq : Quiet X.A) (hr : Room (k + 1) X.A) (hg : Gl X x) (hm : X.mg x = some (.ref C)) (hb : Binds X.K fd ps ds) (hd : Vals dvs ds) (hx : Passes CX X E)
    (ha : PA X (e :: es) t) (hdb : (x == ("__debug__" : Str)) = false := by decide) (h1 : starEach (e :: es) X.env = (false, eval e X.env) :: starEach es X.env := by rfl) (h2 : (backTo pos (starEach es X.env)).any (·.1) = false := by rfl) :
    PE X (.Call (.Name x p) (e :: es) [] pos) (tMakeG C sp dvs E t) := by
  refine ⟨fun pins s σ H Q I h => wpAny_Call_Name_kw (ld_glob I hg hm ?_ hdb)⟩
  refine PySem.W.callWith_K (h₀ := X.base) I.ok.mod.kin T.kp (thn (ha.run pos pins s σ H _ I h) ?_) h1 h2
  rintro us s1 ⟨vs, H1, I1, r, q⟩
  exact ⟨I1.kIn, run_makeG T F hq hr hb hd hx I1 r q⟩
theorem make_to {K : PySem.W.Frag} {φ : List Addr} {S : Sto} {H : Hp} {Q : VK} {l : List D} {vs : List V} (hl : l.length + 1 = n) (s : Sim K Γ φ S H) (rv : RelDs K H φ l vs) (p : Post K Γ E (rD K) φ H (mkM c mi l S) Q) {y dx : Addr} (h1 : H y = none) (h2 : H dx = none) (h3 : dx ≠ y) :
    spM K Γ n mi (.ref y :: vs) (upd (upd H dx (.own y)) y (.ins (Γ c) dx [])) (fun v H2 => v = .non ∧ Q (.ref y) H2) E := by
  have hy : upd H dx (.own y) y = none := by rw [upd_ne (Ne.symm h3)]; exact h1
  have e1 : Ext K φ H φ (upd H dx (.own y)) := Ext.new0 h2
  have e2 : Ext K φ (upd H dx (.own y)) (φ ++ [y]) (upd (upd H dx (.own y)) y (.ins (Γ c) dx [])) := Ext.new hy
  have e := e1.trans e2
  have s2 : Sim K Γ (φ ++ [y]) (S ++ [.ins c []]) (upd (upd H dx (.own y)) y (.ins (Γ c) dx [])) := (s.hide h2).new hy ⟨dx, [], upd_same, .nil⟩
  have hn : (φ ++ [y])[S.length]? = some y := by rw [← s.len, List.getElem?_append_right (Nat.le_refl _)]; simp
  refine ⟨by rw [List.length_cons, ← RelDs.length rv]; exact hl, φ ++ [y], S ++ [.ins c []], .ref S.length :: l, s2, .cons (.ref hn) (RelDs.mono e _ _ rv), ?_⟩
  unfold mkM at p
  cases hm : mi (.ref S.length :: l) (S ++ [.ins c []]) with
  | ok d S' =>
    cases d with
    | non =>
      simp only [hm] at p
      intro φ' H' v e' s' r
      cases r
      exact ⟨rfl, p φ' H' (.ref y) (e.trans e') s' (.ref (e'.toGr.get hn))⟩
    | _ => simp only [hm] at p; exact p.elim
  | err c' fs S' =>
    simp only [hm] at p
    exact fun φ' H' dx' e' s' x' z' => p φ' H' dx' (e.trans e') s' x' fun x y => e.old x (z' x y)
  | no => simp only [hm] at p; exact p.elim
theorem re_make (T : Mk X.K (Γ c) f) (F : FnG X.prog X.w X.K X.mg X.base CX k f fd ps (spM X.K Γ n mi)) (hq : Quiet X.A) (hr : Room (k + 1) X.A) (hg : Gl X x) (hm : X.mg x = some (.ref (Γ c))) (hb : Binds X.K fd ps []) (hx : Passes CX X E)
    (ha : RA X Γ E (e :: es) mA) (hl : ∀ r S ds S', mA r S = .ok ds S' → ds.length + 1 = n) (hdb : (x == ("__debug__" : Str)) = false := by decide) (h1 : starEach (e :: es) X.env = (false, eval e X.env) :: starEach es X.env := by rfl) (h2 : (backTo pos (starEach es X.env)).any (·.1) = false := by rfl) :
    RE X Γ E (.Call (.Name x p) (e :: es) [] pos) (clM (mkM c mi) mA) := by
  refine PE.weaken (pe_makeG (dvs := []) T F hq hr hg hm hb .nil hx ha hdb h1 h2) fun σ H Q ⟨φ, r, S, s, q, p⟩ => ?_
  have p' : Post X.K Γ E (rD X.K) φ H ((mA r >>= mkM c mi) S) Q := p
  refine ⟨φ, r, S, s, q, ?_⟩
  cases hm2 : mA r S with
  | ok ds S1 =>
    rw [bnd_ok hm2] at p'
    intro φ1 H1 vs e1 s1 rv y dx z1 z2 z3
    rw [List.append_nil]
    exact make_to (hl r S ds S1 hm2) s1 rv (p'.mono e1) z1 z2 z3
  | err c' fs S1 => rw [bind_def, hm2] at p'; exact p'
  | no => rw [bind_def, hm2] at p'; exact p'
end

/-! sorted(xs) of texts, numbers, tuples of them -/
open PySem PySem.Spec PyProof.Rows L2

def tup1 : PyData → Bool
  | .tuple (_ :: _) => true
  | _ => false
def noTup : PyData → Bool
  | .tuple _ => false
  | .none => false
  | _ => true
def canSort (ps : List PyData) : Bool := (ps.all fun p => ps.all fun q => PySem.W.alike p q) && (ps.all tup1 || ps.all noTup) && ps.all fun p => decide (p.depth ≤ 64)
/-- xs in the order of what they read as -/
def sortL (xs : List D) (ps : List PyData) : List D := ((xs.zip ps).mergeSort (PySem.W.dataLe false Prod.snd)).map Prod.fst
def sortedL (S : Sto) (xs : List D) : Option (List D) := match toPys (toPy S deep) xs with
  | some ps => if canSort ps = true ∧ xs.length ≤ sizeLine then some (sortL xs ps) else none
  | none => none
def sortedD : List D → M D
  | [d] => fun S => match seqL S d with
    | some xs => match sortedL S xs with
      | some ys => newO (.lst ys) S
      | none => .no
    | none => .no
  | _ => stuck
theorem canSort_of {ps : List PyData} (h : canSort ps = true) : PySem.W.AllAlike ps ∧ PySem.W.Sortable ps ∧ ∀ p ∈ ps, p.depth ≤ 64 := by
  unfold canSort at h
  rw [Bool.and_eq_true, Bool.and_eq_true] at h
  refine ⟨fun d hd d' hd' => List.all_eq_true.mp (List.all_eq_true.mp h.1.1 d hd) d' hd', ?_, fun p hp => of_decide_eq_true (List.all_eq_true.mp h.2 p hp)⟩
  rcases Bool.or_eq_true _ _ ▸ h.1.2 with h1 | h1
  · refine .inl fun d hd => ?_
    have := List.all_eq_true.mp h1 d hd
    unfold tup1 at this
    split at this
    · exact ⟨_, _, rfl⟩
    · cases this
  · refine .inr fun d hd => ?_
    have := List.all_eq_true.mp h1 d hd
    constructor
    · rintro rfl; cases this
    · rintro xs rfl; cases this
section
variable {X : Cx} {Γ : Nat → Addr} {E : XK}
/-- what stands for a thing, and what it reads as -/
def StR (K : PySem.W.Frag) (H : Hp) (φ : List Addr) (h : Heap) (v : Value) (b : D × PyData) : Prop := ∃ x : V, RelV x v ∧ RelD K H φ b.1 x ∧ ∃ as, Reads h v b.2 as
theorem stR_list (hz : SysIn X.base) {pins : List (Addr × Obj)} {s : Shared} {σ : Sl} {H : Hp} {φ : List Addr} {S : Sto} (I : Inv X pins σ H s) (sm : Sim X.K Γ φ S H) : ∀ {xs : List D} {vs : List V} {us : List Value} {ps : List PyData}, toPys (toPy S deep) xs = some ps → RelDs X.K H φ xs vs → Vals vs us →
    PySem.W.EachIs (StR X.K H φ s.heap) us (xs.zip ps) ∧ xs.length = ps.length
  | [], _, _, _, e, r, rv => by
    cases r
    cases rv
    unfold toPys at e
    cases e
    exact ⟨.nil, rfl⟩
  | x :: xs, _, _, _, e, r, rv => by
    cases r with
    | cons r1 r2 =>
      cases rv with
      | cons v1 v2 =>
        obtain ⟨p, q, rfl, h1, h2⟩ := toPys_cons e
        obtain ⟨as, z, _⟩ := reads_of hz I sm _ _ _ _ _ h1 r1 v1
        obtain ⟨t, hl⟩ := stR_list hz I sm h2 r2 v2
        exact ⟨.cons ⟨_, v1, r1, as, z⟩ t, by simp [hl]⟩
theorem stR_back {K : PySem.W.Frag} {H : Hp} {φ : List Addr} {h : Heap} : ∀ {us : List Value} {bs : List (D × PyData)}, PySem.W.EachIs (StR K H φ h) us bs → ∃ vs, Vals vs us ∧ RelDs K H φ (bs.map Prod.fst) vs
  | _, _, .nil => ⟨[], .nil, .nil⟩
  | _, _, .cons ⟨x, h1, h2, _⟩ t => by
    obtain ⟨vs, h3, h4⟩ := stR_back t
    exact ⟨x :: vs, .cons h1 h3, .cons h2 h4⟩
theorem sort_to (hz : SysIn X.base) (hu : X.A.units + 100 < cLine) {pins : List (Addr × Obj)} {s : Shared} {σ : Sl} {H : Hp} {φ : List Addr} {S : Sto} {Q : VK} {a : Addr} {xs ys : List D} {vs : List V} (I : Inv X pins σ H s) (sm : Sim X.K Γ φ S H) (hl : SqL X.K H a vs) (rd : RelDs X.K H φ xs vs) (hs : sortedL S xs = some ys)
    (p : Post X.K Γ E (rD X.K) φ H (newO (.lst ys) S) Q) : wpAny (model X.prog X.w) X.A (call (.builtin "sorted") [.ref a]) (EP X pins σ Q) X.xe s := by
  unfold sortedL at hs
  split at hs
  · rename_i ps hp
    by_cases hc : canSort ps = true ∧ xs.length ≤ sizeLine
    · rw [if_pos hc] at hs
      obtain rfl : sortL xs ps = ys := Option.some.inj hs
      obtain ⟨al, so, dp⟩ := canSort_of hc.1
      obtain ⟨its, rv, hli, hzl⟩ := I.list hl
      obtain ⟨ea, elen⟩ := stR_list hz I sm hp rd rv
      have hsn : (xs.zip ps).map Prod.snd = ps := List.map_snd_zip (by omega)
      have er : PySem.W.EachIs (fun v d => ∃ as, Reads s.heap v d as) its ps := by
        rw [← hsn]
        have : ∀ {us : List Value} {bs : List (D × PyData)}, PySem.W.EachIs (StR X.K H φ s.heap) us bs → PySem.W.EachIs (fun v d => ∃ as, Reads s.heap v d as) us (bs.map Prod.snd) := fun {us bs} h => by
          induction h with
          | nil => exact .nil
          | cons h1 _ ih => exact .cons (let ⟨_, _, _, z⟩ := h1; z) ih
        exact this ea
      have er2 : PySem.W.EachIs (fun v d => ∃ as, Reads (PySem.W.sortingHeap (PySem.W.copyHeap s.heap its) (s.heap.objs.size + 1) its) v d as) its ps :=
        er.mono fun v d ⟨as, r⟩ => ⟨as, Reads.keeps (fun b o e => PySem.W.sorting_copy_old e) r⟩
      have hlen : its.length = xs.length := by rw [← rv.length, ← RelDs.length rd]
      refine PySem.W.sorted_vals (κ := PySem.W.dataKind (PySem.W.sortingHeap (PySem.W.copyHeap s.heap its) (s.heap.objs.size + 1) its) ps) hli.isList (PySem.W.SortsAt.data er2 al so fun d hd => ?_) (by rw [hlen]; exact hc.2) ?_
      · have := dp d hd
        show X.A.units + 1 + 1 + d.depth < cLine
        omega
      · have eo := PySem.W.sortVals_each (κ := PySem.W.dataKind (PySem.W.sortingHeap (PySem.W.copyHeap s.heap its) (s.heap.objs.size + 1) its) ps) (rev := false) (fun b : D × PyData => PySem.W.keyToks b.2) ea (PySem.W.each_of_map Prod.snd (by rw [hsn]; exact PySem.W.each_keys al er2))
        obtain ⟨ws, r1, r2⟩ := stR_back eo
        obtain ⟨ep, he'⟩ := PyProof.Rows.sortedAll_at s.heap its (PySem.W.sortVals (PySem.W.dataKind (PySem.W.sortingHeap (PySem.W.copyHeap s.heap its) (s.heap.objs.size + 1) its) ps) false its its).toArray
        have hwl : ws.length ≤ sizeLine := by
          rw [r1.length, PySem.W.sortVals_length false rfl, hlen]
          exact hc.2
        refine ⟨.ref _, upd H (s.heap.objs.size + 1) (.lst ws), I.laid (t' := s.toks) (fun _ _ => PyProof.Rows.sortedAll_old) (Nat.le_succ _) ⟨hwl, _, ep, r1, he'⟩, rfl, ?_⟩
        exact Post.newL sm r2 p _ (I.hok.fresh (Nat.le_succ _))
    · rw [if_neg hc] at hs; cases hs
  · cases hs
theorem cd_sorted (hz : SysIn X.base) (hu : X.A.units + 100 < cLine) : CallD X Γ E (.builtin "sorted") sortedD := by
  intro pins s σ H xs us Q I rv ⟨φ, S, ds, sm, r, p⟩
  unfold sortedD at p
  split at p
  · obtain ⟨v, rfl, r1⟩ := rel1 r
    split at p
    · rename_i ys hy
      split at p
      · rename_i zs hs
        obtain ⟨a, vs, rfl, h1, h2⟩ := seqL_rel sm hy r1
        obtain ⟨u, rfl, ru⟩ := vals1 rv
        obtain rfl : u = Value.ref a := ru
        exact sort_to hz hu I sm h1 h2 hs p
      · exact p.elim
    · exact p.elim
  · exact p.elim
end

/-! while; str(i); a.partition(b) -/
open PySem PySem.Spec PyProof.Rows L2

def whileN (t : Env → M Bool) (b : Env → M Fl) : Nat → Env → M Fl
  | 0 => fun _ => stuck
  | n + 1 => fun r => t r >>= fun c => if c = true then (b r >>= fun f => match f with
    | .nx r2 => whileN t b n r2
    | .ct r2 => whileN t b n r2
    | .bk r2 => pure (.nx r2)
    | .rt d => pure (.rt d)) else pure (.nx r)
def wFuel : Nat := 1000000
def whileM (t : Env → M Bool) (b : Env → M Fl) : Env → M Fl := whileN t b wFuel
section
variable {X : Cx} {Γ : Nat → Addr} {E : XK} {c : Expr} {body : List Stmt} {mt : Env → M Bool} {mb : Env → M Fl} {pos : Pos}
theorem rs_while (hp : PassesOwn (model X.prog X.w) X.A X.env X.xe) (hc : RT X Γ E c mt) (hb : RSs X Γ E body mb) : RS X Γ E (.While c body [] pos) (whileM mt mb) := by
  refine PS.weaken (ps_while hp hc hb) fun D σ H ⟨φ, r, S, s, q, p⟩ => ?_
  refine ⟨fun n σ H => ∃ φ r S, Sim X.K Γ φ S H ∧ RelE X.K H φ r σ ∧ Post X.K Γ E (rF X.K) φ H (whileN mt mb n r S) (endQ D), ⟨wFuel, φ, r, S, s, q, p⟩, ?_⟩
  rintro n σ1 H1 ⟨φ1, r1, S1, s1, q1, p1⟩
  cases n with
  | zero => exact p1.elim
  | succ n =>
    unfold whileN at p1
    refine ⟨φ1, r1, S1, s1, q1, (Post.bnd (rel := rB) p1).imp fun b H2 ⟨φ2, S2, b', e2, s2, rb, p2⟩ => ?_⟩
    have eb : b' = b := rb
    subst eb
    have q2 := q1.mono e2
    cases b' with
    | false =>
      rw [if_neg Bool.false_ne_true] at p2 ⊢
      exact p2.val (v := FV.nx σ1) s2 (.nx q2)
    | true =>
      rw [if_pos rfl] at p2 ⊢
      refine ⟨fun σ' H' => ∃ φ r S, Sim X.K Γ φ S H' ∧ RelE X.K H' φ r σ' ∧ Post X.K Γ E (rF X.K) φ H' (whileN mt mb n r S) (endQ D), fun σ' H' h => ⟨n, Nat.lt_succ_self _, h⟩, ?_⟩
      refine ⟨φ2, r1, S2, s2, q2, (Post.bnd (rel := rF X.K) p2).imp fun fv H3 ⟨φ3, S3, f, e3, s3, rf, p3⟩ => ?_⟩
      cases rf with
      | nx q3 => exact ⟨φ3, _, S3, s3, q3, p3⟩
      | ct q3 => exact ⟨φ3, _, S3, s3, q3, p3⟩
      | bk q3 => exact p3.val (v := FV.nx _) s3 (.nx q3)
      | rt rv => exact p3.val (v := FV.rt _) s3 (.rt rv)
/-- str(i), str(x) -/
def strD : List D → M D
  | [.int i] => if i.natAbs.log2 < 1920 then pure (.str (toString i)) else stuck
  | [.str x] => pure (.str x)
  | _ => stuck
theorem cd_str : CallD X Γ E (.type "str") strD := by
  intro pins s σ H xs us Q I rv ⟨φ, S, ds, sm, r, p⟩
  unfold strD at p
  split at p
  · obtain ⟨v, rfl, r1⟩ := rel1 r
    cases r1
    obtain ⟨hz, p⟩ := Post.ite p
    exact call_str_int pins s σ H _ us Q I rv ⟨_, rfl, hz, p.val sm (.str _)⟩
  · obtain ⟨v, rfl, r1⟩ := rel1 r
    cases r1
    exact SkE.call_str_str pins s σ H _ us Q I rv ⟨_, rfl, p.val sm (.str _)⟩
  · exact p.elim
/-- a.partition(b) -/
def partitionD (o : D) (ds : List D) : M D := match o, ds with
  | .str a, [.str b] => if (b.length == 0) = false ∧ a.length ≤ sizeLine then pure (.tup [.str (Txt.partition a b).1, .str (Txt.partition a b).2.1, .str (Txt.partition a b).2.2]) else stuck
  | _, _ => stuck
theorem md_partition : MtD X Γ E "str.partition" partitionD := by
  intro pins s σ H x vs v us Q I rx rv ⟨φ, S, d, ds, sm, r1, r2, p⟩
  unfold partitionD at p
  split at p
  · obtain ⟨w, rfl, r3⟩ := relDs_one r2
    cases r1
    cases r3
    obtain ⟨hz, p⟩ := Post.ite p
    exact mt_partition pins s σ H _ _ v us Q I rx rv ⟨_, _, rfl, rfl, hz.1, hz.2, Post.newT sm (.cons (.str _) (.cons (.str _) (.cons (.str _) .nil))) p⟩
  · exact p.elim
end

/-! own exceptions as values: made, their field set and read, isinstance -/
open PySem PySem.Spec PyProof.Rows L2

/-- what the text must say of an own class over ValueError -/
structure XCls (K : PySem.W.Frag) (C : Addr) : Prop where
  oex : OexC K C
  xf : XfC K C
  cl : (PySem.W.clsIn K C).isSome = true
  ha : PySem.W.findIn K (.ref C) "__class__" = some (some (.builtin "object.__class__"))
  hn : PySem.W.specialIn K (.builtin "object.__class__") "__get__" = some (some (.builtin "getset_descriptor.__get__"))
  ht : PySem.W.takesIn K (.builtin "object.__class__") = some true
  hm : PySem.W.mroIn K C (.type "object") = some true
def NoF (K : PySem.W.Frag) (C : Addr) (f : Str) : Prop := PySem.W.findIn K (.ref C) f = some none
section
variable {K : PySem.W.Frag} {Γ : Nat → Addr} {φ : List Addr} {S : Sto} {H : Hp} {n c m : Nat} {a : Addr} {fs : List (Str × D)}
theorem sim_exo0 (s : Sim K Γ φ S H) (hq : φ[n]? = some a) (h : S[n]? = some (.exo c none)) : H a = some (exo a (Γ c) none) := by
  obtain ⟨dx, h1, h2⟩ := s.obj n _ _ h hq
  cases dx with
  | none => exact h1
  | some x => exact h2.elim
theorem sim_exo1 (s : Sim K Γ φ S H) (hq : φ[n]? = some a) (h : S[n]? = some (.exo c (some m))) : ∃ x, φ[m]? = some x ∧ H a = some (exo a (Γ c) (some x)) := by
  obtain ⟨dx, h1, h2⟩ := s.obj n _ _ h hq
  cases dx with
  | none => exact h2.elim
  | some x => exact ⟨x, h2, h1⟩
theorem sim_exd {x : Addr} (s : Sim K Γ φ S H) (hq : φ[m]? = some x) (h : S[m]? = some (.exd fs)) : ∃ vs, H x = some (exd x vs) ∧ RelKv K H φ fs vs := s.obj m _ _ h hq
end
/-! ### self.f = v, the first one -/
def xsetD (cs : List Nat) (f : Str) (o v : D) : M Unit := fun S => match o with
  | .ref n => match S[n]? with
    | some (.exo c none) => if c ∈ cs then .ok () ((S ++ [O.exd [(f, v)]]).set n (O.exo c (some S.length))) else .no
    | _ => .no
  | _ => .no
def xsetM (cs : List Nat) (f : Str) (mo mv : Env → M D) : Env → M Fl := fun r => mv r >>= fun v => mo r >>= fun o => xsetD cs f o v >>= fun _ => pure (.nx r)
section
variable {X : Cx} {Γ : Nat → Addr} {E : XK} {e o value : Expr} {mo mv : Env → M D} {f : Str} {pos pos' : Pos}
theorem rs_xset {cs : List Nat} (hc : ∀ c ∈ cs, OexC X.K (Γ c) ∧ NoF X.K (Γ c) f) (ho : RE X Γ E o mo) (hv : RE X Γ E value mv) (hs : swapsWith value (some (.Attribute o f pos')) pos.line X.env = pure false := by rfl) : RS X Γ E (.Assign [.Attribute o f pos'] value pos) (xsetM cs f mo mv) := by
  refine PS.weaken (ps_ost ho hv hs) fun D σ H ⟨φ, r, S, s, q, p⟩ => ?_
  refine tE_bnd s q p fun φ1 S1 dv y H1 e1 s1 q1 ry p1 => ?_
  refine tE_bnd s1 q1 p1 fun φ2 S2 d x H2 e2 s2 q2 rx p2 => ?_
  unfold xsetD at p2
  rw [bind_def] at p2
  cases d with
  | ref n =>
    cases rx with
    | @ref _ a hq =>
      cases hS : S2[n]? with
      | none => simp only [hS] at p2; exact p2.elim
      | some u =>
        cases u with
        | exo c m =>
          cases m with
          | none =>
            simp only [hS] at p2
            by_cases hz : c ∈ cs
            · rw [if_pos hz] at p2
              have h1 := sim_exo0 s2 hq hS
              refine ⟨a, Γ c, rfl, (hc c hz).1, (hc c hz).2, .inl ⟨h1, fun dx hdx ne => ?_⟩⟩
              have e3 : Ext X.K φ2 H2 (φ2 ++ [dx]) (upd H2 dx (exd dx [(f, y)])) := Ext.new hdx
              have s3 : Sim X.K Γ (φ2 ++ [dx]) (S2 ++ [O.exd [(f, dv)]]) (upd H2 dx (exd dx [(f, y)])) := s2.new hdx ⟨_, upd_same, .cons ⟨rfl, RelD.mono e3 _ _ (RelD.mono e2 _ _ ry)⟩ .nil⟩
              have hS3 : (S2 ++ [O.exd [(f, dv)]])[n]? = some (.exo c none) := by
                rw [List.getElem?_append_left (List.getElem?_eq_some_iff.mp hS).1]
                exact hS
              have hq3 : (φ2 ++ [dx])[n]? = some a := e3.toGr.get hq
              have mu : Mut (upd H2 dx (exd dx [(f, y)]) a) := by
                rw [upd_ne (Ne.symm ne), h1]
                exact True.intro
              have e4 : Ext X.K (φ2 ++ [dx]) (upd H2 dx (exd dx [(f, y)])) (φ2 ++ [dx]) (upd (upd H2 dx (exd dx [(f, y)])) a (exo a (Γ c) (some dx))) := Ext.mut mu hq3
              have hd : (φ2 ++ [dx])[S2.length]? = some dx := by rw [← s2.len, List.getElem?_append_right (Nat.le_refl _)]; simp
              have s4 : Sim X.K Γ (φ2 ++ [dx]) ((S2 ++ [O.exd [(f, dv)]]).set n (O.exo c (some S2.length))) (upd (upd H2 dx (exd dx [(f, y)])) a (exo a (Γ c) (some dx))) := s3.set mu hS3 hq3 ⟨some dx, upd_same, hd⟩
              exact p2 (φ2 ++ [dx]) _ (FV.nx σ) (e3.trans e4) s4 (.nx ((q2.mono e3).mono e4))
            · rw [if_neg hz] at p2; exact p2.elim
          | some _ => simp only [hS] at p2; exact p2.elim
        | lst _ => simp only [hS] at p2; exact p2.elim
        | dK _ => simp only [hS] at p2; exact p2.elim
        | dT _ => simp only [hS] at p2; exact p2.elim
        | ins _ _ => simp only [hS] at p2; exact p2.elim
        | exd _ => simp only [hS] at p2; exact p2.elim
        | dKL _ => simp only [hS] at p2; exact p2.elim
        | dTL _ => simp only [hS] at p2; exact p2.elim
        | xdo _ => simp only [hS] at p2; exact p2.elim
  | _ => exact p2.elim
end
/-! ### L.__init__(self), L an own class without own __init__ over ValueError -/
def xinitD (cs : List Nat) (o : D) : M D := fun S => match o with
  | .ref n => match S[n]? with
    | some (.exo c none) => if c ∈ cs then .ok .non S else .no
    | _ => .no
  | _ => .no
def xinitM (cs : List Nat) (mo : Env → M D) : Env → M D := fun r => mo r >>= xinitD cs
section
variable {X : Cx} {Γ : Nat → Addr} {E : XK} {e : Expr} {te : TE} {mo : Env → M D} {x : Str} {L : Addr} {mc : Value} {pos p1 p2 : Pos}
theorem pe_xinit {pl : Sem Bool} (hg : Gl X x) (gL : X.mg x = some (.ref L)) (rd : ClX.CRead X.K L mc) (at_ : PySem.W.findCls X.K (.ref L) mc "__init__" = some (.val (.builtin "ValueError.__init__"))) (he : PE X e te) (hdb : (x == ("__debug__" : Str)) = false := by decide)
    (h1 : starEach [e] X.env = (false, eval e X.env) :: starEach [] X.env := by rfl) (h2 : (backTo pos (starEach [] X.env)).any (·.1) = false := by rfl)
    (h3 : eval (.Call (.Attribute (.Name x p1) "__init__" p2) [e] [] pos) X.env = (do
      let ov ← eval (.Name x p1) X.env
      standAt p2.atName
      let (g, first) ← holding [ov] (getMethod ov "__init__" pl)
      callWith pos g first (backTo pos (starEach [e] X.env)) (backToKw pos (keywordEach [] X.env))) := by rfl) :
    PE X (.Call (.Attribute (.Name x p1) "__init__" p2) [e] [] pos) (fun σ H Q => te σ H fun v H1 => ∃ a C : Addr, v = .ref a ∧ OexC X.K C ∧ H1 a = some (exo a C none) ∧ Q .non H1) := by
  refine ⟨fun pins s σ H Q I h => ?_⟩
  refine PySem.W.methodCall_KW (pl := pl) (ld_glob I hg gL ?_ hdb) h3
  refine PySem.W.method_cls I.kIn rd.ga (PySem.W.cls_value I.kIn rd.rd at_ rfl ?_)
  show wpAny _ _ (callWith pos (Value.builtin "ValueError.__init__") [] (backTo pos (starEach [e] X.env)) []) _ _ _
  have ha : PA X [e] (tCons te tNil) := pa_cons he pa_nil h1
  refine PyProof.Rows.callWith_method1 (thn (ha.run pos pins _ σ H (fun vs H1 => match vs with
    | [v] => ∃ a C : Addr, v = .ref a ∧ OexC X.K C ∧ H1 a = some (exo a C none) ∧ Q .non H1
    | _ => False) (I.tok _) h) fun us s1 ⟨vs, H1, I1, r1, q⟩ => ?_) h1 h2
  cases r1 with
  | nil => exact q.elim
  | @cons _ u0 _ ur ra rw' =>
    cases rw' with
    | cons _ _ => exact q.elim
    | nil =>
      obtain ⟨a, C, ev, T, ea, q⟩ := q
      subst ev
      obtain rfl : u0 = Value.ref a := ra
      exact oinit_ok T I1 ea (by show 0 ≤ _; exact Nat.zero_le _) fun s' J => ⟨.non, H1, J, rfl, q⟩
theorem re_xinit {pl : Sem Bool} {cs : List Nat} (hc : ∀ c ∈ cs, OexC X.K (Γ c)) (hg : Gl X x) (gL : X.mg x = some (.ref L)) (rd : ClX.CRead X.K L mc) (at_ : PySem.W.findCls X.K (.ref L) mc "__init__" = some (.val (.builtin "ValueError.__init__"))) (he : RE X Γ E e mo) (hdb : (x == ("__debug__" : Str)) = false := by decide)
    (h1 : starEach [e] X.env = (false, eval e X.env) :: starEach [] X.env := by rfl) (h2 : (backTo pos (starEach [] X.env)).any (·.1) = false := by rfl)
    (h3 : eval (.Call (.Attribute (.Name x p1) "__init__" p2) [e] [] pos) X.env = (do
      let ov ← eval (.Name x p1) X.env
      standAt p2.atName
      let (g, first) ← holding [ov] (getMethod ov "__init__" pl)
      callWith pos g first (backTo pos (starEach [e] X.env)) (backToKw pos (keywordEach [] X.env))) := by rfl) :
    RE X Γ E (.Call (.Attribute (.Name x p1) "__init__" p2) [e] [] pos) (xinitM cs mo) := by
  refine PE.weaken (pe_xinit hg gL rd at_ he hdb h1 h2 h3) fun σ H Q ⟨φ, r, S, s, q, p⟩ => ?_
  refine tE_bnd s q p fun φ1 S1 d v H1 e1 s1 q1 rv p1 => ?_
  unfold xinitD at p1
  cases d with
  | ref n =>
    cases rv with
    | @ref _ a hq =>
      cases hS : S1[n]? with
      | none => simp only [hS] at p1; exact p1.elim
      | some u =>
        cases u with
        | exo c m =>
          cases m with
          | none =>
            simp only [hS] at p1
            by_cases hz : c ∈ cs
            · rw [if_pos hz] at p1
              exact ⟨a, Γ c, rfl, hc c hz, sim_exo0 s1 hq hS, p1.here s1 .non⟩
            · rw [if_neg hz] at p1; exact p1.elim
          | some _ => simp only [hS] at p1; exact p1.elim
        | lst _ => simp only [hS] at p1; exact p1.elim
        | dK _ => simp only [hS] at p1; exact p1.elim
        | dT _ => simp only [hS] at p1; exact p1.elim
        | ins _ _ => simp only [hS] at p1; exact p1.elim
        | exd _ => simp only [hS] at p1; exact p1.elim
        | dKL _ => simp only [hS] at p1; exact p1.elim
        | dTL _ => simp only [hS] at p1; exact p1.elim
        | xdo _ => simp only [hS] at p1; exact p1.elim
  | _ => exact p1.elim
end
/-! ### C(e, ..), C's own __init__ -/
def mkxM (c : Nat) (mi : List D → M D) : List D → M D := fun ds S => match mi (.ref S.length :: ds) (S ++ [.exo c none]) with
  | .ok .non S' => .ok (.ref S.length) S'
  | .ok _ _ => .no
  | .err c' fs S' => .err c' fs S'
  | .no => .no
section
variable {X : Cx} {Γ : Nat → Addr} {E : XK} {e : Expr} {es : List Expr} {mA : Env → M (List D)} {CX : CXT} {k n c : Nat} {f C : Addr} {fd : FuncData} {ps : List Str} {sp : Sp} {x : Str} {p pos : Pos} {t : TA} {mi : List D → M D}
theorem run_makeX {pins : List (Addr × Obj)} {σ : Sl} {H : Hp} {s : Shared} {Q : VK} {us : List Value} {vs : List V} (T : OexC X.K C) (iC : PySem.W.findIn X.K (.ref C) "__init__" = some (some (.ref f))) (tI : PySem.W.typeIn X.K (.ref f) = some (.type "function"))
    (F : FnG X.prog X.w X.K X.mg X.base CX k f fd ps sp) (hq : Quiet X.A) (hr : Room (k + 1) X.A) (hb : Binds X.K fd ps [])
    (hx : Passes CX X E) (I : Inv X pins σ H s) (r : Vals vs us) (hl : vs.length ≤ 1000) (h : ∀ y, H y = none → sp (.ref y :: vs) (upd H y (exo y C none)) (fun v H2 => v = .non ∧ Q (.ref y) H2) E) :
    wpAny (model X.prog X.w) X.A (call (.ref C) us) (EP X pins σ Q) X.xe s := by
  obtain ⟨nm, q, N, bs, bm, sn, sub, ab, col, dd, k0, k1, k2, k3, k5, hC, hbm⟩ := T.cls
  obtain ⟨hp, g, dr, tk, os⟩ := s
  have hsz : hp.objs.size ≤ hp.objs.size + 1 := Nat.le_succ _
  have hn : H (hp.objs.size + 1) = none := I.hok.fresh hsz
  have z := h (hp.objs.size + 1) hn
  have kk : ∀ b o, hp.get? b = some o → ((hp.push (PySem.W.kdv_tup us)).push (PySem.HandSPX.excO C hp.objs.size)).get? b = some o := fun b o e => Heap.get?_push_of_some _ (Heap.get?_push_of_some _ e)
  have hget : ((hp.push (PySem.W.kdv_tup us)).push (PySem.HandSPX.excO C hp.objs.size)).get? (hp.objs.size + 1) = some (PySem.HandSPX.excO C hp.objs.size) := by heap_get
  have J : Inv X pins σ (upd H (hp.objs.size + 1) (exo (hp.objs.size + 1) C none)) ⟨(hp.push (PySem.W.kdv_tup us)).push (PySem.HandSPX.excO C hp.objs.size), g, dr, tk, os⟩ :=
    I.laid (t' := tk) (a := hp.objs.size + 1) (o := exo (hp.objs.size + 1) C none) (h' := (hp.push (PySem.W.kdv_tup us)).push (PySem.HandSPX.excO C hp.objs.size)) kk hsz (exo_ok hget)
  have rr : Vals (V.ref (hp.objs.size + 1) :: vs) (Value.ref (hp.objs.size + 1) :: us) := .cons rfl r
  have hz : (Value.ref (hp.objs.size + 1) :: us).length = ps.length := by
    rw [← F.few _ _ _ _ z]
    exact rr.length.symm
  have hus : us.length ≤ sizeLine := by
    rw [← Paired.length r, sizeLine_eq]
    omega
  have b := hb _ (Value.ref (hp.objs.size + 1) :: us) J.kIn (by simpa using hz)
  rw [List.append_nil] at b
  have go := F.go (X.A.under (.builtin "type.__call__" ⟨.ref C :: us, []⟩)) X.stack _ _ ⟨Value.ref (hp.objs.size + 1) :: us, []⟩
    (Value.ref (hp.objs.size + 1) :: us) _ _ E hq (hr.make C us []) (J.env0.make C us []) b rr z
  refine wpAny_call (PySem.HandSPX.call_own PySem.F.excBase_ValueError (fun Y => PySem.HandSPX.refsVE_contains Y bm hbm) (I.kIn _ _ hC) (PySem.W.looks_findIn I.kIn iC) (fun self => PySem.W.bind_fn I.kIn self tI) hus
    (codeAny_mono go fun res s' q => ?_))
  match res, q with
  | .error ev, q => exact hx pins σ _ _ ev s' J q
  | .ok (.ret u), q =>
    obtain ⟨v, H', J', rv, ev, q3⟩ := J.after q
    subst ev
    exact ⟨rv, V.ref (hp.objs.size + 1), H', J', rfl, q3⟩
theorem makeX_to {K : PySem.W.Frag} {φ : List Addr} {S : Sto} {H : Hp} {Q : VK} {l : List D} {vs : List V} (hl : l.length + 1 = n) (s : Sim K Γ φ S H) (rv : RelDs K H φ l vs) (p : Post K Γ E (rD K) φ H (mkxM c mi l S) Q) {y : Addr} (h1 : H y = none) :
    spM K Γ n mi (.ref y :: vs) (upd H y (exo y (Γ c) none)) (fun v H2 => v = .non ∧ Q (.ref y) H2) E := by
  have e : Ext K φ H (φ ++ [y]) (upd H y (exo y (Γ c) none)) := Ext.new h1
  have s2 : Sim K Γ (φ ++ [y]) (S ++ [.exo c none]) (upd H y (exo y (Γ c) none)) := s.new h1 ⟨none, upd_same, True.intro⟩
  have hn : (φ ++ [y])[S.length]? = some y := by rw [← s.len, List.getElem?_append_right (Nat.le_refl _)]; simp
  refine ⟨by rw [List.length_cons, ← RelDs.length rv]; exact hl, φ ++ [y], S ++ [.exo c none], .ref S.length :: l, s2, .cons (.ref hn) (RelDs.mono e _ _ rv), ?_⟩
  unfold mkxM at p
  cases hm : mi (.ref S.length :: l) (S ++ [.exo c none]) with
  | ok d S' =>
    cases d with
    | non =>
      simp only [hm] at p
      intro φ' H' v e' s' r
      cases r
      exact ⟨rfl, p φ' H' (.ref y) (e.trans e') s' (.ref (e'.toGr.get hn))⟩
    | _ => simp only [hm] at p; exact p.elim
  | err c' fs S' =>
    simp only [hm] at p
    exact fun φ' H' dx' e' s' x' z' => p φ' H' dx' (e.trans e') s' x' fun x y => e.old x (z' x y)
  | no => simp only [hm] at p; exact p.elim
def tMakeX (C : Addr) (sp : Sp) (E : XK) (t : TA) : TE := fun σ H Q => t σ H fun vs H1 => vs.length ≤ 1000 ∧ ∀ y, H1 y = none → sp (.ref y :: vs) (upd H1 y (exo y C none)) (fun v H2 => v = .non ∧ Q (.ref y) H2) E
theorem pe_makeX (T : OexC X.K C) (iC : PySem.W.findIn X.K (.ref C) "__init__" = some (some (.ref f))) (tI : PySem.W.typeIn X.K (.ref f) = some (.type "function")) (F : FnG X.prog X.w X.K X.mg X.base CX k f fd ps sp) (hq : Quiet X.A) (hr : Room (k + 1) X.A) (hg : Gl X x) (hm : X.mg x = some (.ref C)) (hb : Binds X.K fd ps []) (hx : Passes CX X E)
    (ha : PA X (e :: es) t) (hdb : (x == ("__debug__" : Str)) = false := by decide) (h1 : starEach (e :: es) X.env = (false, eval e X.env) :: starEach es X.env := by rfl) (h2 : (backTo pos (starEach es X.env)).any (·.1) = false := by rfl) :
    PE X (.Call (.Name x p) (e :: es) [] pos) (tMakeX C sp E t) := by
  refine ⟨fun pins s σ H Q I h => wpAny_Call_Name_kw (ld_glob I hg hm ?_ hdb)⟩
  refine PySem.W.callWith_K (h₀ := X.base) I.ok.mod.kin T.kC (thn (ha.run pos pins s σ H _ I h) ?_) h1 h2
  rintro us s1 ⟨vs, H1, I1, r, hl, q⟩
  exact ⟨I1.kIn, run_makeX T iC tI F hq hr hb hx I1 r hl q⟩
theorem re_makeX (T : OexC X.K (Γ c)) (iC : PySem.W.findIn X.K (.ref (Γ c)) "__init__" = some (some (.ref f))) (tI : PySem.W.typeIn X.K (.ref f) = some (.type "function")) (F : FnG X.prog X.w X.K X.mg X.base CX k f fd ps (spM X.K Γ n mi)) (hq : Quiet X.A) (hr : Room (k + 1) X.A) (hg : Gl X x) (hm : X.mg x = some (.ref (Γ c))) (hb : Binds X.K fd ps []) (hx : Passes CX X E)
    (ha : RA X Γ E (e :: es) mA) (hl : ∀ r S ds S', mA r S = .ok ds S' → ds.length + 1 = n) (hn : n ≤ 1000) (hdb : (x == ("__debug__" : Str)) = false := by decide) (h1 : starEach (e :: es) X.env = (false, eval e X.env) :: starEach es X.env := by rfl) (h2 : (backTo pos (starEach es X.env)).any (·.1) = false := by rfl) :
    RE X Γ E (.Call (.Name x p) (e :: es) [] pos) (clM (mkxM c mi) mA) := by
  refine PE.weaken (pe_makeX T iC tI F hq hr hg hm hb hx ha hdb h1 h2) fun σ H Q ⟨φ, r, S, s, q, p⟩ => ?_
  have p' : Post X.K Γ E (rD X.K) φ H ((mA r >>= mkxM c mi) S) Q := p
  refine ⟨φ, r, S, s, q, ?_⟩
  cases hm2 : mA r S with
  | ok ds S1 =>
    rw [bnd_ok hm2] at p'
    intro φ1 H1 vs e1 s1 rv
    refine ⟨?_, fun y z1 => makeX_to (hl r S ds S1 hm2) s1 rv (p'.mono e1) z1⟩
    have := hl r S ds S1 hm2
    rw [← RelDs.length rv]
    omega
  | err c' fs S1 => rw [bind_def, hm2] at p'; exact p'
  | no => rw [bind_def, hm2] at p'; exact p'
end
/-! ### C(), C without own __init__ -/
def mkx0M (c : Nat) : Env → M D := fun _ S => .ok (.ref S.length) (S ++ [.exo c none])
section
variable {X : Cx} {Γ : Nat → Addr} {E : XK} {C : Addr} {bmB : List Value} {B newId initId : String} {x : Str} {c : Nat} {p pos : Pos}
theorem pe_mkx0 (F : ExcBaseFacts B newId initId bmB) (q : PySem.W.excIn X.K C bmB newId = true) (gC : X.mg x = some (.ref C)) (kC : PySem.W.keepIn X.K (.ref C) = true) (hg : Gl X x) (hdb : (x == ("__debug__" : Str)) = false := by decide) :
    PE X (.Call (.Name x p) [] [] pos) (fun σ H Q => ∀ a, H a = none → Q (.ref a) (upd H a (exo a C none))) := by
  refine ⟨fun pins s σ H Q I h => ?_⟩
  refine wpAny_Call_Name_kw (ld_glob I hg gC ?_ hdb)
  refine PySem.W.callWith_K0 (first := []) I.kIn kC ?_
  show wpAny _ _ (call (.ref C) []) _ _ _
  obtain ⟨bm, N, nm, qn, bs, hdct, sn, sub, ab, col, dd, k0, k1, k2, k3, k5, mN, hC, hN, hni, T⟩ := exc_obj I.kIn q
  refine wpAny_call_exc_subT F T hC hN hni (fun h' a hm => ?_) (by show 0 ≤ sizeLine; exact Nat.zero_le _)
  have hn : H a = none := I.hok.gone hm.new
  obtain ⟨t, ht, _, _⟩ := hm.there
  exact ⟨.ref a, upd H a (exo a C none), I.laidN hm.keeps hm.new hn (exo_ok ht), rfl, h a hn⟩
theorem re_mkx0 (F : ExcBaseFacts B newId initId bmB) (q : PySem.W.excIn X.K (Γ c) bmB newId = true) (gC : X.mg x = some (.ref (Γ c))) (kC : PySem.W.keepIn X.K (.ref (Γ c)) = true) (hg : Gl X x) (hdb : (x == ("__debug__" : Str)) = false := by decide) :
    RE X Γ E (.Call (.Name x p) [] [] pos) (mkx0M c) := by
  refine PE.weaken (pe_mkx0 F q gC kC hg hdb) fun σ H Q ⟨φ, r, S, s, q, p⟩ => fun y hy => ?_
  have e : Ext X.K φ H (φ ++ [y]) (upd H y (exo y (Γ c) none)) := Ext.new hy
  have s2 : Sim X.K Γ (φ ++ [y]) (S ++ [.exo c none]) (upd H y (exo y (Γ c) none)) := s.new hy ⟨none, upd_same, True.intro⟩
  have hn : (φ ++ [y])[S.length]? = some y := by rw [← s.len, List.getElem?_append_right (Nat.le_refl _)]; simp
  exact p (φ ++ [y]) (upd H y (exo y (Γ c) none)) (.ref y) e s2 (.ref hn)
end
/-! ### e.f -/
def xfldD (cs : List Nat) (f : Str) (d : D) : M D := fun S => match d with
  | .ref n => match S[n]? with
    | some (.exo c (some m)) => if c ∈ cs then (match S[m]? with
      | some (.exd fs) => (match fs.lookup f with
        | some v => .ok v S
        | none => .no)
      | _ => .no) else .no
    | _ => .no
  | _ => .no
def xfldM (cs : List Nat) (f : Str) (m : Env → M D) : Env → M D := fun r => m r >>= xfldD cs f
section
variable {X : Cx} {Γ : Nat → Addr} {E : XK} {e : Expr} {te : TE} {m : Env → M D} {f : Str} {pos p pT : Pos}
theorem exo_inst {pins : List (Addr × Obj)} {σ : Sl} {H : Hp} {s : Shared} {a C dx : Addr} {fs : List (Str × V)} (T : XfC X.K C) (I : Inv X pins σ H s) (ha : H a = some (exo a C (some dx))) (hd : H dx = some (exd dx fs)) :
    ∃ (ox od : Obj), PySem.W.InstAt s.heap a ox C (some od) ∧ ∃ mA : Str → Option Value, (∀ n : Str, PySem.W.lookIn n od = some (mA n)) ∧ ∀ f, L2.RelO (fs.lookup f) (mA f) := by
  obtain ⟨t1, h1⟩ := exo_at I.hok ha
  obtain ⟨mA, hns, hr⟩ := exd_at I.hok hd
  obtain ⟨od, ho, hl⟩ := lookIn_ns hns
  exact ⟨_, od, ⟨h1, rfl, rfl, ho⟩, mA, hl, hr⟩
theorem pe_xfa (he : PE X e te) (hb : attributeBase e f X.env (eval e X.env) = eval e X.env := by rfl) :
    PE X (.Attribute e f pos) (fun σ H Q => te σ H fun x H1 => ∃ (a C dx : Addr) (fs : List (Str × V)) (v : V), x = .ref a ∧ XfC X.K C ∧ NoF X.K C f ∧ H1 a = some (exo a C (some dx)) ∧ H1 dx = some (exd dx fs) ∧ fs.lookup f = some v ∧ Q v H1) := by
  refine ⟨fun pins s σ H Q I h => ?_⟩
  refine attr_of hb (thn (he.run pins s σ H _ I h) fun u s1 hh => ?_)
  obtain ⟨x, H1, I1, rx, a, C, dx, fs, v, ex, T, hno, ha, hd, l, q⟩ := hh
  subst ex
  obtain rfl : u = Value.ref a := rx
  obtain ⟨ox, od, J, mA, hl, hr⟩ := exo_inst T I1 ha hd
  obtain ⟨u, hu, ru⟩ := RelO.some_of (v := v) (o := mA f) (by rw [← l]; exact hr f)
  exact HandSPX.exc_get I1.kIn J T.ga T.gg T.exC (PySem.W.findObj_own T.hdC hno rfl (by rw [hl, hu])) (handed_of ru) ⟨v, H1, I1.tok _, ru, q⟩
theorem re_xfld {cs : List Nat} (hc : ∀ c ∈ cs, XfC X.K (Γ c) ∧ NoF X.K (Γ c) f) (he : RE X Γ E e m) (hb : attributeBase e f X.env (eval e X.env) = eval e X.env := by rfl) : RE X Γ E (.Attribute e f pos) (xfldM cs f m) := by
  refine PE.weaken (pe_xfa he hb) fun σ H Q ⟨φ, r, S, s, q, p⟩ => ?_
  refine tE_bnd s q p fun φ1 S1 d v H1 e1 s1 q1 rv p1 => ?_
  unfold xfldD at p1
  cases d with
  | ref n =>
    cases rv with
    | @ref _ a hq =>
      cases hS : S1[n]? with
      | none => simp only [hS] at p1; exact p1.elim
      | some u =>
        cases u with
        | exo c m =>
          cases m with
          | none => simp only [hS] at p1; exact p1.elim
          | some m =>
            simp only [hS] at p1
            by_cases hz : c ∈ cs
            · rw [if_pos hz] at p1
              obtain ⟨dx, hm, h1⟩ := sim_exo1 s1 hq hS
              cases hS2 : S1[m]? with
              | none => simp only [hS2] at p1; exact p1.elim
              | some w =>
                cases w with
                | exd fs =>
                  simp only [hS2] at p1
                  obtain ⟨vs, h2, hv⟩ := sim_exd s1 hm hS2
                  cases hl : fs.lookup f with
                  | none => simp only [hl] at p1; exact p1.elim
                  | some d' =>
                    simp only [hl] at p1
                    obtain ⟨w, h3, h4⟩ := (relKv_lookup hv).1 d' hl
                    exact ⟨a, Γ c, dx, vs, w, rfl, (hc c hz).1, (hc c hz).2, h1, h2, h3, p1.here s1 h4⟩
                | _ => simp only [hS2] at p1; exact p1.elim
            · rw [if_neg hz] at p1; exact p1.elim
        | lst _ => simp only [hS] at p1; exact p1.elim
        | dK _ => simp only [hS] at p1; exact p1.elim
        | dT _ => simp only [hS] at p1; exact p1.elim
        | ins _ _ => simp only [hS] at p1; exact p1.elim
        | exd _ => simp only [hS] at p1; exact p1.elim
        | dKL _ => simp only [hS] at p1; exact p1.elim
        | dTL _ => simp only [hS] at p1; exact p1.elim
        | xdo _ => simp only [hS] at p1; exact p1.elim
  | _ => exact p1.elim
/-! ### isinstance(e, C) -/
def isxD (an : Nat → Option Bool) (d : D) : M D := fun S => match d with
  | .ref n => match S[n]? with
    | some (.exo c _) => (match an c with
      | some b => .ok (.bl b) S
      | none => .no)
    | _ => .no
  | _ => .no
def isxM (an : Nat → Option Bool) (m : Env → M D) : Env → M D := fun r => m r >>= isxD an
def rIsX (X : Cx) : List V → Hp → VK → Prop := fun xs H Q => ∃ (a C : Addr) (dx : Option Addr) (c : V) (cv : Value) (b : Bool), xs = [.ref a, c] ∧ (∀ u, RelV c u → u = cv) ∧ XCls X.K C ∧ H a = some (exo a C dx) ∧ (∀ x, dx = some x → ∃ o, H x = some o) ∧ PySem.W.kitOne X.K (.ref C) cv = some b ∧ Q (.bl b) H
theorem call_isX : CallR X (.builtin "isinstance") (rIsX X) := by
  intro pins s σ H xs us Q I r h
  obtain ⟨a, C, dx, c, cv, b, rfl, hcv, T, ha, hd, e, q⟩ := h
  cases r with
  | cons rx rr =>
    cases rr with
    | cons rt rr =>
      cases rr
      cases rx
      have ec := hcv _ rt
      subst ec
      obtain ⟨t1, h1⟩ := exo_at I.hok ha
      have J : ∃ od, PySem.W.InstAt s.heap a ({ cls := .ref C, dict := dx, data := .fields #[.ref t1, .none, .none, .none, .bool false, .none] } : Obj) C od := by
        cases dx with
        | none => exact ⟨none, h1, rfl, rfl, trivial⟩
        | some x =>
          obtain ⟨o, ho⟩ := hd x rfl
          obtain ⟨u, hu⟩ := objOk_get (I.hok x o ho)
          exact ⟨some u, h1, rfl, rfl, hu⟩
      obtain ⟨od, J⟩ := J
      exact PySem.W.kia_one (PySem.W.kitx_exc T.cl T.xf.ga T.xf.gg T.xf.exC T.ha T.hn T.ht T.hm) I.kIn J e (fun z => nomatch z) fun tk => ⟨.bl b, H, I.kept (t' := tk) fun _ _ z => z, rfl, q⟩
theorem isx_to {cv : Value} {c : V} {an : Nat → Option Bool} (hcv : ∀ u, RelV c u → u = cv) (han : ∀ n b, an n = some b → XCls X.K (Γ n) ∧ PySem.W.kitOne X.K (.ref (Γ n)) cv = some b) {φ : List Addr} {r : Env} {S : Sto} {σ : Sl} {H : Hp} {Q : VK} (s : Sim X.K Γ φ S H) (q : RelE X.K H φ r σ)
    (p : Post X.K Γ E (rD X.K) φ H (isxM an m r S) Q) : tE X.K Γ E m σ H fun v H1 => rIsX X [v, c] H1 Q := by
  refine tE_bnd s q p fun φ1 S1 d v H1 e1 s1 q1 rv p1 => ?_
  unfold isxD at p1
  cases d with
  | ref n =>
    cases rv with
    | @ref _ a hq =>
      cases hS : S1[n]? with
      | none => simp only [hS] at p1; exact p1.elim
      | some u =>
        cases u with
        | exo c' m =>
          simp only [hS] at p1
          cases hA : an c' with
          | none => simp only [hA] at p1; exact p1.elim
          | some b =>
            simp only [hA] at p1
            obtain ⟨T, k⟩ := han c' b hA
            cases m with
            | none => exact ⟨a, Γ c', none, c, cv, b, rfl, hcv, T, sim_exo0 s1 hq hS, fun x z => (by cases z), k, p1.here s1 (.bl b)⟩
            | some m =>
              obtain ⟨dx, hm, h1⟩ := sim_exo1 s1 hq hS
              refine ⟨a, Γ c', some dx, c, cv, b, rfl, hcv, T, h1, fun x z => ?_, k, p1.here s1 (.bl b)⟩
              cases z
              obtain ⟨u, hu⟩ := s1.stands (List.mem_of_getElem? hm)
              exact ⟨u, hu⟩
        | lst _ => simp only [hS] at p1; exact p1.elim
        | dK _ => simp only [hS] at p1; exact p1.elim
        | dT _ => simp only [hS] at p1; exact p1.elim
        | ins _ _ => simp only [hS] at p1; exact p1.elim
        | exd _ => simp only [hS] at p1; exact p1.elim
        | dKL _ => simp only [hS] at p1; exact p1.elim
        | dTL _ => simp only [hS] at p1; exact p1.elim
        | xdo _ => simp only [hS] at p1; exact p1.elim
  | _ => exact p1.elim
/-- isinstance(e, C), C an own class -/
theorem re_isx {an : Nat → Option Bool} {x : Str} {C : Addr} (han : ∀ n b, an n = some b → XCls X.K (Γ n) ∧ PySem.W.kitOne X.K (.ref (Γ n)) (.ref C) = some b) (he : RE X Γ E e m) (hg : Gl X "isinstance") (hm : X.mg "isinstance" = none) (hgT : Gl X x) (hmT : X.mg x = some (.ref C)) (hdb : (x == ("__debug__" : Str)) = false := by decide)
    (h1 : starEach [e, .Name x pT] X.env = (false, eval e X.env) :: starEach [.Name x pT] X.env := by rfl) (h2 : (backTo pos (starEach [.Name x pT] X.env)).any (·.1) = false := by rfl)
    (h3 : starEach [.Name x pT] X.env = [(false, eval (.Name x pT) X.env)] := by rfl) : RE X Γ E (.Call (.Name "isinstance" p) [e, .Name x pT] [] pos) (isxM an m) := by
  have hb : PE X (.Name x pT) (tC (.ref C)) := pe_glob hgT hmT rfl hdb
  refine PE.weaken (pe_callB call_isX hg hm (by decide +kernel) (pa_cons he (pa_cons hb pa_nil h3) h1) (by decide) (by decide) h1 h2) fun σ H Q ⟨φ, r, S, s, q, p⟩ => ?_
  exact isx_to (c := .ref C) (cv := .ref C) (fun u ru => ru) han s q p
/-- isinstance(e, T), T a built-in class -/
theorem re_isxT {an : Nat → Option Bool} {x : Str} {T : String} (han : ∀ n b, an n = some b → XCls X.K (Γ n) ∧ PySem.W.kitOne X.K (.ref (Γ n)) (.type T) = some b) (he : RE X Γ E e m) (hg : Gl X "isinstance") (hm : X.mg "isinstance" = none) (hgT : Gl X x) (hmT : X.mg x = none) (hbt : bootBuiltins x = some (.type T)) (hxn : x ≠ "__name__" := by decide) (hdb : (x == ("__debug__" : Str)) = false := by decide)
    (h1 : starEach [e, .Name x pT] X.env = (false, eval e X.env) :: starEach [.Name x pT] X.env := by rfl) (h2 : (backTo pos (starEach [.Name x pT] X.env)).any (·.1) = false := by rfl)
    (h3 : starEach [.Name x pT] X.env = [(false, eval (.Name x pT) X.env)] := by rfl) : RE X Γ E (.Call (.Name "isinstance" p) [e, .Name x pT] [] pos) (isxM an m) := by
  have hb : PE X (.Name x pT) (tC (.ty T)) := pe_bltn hgT hmT hbt rfl hxn hdb
  refine PE.weaken (pe_callB call_isX hg hm (by decide +kernel) (pa_cons he (pa_cons hb pa_nil h3) h1) (by decide) (by decide) h1 h2) fun σ H Q ⟨φ, r, S, s, q, p⟩ => ?_
  exact isx_to (c := .ty T) (cv := .type T) (fun u ru => ru) han s q p
end

/-! own exceptions: the text's facts of their classes, by names -/
open PySem PySem.Spec PyProof.Rows L2

structure InitOk (K : PySem.W.Frag) (C : Addr) (qual : Str) (st : Stmt) (ps : List Str) : Prop where
  ex : ∃ (f : Addr) (fd : FuncData), Fun K "__init__" qual st f fd ∧ PySem.W.findIn K (.ref C) "__init__" = some (some (.ref f)) ∧ PySem.W.typeIn K (.ref f) = some (.type "function") ∧ Binds K fd ps []
theorem init_mk {K : PySem.W.Frag} {C : Addr} {qual : Str} {st : Stmt} {ps : List Str} {f : Addr} {od an : Option Addr} {sl : Array (Option Value)} {oc kV dc pm cd ct : Value} (a : PySem.W.findIn K (.ref C) "__init__" = some (some (.ref f))) (ty : PySem.W.typeIn K (.ref f) = some (.type "function"))
    (l : K.lookup f = some ⟨oc, od, .func (PySem.W.fnOf "__init__" qual (defArgs st) (defBody st) (defScope st) .none kV dc pm an cd ct), sl⟩) (c : PySem.W.codeIn K cd qual = true) (k : PySem.W.keepIn K (.ref f) = true)
    (hb : ∀ (kV doc pm : Value) (an : Option Addr) (cdv ct : Value) (us : List Value), us.length = ps.length → bindArgs (PySem.W.fnOf "__init__" qual (defArgs st) (defBody st) (defScope st) .none kV doc pm an cdv ct) ⟨us, []⟩ = pure (ps.zip us)) : InitOk K C qual st ps :=
  have F := fun_mk (st := st) l c k
  ⟨⟨f, _, F, a, ty, F.binds hb⟩⟩
structure CalleeX (P : Program) (w : World) (K : PySem.W.Frag) (mg : Str → Option Value) (base : Heap) (Γ : Nat → Addr) (k : Nat) (c : Nat) (n : Nat) (mf : List D → M D) : Prop where
  ex : ∃ (f : Addr) (fd : FuncData) (ps : List Str), FnG P w K mg base CX0 k f fd ps (spM K Γ n mf) ∧ PySem.W.findIn K (.ref (Γ c)) "__init__" = some (some (.ref f)) ∧ PySem.W.typeIn K (.ref f) = some (.type "function") ∧ Binds K fd ps []
section
variable {P : Program} {w : World} {K : PySem.W.Frag} {mg : Str → Option Value} {base : Heap} {Γ : Nat → Addr} {k c : Nat} {qual : Str} {st : Stmt} {N ps : List Str}
theorem calleeX_mk {m : Env → M Fl} (D : InitOk K (Γ c) qual st ps) (sc : FnScope N ps (defScope st))
    (hbody : ∀ (f : Addr) (cdv : Value) (A : Around) (fr : List PySem.Env) (s : Shared) (H : Hp) (E : XK), Quiet (A.deeper (envOfC qual (defScope st) s.heap.objs.size f cdv)) → Room k (A.deeper (envOfC qual (defScope st) s.heap.objs.size f cdv)) → RSs (cxOf CX0 P w K mg base N qual (defScope st) f cdv A fr s H E).nox Γ E (defBody st) m) :
    CalleeX P w K mg base Γ (k + 1) c ps.length (fnM N.length m) := by
  obtain ⟨f, fd, F, a, ty, b⟩ := D.ex
  exact ⟨⟨f, fd, ps, fn_okG F sc fun cdv A fr s H E hq hr => hbody f cdv A fr s H E hq hr, a, ty, b⟩⟩
end
section
variable {X : Cx} {Γ : Nat → Addr} {E : XK} {e : Expr} {es : List Expr} {mA : Env → M (List D)} {pos p : Pos} {k c j : Nat} {x : Str} {mf : List D → M D}
theorem re_makeC (C : CalleeX X.prog X.w X.K X.mg X.base Γ k c (j + 1) mf) (T : XCls X.K (Γ c)) (gm : X.mg x = some (.ref (Γ c))) (hq : Quiet X.A) (hr : Room (k + 1) X.A) (ha : RA X Γ E (e :: es) mA) (hl : ∀ r S ds S', mA r S = .ok ds S' → ds.length = j) (hn : j + 1 ≤ 1000 := by decide) (hg : Gl X x := by rfl) (hdb : (x == ("__debug__" : Str)) = false := by decide)
    (he : starEach (e :: es) X.env = (false, eval e X.env) :: starEach es X.env := by rfl) (hpl : (backTo pos (starEach es X.env)).any (·.1) = false := by rfl) : RE X Γ E (.Call (.Name x p) (e :: es) [] pos) (clM (mkxM c mf) mA) := by
  obtain ⟨f, fd, ps, F, a, ty, b⟩ := C.ex
  exact re_makeX T.oex a ty F hq hr hg gm b pass0 ha (fun r S ds S' h => by rw [hl r S ds S' h]) hn hdb he hpl
theorem re_makeC0 {c : Nat} (q : PySem.W.excIn X.K (Γ c) [.type "ValueError", .type "Exception", .type "BaseException", .type "object"] "ValueError.__new__" = true) (T : XCls X.K (Γ c)) (gm : X.mg x = some (.ref (Γ c))) (hg : Gl X x := by rfl) (hdb : (x == ("__debug__" : Str)) = false := by decide) :
    RE X Γ E (.Call (.Name x p) [] [] pos) (mkx0M c) := re_mkx0 PySem.F.excBase_ValueError q gm T.oex.kC hg hdb
end
theorem xcls_mk {K : PySem.W.Frag} {C N : Addr} {nm q : Str} {bs bm : List Value} {sn : List Str} {sub : List Value} {ab : Bool} {col : Option Bool} {dd : Option Addr} {k0 k1 k2 k3 k5 : Option Value}
    (l : K.lookup C = some (excClassObj nm q C N bs bm true sn sub ab col dd k0 k1 k2 k3 k5 "ValueError.__new__")) (hb : PySem.HandSPX.refsVE bm = true)
    (sa : PySem.W.findIn K (.ref C) "__setattr__" = some (some (.builtin "object.__setattr__"))) (exC : PySem.W.subIn K (.ref C) (.type "BaseException") = some true) (tyC : PySem.W.typeIn K (.ref C) = some (.type "type")) (kC : PySem.W.keepIn K (.ref C) = true)
    (ga : PySem.W.findIn K (.ref C) "__getattribute__" = some (some (.builtin "BaseException.__getattribute__"))) (gg : PySem.W.findIn K (.ref C) "__getattr__" = some none) (hd : PySem.W.hasDictIn K C = true) (cl : PySem.W.isClsIn K C = true)
    (ha : PySem.W.findIn K (.ref C) "__class__" = some (some (.builtin "object.__class__"))) (hn : PySem.W.specialIn K (.builtin "object.__class__") "__get__" = some (some (.builtin "getset_descriptor.__get__"))) (ht : PySem.W.takesIn K (.builtin "object.__class__") = some true) (hm : PySem.W.mroIn K C (.type "object") = some true) : XCls K C :=
  ⟨⟨⟨nm, q, N, bs, bm, sn, sub, ab, col, dd, k0, k1, k2, k3, k5, l, hb⟩, sa, exC, tyC, kC⟩, ⟨ga, gg, exC, hd⟩, cl, ha, hn, ht, hm⟩
theorem kitOne_ref {K : PySem.W.Frag} {C Z : Addr} {b : Bool} (cl : PySem.W.isClsIn K Z = true) (ty : PySem.W.typeIn K (.ref Z) = some (.type "type")) (s : PySem.W.subIn K (.ref C) (.ref Z) = some b) (hb : C = Z → b = true) : PySem.W.kitOne K (.ref C) (.ref Z) = some b := by
  unfold PySem.W.kitOne
  by_cases h : C = Z
  · subst h
    rw [hb rfl, if_pos (by simp)]
  · rw [if_neg (by simpa using h)]
    unfold PySem.W.kitCls
    have c2 : (PySem.W.clsIn K Z).isSome = true := cl
    simp only [c2, ty, beq_self_eq_true, Bool.and_self, if_true]
    exact s
theorem kitOne_ty {K : PySem.W.Frag} {C : Addr} {T : String} {b : Bool} (hk : PySem.W.kitMeta T = true) (s : PySem.W.subIn K (.ref C) (.type T) = some b) : PySem.W.kitOne K (.ref C) (.type T) = some b := by
  unfold PySem.W.kitOne
  rw [if_neg (by simp)]
  unfold PySem.W.kitCls
  simp only [hk, if_true]
  exact s
theorem kitOne_refT {K : PySem.W.Frag} {C Z : Addr} (x : XCls K Z) (s : PySem.W.subIn K (.ref C) (.ref Z) = some true) : PySem.W.kitOne K (.ref C) (.ref Z) = some true := kitOne_ref x.cl x.oex.tyC s fun _ => rfl
theorem kitOne_refF {K : PySem.W.Frag} {C Z : Addr} (x : XCls K Z) (s : PySem.W.subIn K (.ref C) (.ref Z) = some false) (z : PySem.W.subIn K (.ref Z) (.ref Z) = some true) : PySem.W.kitOne K (.ref C) (.ref Z) = some false := kitOne_ref x.cl x.oex.tyC s fun e => by
  subst e
  rw [s] at z
  cases z
theorem bt_ValueError : bootBuiltins "ValueError" = some (.type "ValueError") := by decide +kernel
theorem bt_str : bootBuiltins "str" = some (.type "str") := by decide +kernel
/-- what isinstance answers for the classes, by their numbers -/
def anL (l : List (Option Bool)) : Nat → Option Bool := fun n => l.getD n none
theorem anL_nil {P : Nat → Bool → Prop} : ∀ n b, anL [] n = some b → P n b := fun n b h => (by simp [anL] at h)
theorem anL_cons {P : Nat → Bool → Prop} {l : List (Option Bool)} {v : Bool} (h0 : P 0 v) (h : ∀ n b, anL l n = some b → P (n + 1) b) : ∀ n b, anL (some v :: l) n = some b → P n b := fun n b e => by
  cases n with
  | zero =>
    have e' : some v = some b := e
    cases e'
    exact h0
  | succ n => exact h n b e
theorem anL_skip {P : Nat → Bool → Prop} {l : List (Option Bool)} (h : ∀ n b, anL l n = some b → P (n + 1) b) : ∀ n b, anL (none :: l) n = some b → P n b := fun n b e => by
  cases n with
  | zero => cases (show (none : Option Bool) = some b from e)
  | succ n => exact h n b e
theorem mem_one {α : Type} {P : α → Prop} {a : α} (h : P a) : ∀ c ∈ [a], P c := fun c hc => by
  rw [List.mem_singleton.mp hc]; exact h
theorem mem_cons' {α : Type} {P : α → Prop} {a : α} {l : List α} (h : P a) (q : ∀ c ∈ l, P c) : ∀ c ∈ a :: l, P c := fun c hc => by
  rcases List.mem_cons.mp hc with e | e
  · rw [e]; exact h
  · exact q c e

/-! instances of own classes: isinstance, len, ==, != -/
open PySem PySem.Spec PyProof.Rows L2

/-- what the text says of a class whose instances are asked for their class -/
structure ICls (K : PySem.W.Frag) (C : Addr) : Prop where
  cl : Cls K C
  ca : PySem.W.findIn K (.ref C) "__class__" = some (some (.builtin "object.__class__"))
  cn : PySem.W.specialIn K (.builtin "object.__class__") "__get__" = some (some (.builtin "getset_descriptor.__get__"))
  ct : PySem.W.takesIn K (.builtin "object.__class__") = some true
  cm : PySem.W.mroIn K C (.type "object") = some true
theorem icls_ty {K : PySem.W.Frag} {Γ : Nat → Addr} {φ : List Addr} {S : Sto} {H : Hp} {n c : Nat} {a : Addr} {fs : List (Str × D)} (i : ICls K (Γ c)) (s : Sim K Γ φ S H) (hq : φ[n]? = some a) (h : S[n]? = some (.ins c fs)) : TyX K H (.ref a) (.ref (Γ c)) := by
  obtain ⟨dx, vs, h1, _⟩ := sim_ins s hq h
  exact .base (.ins h1 i.cl i.ca i.cn i.ct i.cm)
/-! ### isinstance(e, C) -/
def isoD (an : Nat → Option Bool) (d : D) : M D := fun S => match tyTn S d with
  | some _ => .ok (.bl false) S
  | none => match d with
    | .ref n => match S[n]? with
      | some (.ins c _) => (match an c with
        | some b => .ok (.bl b) S
        | none => .no)
      | _ => .no
    | _ => .no
def isoM (an : Nat → Option Bool) (m : Env → M D) : Env → M D := fun r => m r >>= isoD an
section
variable {X : Cx} {Γ : Nat → Addr} {E : XK} {e : Expr} {m : Env → M D} {pos p pT : Pos}
theorem re_iso {an : Nat → Option Bool} {x : Str} {C : Addr} (han : ∀ n b, an n = some b → ICls X.K (Γ n) ∧ PySem.W.kitOne X.K (.ref (Γ n)) (.ref C) = some b) (hT : ∀ t : Tn, PySem.W.kitOne X.K (.type t.nm) (.ref C) = some false)
    (he : RE X Γ E e m) (hg : Gl X "isinstance") (hm : X.mg "isinstance" = none) (hgT : Gl X x) (hmT : X.mg x = some (.ref C)) (hdb : (x == ("__debug__" : Str)) = false := by decide)
    (h1 : starEach [e, .Name x pT] X.env = (false, eval e X.env) :: starEach [.Name x pT] X.env := by rfl) (h2 : (backTo pos (starEach [.Name x pT] X.env)).any (·.1) = false := by rfl)
    (h3 : starEach [.Name x pT] X.env = [(false, eval (.Name x pT) X.env)] := by rfl) : RE X Γ E (.Call (.Name "isinstance" p) [e, .Name x pT] [] pos) (isoM an m) := by
  have hb : PE X (.Name x pT) (tC (.ref C)) := pe_glob hgT hmT rfl hdb
  refine PE.weaken (pe_callB call_isi hg hm (by decide +kernel) (pa_cons he (pa_cons hb pa_nil h3) h1) (by decide) (by decide) h1 h2) fun σ H Q ⟨φ, r, S, s, q, p⟩ => ?_
  refine tE_bnd s q p fun φ1 S1 d v H1 e1 s1 q1 rv p1 => ?_
  unfold isoD at p1
  cases ht : tyTn S1 d with
  | some t =>
    simp only [ht] at p1
    exact ⟨v, .ref C, _, _, false, rfl, .own C, tyTn_rel s1 ht rv, hT t, p1.here s1 (.bl _)⟩
  | none =>
    simp only [ht] at p1
    cases d with
    | ref n =>
      cases rv with
      | @ref _ a hq =>
        simp only [] at p1
        split at p1
        · rename_i c fs hS
          split at p1
          · rename_i b hA
            obtain ⟨i, k⟩ := han c b hA
            exact ⟨_, .ref C, _, _, b, rfl, .own C, icls_ty i s1 hq hS, k, p1.here s1 (.bl b)⟩
          · exact p1.elim
        · exact p1.elim
    | _ => exact p1.elim
end
/-! ### len(o) -/
def lenOD (c : Nat) (mf : List D → M D) (ds : List D) : M D := fun S => match ds with
  | [.ref n] => match S[n]? with
    | some (.ins c' _) => if c' = c then (match mf [.ref n] S with
      | .ok (.int i) S' => if 0 ≤ i ∧ i < 2 ^ 63 then .ok (.int i) S' else .no
      | _ => .no) else .no
    | _ => .no
  | _ => .no
/-- what the text says of a special method -/
structure SMeth (K : PySem.W.Frag) (C : Addr) (m : Str) (f : Addr) : Prop where
  at_ : PySem.W.findIn K (.ref C) m = some (some (.ref f))
  fn : PySem.W.isFn K (.ref f) = true
section
variable {X : Cx} {Γ : Nat → Addr} {E : XK} {CX : CXT} {k c : Nat} {f : Addr} {fd : FuncData} {ps : List Str} {mf : List D → M D}
theorem ins_inst {pins : List (Addr × Obj)} {σ : Sl} {H : Hp} {s : Shared} {a C dx : Addr} {fs : List (Str × V)} (I : Inv X pins σ H s) (h : H a = some (.ins C dx fs)) : ∃ od, PySem.W.InstAt s.heap a (PySem.W.instObj C dx) C (some od) := by
  obtain ⟨mA, J, _⟩ := ins_get I.hok h
  obtain ⟨od, J2, _⟩ := J.look
  exact ⟨od, J2⟩
theorem quiet_in1 {A : Around} (h : Quiet A) : Quiet A.in1 := h
/-- a def of the text is called around a built-in -/
theorem call_Gin {pins : List (Addr × Obj)} {σ : Sl} {H : Hp} {s : Shared} {Q : VK} {sp : Sp} {us : List Value} {vs : List V} {A : Around} (F : FnG X.prog X.w X.K X.mg X.base CX k f fd ps sp) (hq : Quiet A) (hr : Room k A) (ef : A.frames = X.A.frames) (hb : Binds X.K fd ps []) (hx : Passes CX X E)
    (I : Inv X pins σ H s) (r : Vals vs us) (h : sp vs H Q E) : wpAny (model X.prog X.w) A (call (.ref f) us) (EP X pins σ Q) X.xe s := by
  have b := hb s us I.kIn (by rw [List.append_nil, ← r.length]; exact F.few _ _ _ _ h)
  rw [List.append_nil] at b
  have e := I.env0
  have e0 : Env0 X.prog X.w X.K X.mg X.base A X.stack s H := ⟨ef.trans e.frames, e.mod, e.bs, e.bsz, e.funs, e.frf, e.hok, e.bare⟩
  refine wpAny_call (codeAny_mono (F.go A X.stack s H ⟨us, []⟩ us vs Q E hq hr e0 b r h) fun res s' q => ?_)
  match res, q with
  | .error ev, q => exact hx pins σ H s ev s' I q
  | .ok (.ret u), q => exact I.after q
theorem cd_lenO (M_ : SMeth X.K (Γ c) "__len__" f) (F : FnG X.prog X.w X.K X.mg X.base CX k f fd ps (spM X.K Γ 1 mf)) (hq : Quiet X.A) (hr : Room (k + 1) X.A) (hb : Binds X.K fd ps []) (hx : Passes CX X E) : CallD X Γ E (.builtin "len") (lenOD c mf) := by
  intro pins s σ H xs us Q I rv ⟨φ, S, ds, sm, r, p⟩
  unfold lenOD at p
  split at p
  · rename_i n
    obtain ⟨v, rfl, r1⟩ := rel1 r
    cases r1 with
    | @ref _ a hn =>
      obtain ⟨u, rfl, ru⟩ := vals1 rv
      obtain rfl : u = Value.ref a := ru
      split at p
      · rename_i c' fs hS
        by_cases hc : c' = c
        · rw [if_pos hc] at p
          subst hc
          obtain ⟨dx, vs, h1, _⟩ := sim_ins sm hn hS
          obtain ⟨od, J⟩ := ins_inst I h1
          obtain ⟨m, hF⟩ := I.fr
          have P : Post X.K Γ E (rD X.K) φ H (mf [.ref n] S) fun v H' => ∃ i, v = .int i ∧ (0 ≤ i ∧ i < 2 ^ 63) ∧ Q (.int i) H' := by
            cases hm : mf [.ref n] S with
            | ok d S' =>
              rw [hm] at p
              cases d with
              | int i =>
                simp only [] at p
                by_cases hi : 0 ≤ i ∧ i < 2 ^ 63
                · rw [if_pos hi] at p
                  intro φ' H' v e' s' r'
                  cases r'
                  exact ⟨i, rfl, hi, p φ' H' _ e' s' (.int i)⟩
                · rw [if_neg hi] at p; exact p.elim
              | _ => exact p.elim
            | err _ _ _ => rw [hm] at p; exact p.elim
            | no => rw [hm] at p; exact p.elim
          refine PySem.W.len_K hF I.ok.mod.kin J M_.at_ M_.fn (wpAny_mono (call_Gin (us := [.ref a]) (vs := [.ref a]) F (quiet_in1 hq) hr.in1 (by rfl) hb hx I (.cons rfl .nil) ⟨rfl, φ, S, [.ref n], sm, .cons (.ref hn) .nil, P⟩) (fun w s' z => ?_) fun _ _ z => z)
          obtain ⟨v, H', I', rw', i, rfl, hi, q⟩ := z
          obtain ⟨t, rfl⟩ := (show ∃ t, w = Value.int i t from rw')
          exact ⟨hi, .int i, H', I'.tok _, ⟨_, rfl⟩, q⟩
        · rw [if_neg hc] at p; exact p.elim
      · exact p.elim
  · exact p.elim
end
/-! ### o == x, o != x -/
def eqSide (S : Sto) (c : Nat) (y : D) : Bool := (tyTn S y).isSome || match y with
  | .ref k => match S[k]? with
    | some (.ins c' _) => c' == c
    | _ => false
  | _ => false
def eqOD (g : Bool → Bool) (c : Nat) (mf : List D → M D) (x y : D) : M D := fun S => match x with
  | .ref n => match S[n]? with
    | some (.ins c' _) => if c' = c ∧ eqSide S c y = true then (match mf [x, y] S with
      | .ok (.bl b) S' => .ok (.bl (g b)) S'
      | _ => .no) else .no
    | _ => .no
  | _ => .no
theorem eqSide_ty {K : PySem.W.Frag} {Γ : Nat → Addr} {φ : List Addr} {S : Sto} {H : Hp} {c : Nat} {y : D} {v : V} (i : ICls K (Γ c)) (ns : ∀ t : Tn, PySem.W.subIn K (.type t.nm) (.ref (Γ c)) = some false) (s : Sim K Γ φ S H) (h : eqSide S c y = true) (r : RelD K H φ y v) :
    ∃ t, TyX K H v t ∧ PySem.W.notFirst K (Γ c) t = true := by
  unfold eqSide at h
  cases ht : tyTn S y with
  | some t => exact ⟨_, tyTn_rel s ht r, by unfold PySem.W.notFirst; rw [ns t]; simp⟩
  | none =>
    rw [ht] at h
    cases y with
    | ref k =>
      cases r with
      | @ref _ a hq =>
        simp only [Option.isSome_none, Bool.false_or] at h
        split at h
        · rename_i c' fs hS
          obtain rfl : c' = c := by simpa using h
          exact ⟨_, icls_ty i s hq hS, by unfold PySem.W.notFirst; simp⟩
        · cases h
    | _ => cases h
section
variable {P : Program} {w : World} {A : Around} {Er : Value → Shared → Prop} {s : Shared} {K : PySem.W.Frag} {x C f : Addr} {ox : Obj} {od : Option Obj} {b tb : Value}
/-- how a built-in's body comes to its end -/
abbrev EndB (P : Program) (w : World) (A : Around) (R : Result → Shared → Prop) : PySem.Fin → Shared → Prop := fun e s' => match e with
  | .done r => R (.ok r) s'
  | .again c => c.quiet = true ∧ codeAny (model P w) A c R s'
/-- object.__ne__ turns the own == about -/
theorem ne_built {Q : Value → Shared → Prop} (hu : A.in1.units < cLine) (Y : K.In s.heap) (J : PySem.W.InstAt s.heap x ox C od) (cm : PySem.W.mroIn K C (.type "object") = some true) (he : PySem.W.findIn K (.ref C) "__eq__" = some (some (.ref f))) (hf : PySem.W.isFn K (.ref f) = true)
    (h : wpAny (model P w) A.in1 (call (.ref f) [.ref x, b]) (fun v s' => ∃ c, v = .bool c ∧ Q (.bool (!c)) s') Er s) : wpAny (model P w) A (call (.builtin "object.__ne__") [.ref x, b]) Q Er s := by
  refine wpAny_call (codeAny_call_builtin (by decide +kernel) PySem.F.cmpEntry_ne ?_)
  simp only [checkBuiltinCall, PySem.F.cmpKind_ne, PySem.F.cmpSplit_ne]
  have isO : PySem.W.Looks (model P w) s.heap (isInstance (.ref x) (.type "object")) true := J.type.andThen (PySem.W.looks_mroIn Y cm)
  refine wpAny_bind (isO.here ?_)
  rw [if_neg (by simp)]
  have fin : ∀ {v : Value} {s' : Shared}, (∃ c, v = .bool c ∧ Q (.bool (!c)) s') → wpAny (model P w) A.in1 (match some v with
      | some .notImplemented | none => (ret Value.notImplemented : Sem PySem.Fin)
      | some r => do ret (.bool (!(← truthy r)))) (EndB P w A (wants Q Er)) (fun e s' => wants Q Er (.error e) s') s' := fun {v s'} ⟨c, ev, q⟩ => by
    subst ev
    exact wpAny_bind (wpAny_truthy_bool (wpAny_pure q))
  have body : wpAny (model P w) A.in1 (Builtin.«object.__ne__» ⟨[.ref x, b], []⟩) (EndB P w A (wants Q Er)) (fun e s' => wants Q Er (.error e) s') s := by
    unfold Builtin.«object.__ne__»
    refine wpAny_bind (wpAny_pure ?_)
    refine wpAny_bind (wpAny_cRoomFor hu ?_)
    refine wpAny_bind (PySem.W.ifBound_K (name := Str.ofString "__eq__") Y J he hf (wpAny_mono h (fun v s' z => ?_) fun _ _ z => z))
    exact fin z
  have a := PySem.F.cmpArgs_ne (.ref x) b
  unfold argsOk at a
  cases hs : Manifest.signature? "object.__ne__" with
  | none => exact wpAny_pure body
  | some sig =>
    simp only [hs] at a
    have a2 : Bind.checkArgs "object.__ne__" sig ⟨[.ref x, b], []⟩ = pure () := a
    show wpAny (model P w) A.in1 (Bind.checkArgs "object.__ne__" sig ⟨[.ref x, b], []⟩) _ _ s
    rw [a2]
    exact wpAny_pure body
/-- a built-in special method of an instance is bound and called -/
theorem bound_built {M : Model} {name : Str} {id : String} {args : List Value} {Q : Option Value → Shared → Prop} (Y : K.In s.heap) (J : PySem.W.InstAt s.heap x ox C od) (hs : PySem.W.findIn K (.ref C) name = some (some (.builtin id))) (hb : ∀ self, bindSpecial (.builtin id) self = pure (.builtin id, [self]))
    (h : wpAny M A (call (.builtin id) (.ref x :: args)) (fun v => Q (some v)) Er s) : wpAny M A (callSpecialIfBound? (.ref x) name args) Q Er s := by
  simp only [callSpecialIfBound?, bindSpecialIfBound?]
  refine wpAny_holding (wpAny_bind (wpAny_bind (wpAny_bind (J.type.here ((PySem.W.looks_findIn Y hs).here ?_)))))
  simp only [hb]
  refine wpAny_bind (wpAny_askSetting (wpAny_ite ?_))
  have go : wpAny M A (call (.builtin id) ([.ref x] ++ args) >>= fun v => pure (some v)) Q Er s := wpAny_bind (wpAny_mono h (fun _ _ z => wpAny_pure z) fun _ _ z => z)
  split
  · exact wpAny_bind (wpAny_pure (wpAny_pure go))
  · exact wpAny_tryCatch (wpAny_bind (wpAny_pure (wpAny_pure go)))
theorem ne_inst {Q : Value → Shared → Prop} (hu : A.in1.units < cLine) (Y : K.In s.heap) (J : PySem.W.InstAt s.heap x ox C od) (cm : PySem.W.mroIn K C (.type "object") = some true) (hn : PySem.W.findIn K (.ref C) "__ne__" = some (some (.builtin "object.__ne__"))) (he : PySem.W.findIn K (.ref C) "__eq__" = some (some (.ref f))) (hf : PySem.W.isFn K (.ref f) = true)
    (hb : PySem.W.Looks (model P w) s.heap (typeOf b) tb) (ht : PySem.W.notFirst K C tb = true) (h : wpAny (model P w) A.in1 (call (.ref f) [.ref x, b]) (fun v s' => ∃ c, v = .bool c ∧ Q (.bool (!c)) s') Er s) : wpAny (model P w) A (compareOp .NotEq (.ref x) b) Q Er s := by
  have one : wpAny (model P w) A (tryCompare (.ref x) "__ne__" b) (fun r s' => ∃ v, r = some v ∧ Q v s') Er s := by
    unfold tryCompare
    refine wpAny_bind (bound_built Y J hn PySem.F.cmp_object.ne.bind (wpAny_mono (ne_built hu Y J cm he hf (Q := fun v s' => (∃ c, v = .bool c) ∧ Q v s') (wpAny_mono h (fun v s' ⟨c, e, q⟩ => ⟨c, e, ⟨_, rfl⟩, q⟩) fun _ _ z => z)) (fun v s' z => ?_) fun _ _ z => z))
    obtain ⟨⟨c, rfl⟩, q⟩ := z
    exact wpAny_pure ⟨_, rfl, q⟩
  have hu0 : A.units < cLine := Nat.lt_of_succ_lt hu
  show wpAny (model P w) A (richCompare .NotEq (.ref x) b) Q Er s
  unfold richCompare
  simp only [oneThing_ref]
  refine wpAny_holding (wpAny_bind (wpAny_cRoomFor hu0 (wpAny_bind (J.type.here (wpAny_bind (hb.here ?_))))))
  split
  · rename_i q
    have e : PySem.W.subIn K tb (.ref C) = some false := by
      unfold PySem.W.notFirst at ht
      rw [Bool.or_eq_true] at ht
      rcases ht with e | e
      · rw [beq_iff_eq.mp e] at q; simp at q
      · exact beq_iff_eq.mp e
    refine wpAny_bind ((PySem.W.looks_subIn Y e).here ?_)
    rw [if_neg Bool.false_ne_true]
    exact wpAny_bind (wpAny_mono one (fun r s' ⟨v, e, z⟩ => by subst e; exact wpAny_pure z) fun _ _ z => z)
  · refine wpAny_bind (wpAny_pure ?_)
    rw [if_neg Bool.false_ne_true]
    exact wpAny_bind (wpAny_mono one (fun r s' ⟨v, e, z⟩ => by subst e; exact wpAny_pure z) fun _ _ z => z)
end
section
variable {X : Cx} {Γ : Nat → Addr} {E : XK} {CX : CXT} {k c : Nat} {f : Addr} {fd : FuncData} {ps : List Str} {mf : List D → M D}
theorem eqO_go {K : PySem.W.Frag} {Γ : Nat → Addr} {E : XK} {mf : List D → M D} {φ : List Addr} {S : Sto} {H : Hp} {ds : List D} {g : Bool → Bool} {Q : VK} (p : Post K Γ E (rD K) φ H ((match mf ds S with
      | .ok (.bl b) S' => .ok (.bl (g b)) S'
      | _ => .no) : R D) Q) : Post K Γ E (rD K) φ H (mf ds S) fun v H' => ∃ b, v = .bl b ∧ Q (.bl (g b)) H' := by
  cases hm : mf ds S with
  | ok d S' =>
    rw [hm] at p
    cases d with
    | bl b =>
      intro φ' H' v e' s' r'
      cases r'
      exact ⟨b, rfl, p φ' H' _ e' s' (.bl _)⟩
    | _ => exact p.elim
  | err _ _ _ => rw [hm] at p; exact p.elim
  | no => rw [hm] at p; exact p.elim
theorem od_eqO (i : ICls X.K (Γ c)) (ns : ∀ t : Tn, PySem.W.subIn X.K (.type t.nm) (.ref (Γ c)) = some false) (M_ : SMeth X.K (Γ c) "__eq__" f) (F : FnG X.prog X.w X.K X.mg X.base CX k f fd ps (spM X.K Γ 2 mf)) (hq : Quiet X.A) (hr : Room k X.A) (hb : Binds X.K fd ps []) (hx : Passes CX X E) :
    OpD X Γ E (compareOp .Eq) (eqOD id c mf) := by
  intro pins s σ H x y v u Q I rx ry ⟨φ, S, dx, dy, sm, r1, r2, p⟩
  unfold eqOD at p
  split at p
  · rename_i n
    cases r1 with
    | @ref _ a hn =>
      obtain rfl : v = Value.ref a := rx
      split at p
      · rename_i c' fs hS
        split at p
        · rename_i hc
          obtain ⟨rfl, hside⟩ := hc
          obtain ⟨dx, vs, h1, _⟩ := sim_ins sm hn hS
          obtain ⟨od, J⟩ := ins_inst I h1
          obtain ⟨m, hF⟩ := I.fr
          obtain ⟨t, ty, nf⟩ := eqSide_ty i ns sm hside r2
          obtain ⟨Pk, kx, hk, _⟩ := kit_of I ry ty
          refine PySem.W.cmp_K (op := .Eq) hr.units0 hF I.ok.mod.kin J (kx.ty _ _ I.kIn hk) nf M_.at_ M_.fn (wpAny_mono (call_Gin (us := [.ref a, u]) (vs := [.ref a, y]) F hq hr (by rfl) hb hx I (.cons rfl (.cons ry .nil)) ⟨rfl, φ, S, [.ref n, dy], sm, .cons (.ref hn) (.cons r2 .nil), eqO_go p⟩) (fun w s' z => ?_) fun _ _ z => z)
          obtain ⟨v, H', I', rw', b, rfl, q⟩ := z
          obtain rfl : w = Value.bool b := rw'
          exact ⟨.bl b, H', I', rfl, q⟩
        · exact p.elim
      · exact p.elim
  · exact p.elim
theorem od_neO (i : ICls X.K (Γ c)) (ns : ∀ t : Tn, PySem.W.subIn X.K (.type t.nm) (.ref (Γ c)) = some false) (hne : PySem.W.findIn X.K (.ref (Γ c)) "__ne__" = some (some (.builtin "object.__ne__"))) (M_ : SMeth X.K (Γ c) "__eq__" f) (F : FnG X.prog X.w X.K X.mg X.base CX k f fd ps (spM X.K Γ 2 mf)) (hq : Quiet X.A) (hr : Room (k + 1) X.A) (hb : Binds X.K fd ps []) (hx : Passes CX X E) :
    OpD X Γ E (compareOp .NotEq) (eqOD not c mf) := by
  intro pins s σ H x y v u Q I rx ry ⟨φ, S, dx, dy, sm, r1, r2, p⟩
  unfold eqOD at p
  split at p
  · rename_i n
    cases r1 with
    | @ref _ a hn =>
      obtain rfl : v = Value.ref a := rx
      split at p
      · rename_i c' fs hS
        split at p
        · rename_i hc
          obtain ⟨rfl, hside⟩ := hc
          obtain ⟨dx, vs, h1, _⟩ := sim_ins sm hn hS
          obtain ⟨od, J⟩ := ins_inst I h1
          obtain ⟨t, ty, nf⟩ := eqSide_ty i ns sm hside r2
          obtain ⟨Pk, kx, hk, _⟩ := kit_of I ry ty
          refine ne_inst hr.in1.units0 I.kIn J i.cm hne M_.at_ M_.fn (kx.ty _ _ I.kIn hk) nf (wpAny_mono (call_Gin (us := [.ref a, u]) (vs := [.ref a, y]) F (quiet_in1 hq) hr.in1 (by rfl) hb hx I (.cons rfl (.cons ry .nil)) ⟨rfl, φ, S, [.ref n, dy], sm, .cons (.ref hn) (.cons r2 .nil), eqO_go p⟩) (fun w s' z => ?_) fun _ _ z => z)
          obtain ⟨v, H', I', rw', b, rfl, q⟩ := z
          obtain rfl : w = Value.bool b := rw'
          exact ⟨b, rfl, .bl _, H', I', rfl, q⟩
        · exact p.elim
      · exact p.elim
  · exact p.elim
end

/-! defs that may raise: their promise, the calls of them; methods of own classes by their names -/
open PySem PySem.Spec PyProof.Rows L2

/-- what a def that may raise lets out -/
abbrev CXL (P : Program) (w : World) : CXT := L2N.CX P w
abbrev EF : XK := fun _ _ _ => False
theorem passF {X : Cx} : Passes (CXL X.prog X.w) X EF := fun _ _ _ _ e s' _ z => by
  obtain ⟨_, _, _, _, _, _, _, _, _, _, _, _, hE⟩ := z
  exact hE.elim
/-- the exceptions of a callee are taken where those of a body are -/
theorem passW {X : Cx} {W : WX} {E : XK} (tk : L2N.Takes X W) (hW : ∀ cls d (σ : Sl) H, σ.length = X.N.length → E cls d H → W cls d σ H) : Passes (CXL X.prog X.w) X E :=
  fun pins σ H s e s' I z => tk e s' (L2N.XE.of_call I (fun cls d H' h => hW cls d σ H' I.len h) z)
/-- no exception comes -/
def hushM (mf : List D → M D) : List D → M D := fun ds S => match mf ds S with
  | .ok d S' => .ok d S'
  | _ => .no
theorem hush_ok {mf : List D → M D} {ds : List D} {S S' : Sto} {d : D} (h : mf ds S = .ok d S') : hushM mf ds S = .ok d S' := by
  unfold hushM
  rw [h]
theorem hush_post {K : PySem.W.Frag} {Γ : Nat → Addr} {E : XK} {φ : List Addr} {H : Hp} {mf : List D → M D} {ds : List D} {S : Sto} {Q : VK} (p : Post K Γ E (rD K) φ H (hushM mf ds S) Q) : Post K Γ EF (rD K) φ H (mf ds S) Q := by
  unfold hushM at p
  cases hm : mf ds S with
  | ok d S' => rw [hm] at p; exact p
  | err c fs S' => rw [hm] at p; exact p.elim
  | no => rw [hm] at p; exact p.elim
theorem FnG.hush {P : Program} {w : World} {K : PySem.W.Frag} {mg : Str → Option Value} {base : Heap} {Γ : Nat → Addr} {k n : Nat} {f : Addr} {fd : FuncData} {ps : List Str} {mf : List D → M D} (F : FnG P w K mg base (CXL P w) k f fd ps (spM K Γ n mf)) (hn : n = ps.length) :
    FnG P w K mg base CX0 k f fd ps (spM K Γ n (hushM mf)) := by
  refine ⟨fun vs H Q E h => h.1.trans hn, fun A fr s H args us vs Q E hq hr e0 b r h => ?_⟩
  obtain ⟨h1, φ, S, ds, sm, rv, p⟩ := h
  refine codeAny_mono (F.go A fr s H args us vs Q EF hq hr e0 b r ⟨h1, φ, S, ds, sm, rv, hush_post p⟩) fun res s' z => ?_
  match res, z with
  | .error ev, z =>
    obtain ⟨_, _, _, _, _, _, _, _, _, _, _, _, hE⟩ := z
    exact hE.elim
  | .ok (.ret u), z => exact z
section
variable {P : Program} {w : World} {K : PySem.W.Frag} {mg : Str → Option Value} {base : Heap} {Γ : Nat → Addr} {k : Nat} {f : Addr} {fd : FuncData} {ps : List Str}
/-- the rule for a def that may raise -/
theorem fn_okL {nm qual : Str} {st : Stmt} {N : List Str} {m : Env → M Fl} (F : Fun K nm qual st f fd) (sc : FnScope N ps (defScope st))
    (hbody : ∀ (cdv : Value) (A : Around) (fr : List PySem.Env) (s : Shared) (H : Hp) (E : XK), Quiet (A.deeper (envOfC qual (defScope st) s.heap.objs.size f cdv)) → Room k (A.deeper (envOfC qual (defScope st) s.heap.objs.size f cdv)) → RSs (cxOf (CXL P w) P w K mg base N qual (defScope st) f cdv A fr s H E) Γ E (defBody st) m) :
    FnG P w K mg base (CXL P w) (k + 1) f fd ps (spM K Γ ps.length (fnM N.length m)) := by
  refine fn_G F sc (fun vs H Q E h => h.1) (fun cdv A fr s H vs Q E hq hr h => ⟨_, hbody cdv A fr s H E hq hr, ?_⟩)
  obtain ⟨_, φ, S, ds, sm, rv, p⟩ := h
  refine ⟨φ, _, S, sm, relE_start N rv, (Post.bnd (rel := rF K) p).imp fun fv H1 ⟨φ1, S1, fl, e1, s1, rf, p1⟩ => ?_⟩
  cases rf with
  | nx q => exact p1.val (v := V.non) s1 .non
  | rt rv => exact p1.val s1 rv
  | bk q => exact p1.elim
  | ct q => exact p1.elim
end
section
variable {P : Program} {w : World} {K : PySem.W.Frag} {mg : Str → Option Value} {base : Heap} {N : List Str} {qual : Str} {scope : Scope} {f : Addr} {cdv : Value} {A : Around} {fr : List PySem.Env} {s : Shared} {H : Hp} {E : XK}
theorem takesL : L2N.Takes (cxOf (CXL P w) P w K mg base N qual scope f cdv A fr s H E) (fun cls d _ H' => E cls d H') := L2N.takes_of rfl rfl rfl rfl
theorem passL : Passes (CXL P w) (cxOf (CXL P w) P w K mg base N qual scope f cdv A fr s H E) E := passW takesL fun _ _ _ _ _ h => h
theorem ownL : PassesOwn (model P w) (A.deeper (envOfC qual scope s.heap.objs.size f cdv)) (cxOf (CXL P w) P w K mg base N qual scope f cdv A fr s H E).env (cxOf (CXL P w) P w K mg base N qual scope f cdv A fr s H E).xe := L2.passes_of (X := cxOf (CXL P w) P w K mg base N qual scope f cdv A fr s H E) rfl
end
/-! ### defs that raise, by their names -/
structure CalleeL (P : Program) (w : World) (K : PySem.W.Frag) (mg : Str → Option Value) (base : Heap) (Γ : Nat → Addr) (k : Nat) (nm : Str) (n : Nat) (mf : List D → M D) : Prop where
  ex : ∃ (f : Addr) (fd : FuncData) (ps : List Str), FnG P w K mg base (CXL P w) k f fd ps (spM K Γ n mf) ∧ mg nm = some (.ref f) ∧ PySem.W.keepIn K (.ref f) = true ∧ Binds K fd ps [] ∧ n = ps.length
section
variable {P : Program} {w : World} {K : PySem.W.Frag} {mg : Str → Option Value} {base : Heap} {Γ : Nat → Addr} {k n : Nat} {nm qual : Str} {st : Stmt} {N ps : List Str} {mf : List D → M D}
theorem calleeL_mk {m : Env → M Fl} (D : DefOk K mg nm qual st ps) (sc : FnScope N ps (defScope st))
    (hbody : ∀ (f : Addr) (cdv : Value) (A : Around) (fr : List PySem.Env) (s : Shared) (H : Hp) (E : XK), Quiet (A.deeper (envOfC qual (defScope st) s.heap.objs.size f cdv)) → Room k (A.deeper (envOfC qual (defScope st) s.heap.objs.size f cdv)) → RSs (cxOf (CXL P w) P w K mg base N qual (defScope st) f cdv A fr s H E) Γ E (defBody st) m) :
    CalleeL P w K mg base Γ (k + 1) nm ps.length (fnM N.length m) := by
  obtain ⟨f, fd, F, g, b⟩ := D.ex
  exact ⟨⟨f, fd, ps, fn_okL F sc fun cdv A fr s H E hq hr => hbody f cdv A fr s H E hq hr, g, F.kp, b, rfl⟩⟩
theorem CalleeL.hush (C : CalleeL P w K mg base Γ k nm n mf) : Callee P w K mg base Γ k nm n (hushM mf) := by
  obtain ⟨f, fd, ps, F, g, kp, b, e⟩ := C.ex
  exact ⟨⟨f, fd, ps, F.hush e, g, kp, b⟩⟩
end
section
variable {X : Cx} {Γ : Nat → Addr} {E : XK} {e : Expr} {es : List Expr} {mA : Env → M (List D)} {pos p : Pos} {k n : Nat} {x : Str} {mf : List D → M D}
theorem re_callL (C : CalleeL X.prog X.w X.K X.mg X.base Γ k x n mf) (hx : Passes (CXL X.prog X.w) X E) (hq : Quiet X.A) (hr : Room k X.A) (ha : RA X Γ E (e :: es) mA) (hl : ∀ r S ds S', mA r S = .ok ds S' → ds.length = n) (hg : Gl X x := by rfl) (hdb : (x == ("__debug__" : Str)) = false := by decide)
    (he : starEach (e :: es) X.env = (false, eval e X.env) :: starEach es X.env := by rfl) (hpl : (backTo pos (starEach es X.env)).any (·.1) = false := by rfl) : RE X Γ E (.Call (.Name x p) (e :: es) [] pos) (clM mf mA) := by
  obtain ⟨f, fd, ps, F, g, kp, b, _⟩ := C.ex
  exact re_callG F hq hr hg g kp b hx ha hl hdb he hpl
end
/-! ### methods, by class and name -/
structure MethOk (K : PySem.W.Frag) (C : Addr) (nm qual : Str) (st : Stmt) (ps : List Str) : Prop where
  ex : ∃ (f : Addr) (fd : FuncData), Fun K nm qual st f fd ∧ PySem.W.findIn K (.ref C) nm = some (some (.ref f)) ∧ PySem.W.isFn K (.ref f) = true ∧ Binds K fd ps []
theorem meth_mk {K : PySem.W.Frag} {C : Addr} {nm qual : Str} {st : Stmt} {ps : List Str} {f : Addr} {od an : Option Addr} {sl : Array (Option Value)} {oc kV dc pm cd ct : Value} (a : PySem.W.findIn K (.ref C) nm = some (some (.ref f))) (fn : PySem.W.isFn K (.ref f) = true)
    (l : K.lookup f = some ⟨oc, od, .func (PySem.W.fnOf nm qual (defArgs st) (defBody st) (defScope st) .none kV dc pm an cd ct), sl⟩) (c : PySem.W.codeIn K cd qual = true) (k : PySem.W.keepIn K (.ref f) = true)
    (hb : ∀ (kV doc pm : Value) (an : Option Addr) (cdv ct : Value) (us : List Value), us.length = ps.length → bindArgs (PySem.W.fnOf nm qual (defArgs st) (defBody st) (defScope st) .none kV doc pm an cdv ct) ⟨us, []⟩ = pure (ps.zip us)) : MethOk K C nm qual st ps :=
  have F := fun_mk (st := st) l c k
  ⟨⟨f, _, F, a, fn, F.binds hb⟩⟩
/-- what a method promises; CX: CX0 or CXL P w -/
structure CalleeM (CX : CXT) (P : Program) (w : World) (K : PySem.W.Frag) (mg : Str → Option Value) (base : Heap) (Γ : Nat → Addr) (k : Nat) (c : Nat) (nm : Str) (n : Nat) (mf : List D → M D) : Prop where
  ex : ∃ (f : Addr) (fd : FuncData) (ps : List Str), FnG P w K mg base CX k f fd ps (spM K Γ n mf) ∧ PySem.W.findIn K (.ref (Γ c)) nm = some (some (.ref f)) ∧ PySem.W.isFn K (.ref f) = true ∧ PySem.W.keepIn K (.ref f) = true ∧ Binds K fd ps [] ∧ n = ps.length
section
variable {P : Program} {w : World} {K : PySem.W.Frag} {mg : Str → Option Value} {base : Heap} {Γ : Nat → Addr} {k c n : Nat} {nm qual : Str} {st : Stmt} {N ps : List Str} {mf : List D → M D}
theorem calleeM_mk {m : Env → M Fl} (D : MethOk K (Γ c) nm qual st ps) (sc : FnScope N ps (defScope st))
    (hbody : ∀ (f : Addr) (cdv : Value) (A : Around) (fr : List PySem.Env) (s : Shared) (H : Hp) (E : XK), Quiet (A.deeper (envOfC qual (defScope st) s.heap.objs.size f cdv)) → Room k (A.deeper (envOfC qual (defScope st) s.heap.objs.size f cdv)) → RSs (cxOf CX0 P w K mg base N qual (defScope st) f cdv A fr s H E).nox Γ E (defBody st) m) :
    CalleeM CX0 P w K mg base Γ (k + 1) c nm ps.length (fnM N.length m) := by
  obtain ⟨f, fd, F, a, ty, b⟩ := D.ex
  exact ⟨⟨f, fd, ps, fn_okG F sc fun cdv A fr s H E hq hr => hbody f cdv A fr s H E hq hr, a, ty, F.kp, b, rfl⟩⟩
theorem calleeML_mk {m : Env → M Fl} (D : MethOk K (Γ c) nm qual st ps) (sc : FnScope N ps (defScope st))
    (hbody : ∀ (f : Addr) (cdv : Value) (A : Around) (fr : List PySem.Env) (s : Shared) (H : Hp) (E : XK), Quiet (A.deeper (envOfC qual (defScope st) s.heap.objs.size f cdv)) → Room k (A.deeper (envOfC qual (defScope st) s.heap.objs.size f cdv)) → RSs (cxOf (CXL P w) P w K mg base N qual (defScope st) f cdv A fr s H E) Γ E (defBody st) m) :
    CalleeM (CXL P w) P w K mg base Γ (k + 1) c nm ps.length (fnM N.length m) := by
  obtain ⟨f, fd, F, a, ty, b⟩ := D.ex
  exact ⟨⟨f, fd, ps, fn_okL F sc fun cdv A fr s H E hq hr => hbody f cdv A fr s H E hq hr, a, ty, F.kp, b, rfl⟩⟩
theorem CalleeM.hush (C : CalleeM (CXL P w) P w K mg base Γ k c nm n mf) : CalleeM CX0 P w K mg base Γ k c nm n (hushM mf) := by
  obtain ⟨f, fd, ps, F, a, ty, kp, b, e⟩ := C.ex
  exact ⟨⟨f, fd, ps, F.hush e, a, ty, kp, b, e⟩⟩
end
/-- what the text says of an own class -/
structure OCls (K : PySem.W.Frag) (C : Addr) : Prop where
  ic : ICls K C
  mks : PySem.W.makesIn K C = true
  kp : PySem.W.keepIn K (.ref C) = true
section
variable {X : Cx} {Γ : Nat → Addr} {E : XK} {e o : Expr} {es : List Expr} {mo : Env → M D} {mA : Env → M (List D)} {pos p apos : Pos} {k n c : Nat} {m x : Str} {mf : List D → M D} {CX : CXT}
/-- o.m(e, ..) -/
theorem re_methC {pl : Sem Bool} (C : CalleeM CX X.prog X.w X.K X.mg X.base Γ k c m n mf) (T : OCls X.K (Γ c)) (hx : Passes CX X E) (hq : Quiet X.A) (hr : Room k X.A) (he : RE X Γ E o mo) (ha : RA X Γ E (e :: es) mA) (hl : ∀ r S ds S', mA r S = .ok ds S' → ds.length + 1 = n)
    (h1 : starEach (e :: es) X.env = (false, eval e X.env) :: starEach es X.env := by rfl) (h2 : (backTo pos (starEach es X.env)).any (·.1) = false := by rfl)
    (h3 : eval (.Call (.Attribute o m apos) (e :: es) [] pos) X.env = (do
      let recv ← eval o X.env
      standAt apos.atName
      let (g, first) ← holding [recv] (getMethod recv m pl)
      callWith pos g first (backTo pos (starEach (e :: es) X.env)) (backToKw pos (keywordEach [] X.env))) := by rfl) :
    RE X Γ E (.Call (.Attribute o m apos) (e :: es) [] pos) (methM c m mf mo mA) := by
  obtain ⟨f, fd, ps, F, a, fn, kp, b, _⟩ := C.ex
  exact re_meth he T.ic.cl ⟨a, fn, kp⟩ F hq hr b hx ha hl h1 h2 h3
/-- o.m() -/
theorem re_methC0 {pl : Sem Bool} (C : CalleeM CX X.prog X.w X.K X.mg X.base Γ k c m 1 mf) (T : OCls X.K (Γ c)) (hx : Passes CX X E) (hq : Quiet X.A) (hr : Room k X.A) (he : RE X Γ E o mo)
    (h3 : eval (.Call (.Attribute o m apos) [] [] pos) X.env = (do
      let recv ← eval o X.env
      standAt apos.atName
      let (g, first) ← holding [recv] (getMethod recv m pl)
      callWith pos g first (backTo pos (starEach [] X.env)) (backToKw pos (keywordEach [] X.env))) := by rfl) :
    RE X Γ E (.Call (.Attribute o m apos) [] [] pos) (methM c m mf mo nilA) := by
  obtain ⟨f, fd, ps, F, a, fn, kp, b, _⟩ := C.ex
  exact re_meth0 he T.ic.cl ⟨a, fn, kp⟩ F hq hr b hx h3
/-- C(e, ..) -/
theorem re_makeO (C : CalleeM CX X.prog X.w X.K X.mg X.base Γ k c "__init__" n mf) (T : OCls X.K (Γ c)) (gm : X.mg x = some (.ref (Γ c))) (hx : Passes CX X E) (hq : Quiet X.A) (hr : Room (k + 1) X.A) (ha : RA X Γ E (e :: es) mA) (hl : ∀ r S ds S', mA r S = .ok ds S' → ds.length + 1 = n)
    (hg : Gl X x := by rfl) (hdb : (x == ("__debug__" : Str)) = false := by decide) (h1 : starEach (e :: es) X.env = (false, eval e X.env) :: starEach es X.env := by rfl) (h2 : (backTo pos (starEach es X.env)).any (·.1) = false := by rfl) :
    RE X Γ E (.Call (.Name x p) (e :: es) [] pos) (clM (mkM c mf) mA) := by
  obtain ⟨f, fd, ps, F, a, fn, kp, b, _⟩ := C.ex
  exact re_make ⟨T.mks, a, fn, T.kp⟩ F hq hr hg gm b hx ha hl hdb h1 h2
/-- C() -/
theorem re_makeO0 (C : CalleeM CX X.prog X.w X.K X.mg X.base Γ k c "__init__" 1 mf) (T : OCls X.K (Γ c)) (gm : X.mg x = some (.ref (Γ c))) (hx : Passes CX X E) (hq : Quiet X.A) (hr : Room (k + 1) X.A)
    (hg : Gl X x := by rfl) (hdb : (x == ("__debug__" : Str)) = false := by decide) :
    RE X Γ E (.Call (.Name x p) [] [] pos) (clM (mkM c mf) nilA) := by
  obtain ⟨f, fd, ps, F, a, fn, kp, b, _⟩ := C.ex
  refine PE.weaken (t := fun σ H Q => ∀ y dx, H y = none → H dx = none → dx ≠ y → spM X.K Γ 1 mf (.ref y :: ([] ++ [])) (upd (upd H dx (.own y)) y (.ins (Γ c) dx [])) (fun v H2 => v = .non ∧ Q (.ref y) H2) E) ⟨fun pins s σ H Q I h => wpAny_Call_Name_kw (ld_glob I hg gm ?_ hdb)⟩ fun σ H Q ⟨φ, r, S, s, q, p⟩ y dx z1 z2 z3 => ?_
  · exact PySem.W.callWith_K0 (first := []) I.kIn T.kp (run_makeG (us := []) (vs := []) (dvs := []) (ds := []) ⟨T.mks, a, fn, T.kp⟩ F hq hr b .nil hx I .nil h)
  · have p' : Post X.K Γ E (rD X.K) φ H (mkM c mf [] S) Q := p
    exact make_to (l := []) (vs := []) rfl s .nil p' z1 z2 z3
/-- isinstance(e, C) -/
theorem lenO_C (C : CalleeM CX X.prog X.w X.K X.mg X.base Γ k c "__len__" 1 mf) (hx : Passes CX X E) (hq : Quiet X.A) (hr : Room (k + 1) X.A) : CallD X Γ E (.builtin "len") (lenOD c mf) := by
  obtain ⟨f, fd, ps, F, a, fn, kp, b, _⟩ := C.ex
  exact cd_lenO ⟨a, fn⟩ F hq hr b hx
theorem eqO_C (C : CalleeM CX X.prog X.w X.K X.mg X.base Γ k c "__eq__" 2 mf) (T : OCls X.K (Γ c)) (ns : ∀ t : Tn, PySem.W.subIn X.K (.type t.nm) (.ref (Γ c)) = some false) (hx : Passes CX X E) (hq : Quiet X.A) (hr : Room k X.A) : OpD X Γ E (compareOp .Eq) (eqOD id c mf) := by
  obtain ⟨f, fd, ps, F, a, fn, kp, b, _⟩ := C.ex
  exact od_eqO T.ic ns ⟨a, fn⟩ F hq hr b hx
theorem neO_C (C : CalleeM CX X.prog X.w X.K X.mg X.base Γ k c "__eq__" 2 mf) (T : OCls X.K (Γ c)) (ns : ∀ t : Tn, PySem.W.subIn X.K (.type t.nm) (.ref (Γ c)) = some false) (hne : PySem.W.findIn X.K (.ref (Γ c)) "__ne__" = some (some (.builtin "object.__ne__"))) (hx : Passes CX X E) (hq : Quiet X.A) (hr : Room (k + 1) X.A) : OpD X Γ E (compareOp .NotEq) (eqOD not c mf) := by
  obtain ⟨f, fd, ps, F, a, fn, kp, b, _⟩ := C.ex
  exact od_neO T.ic ns hne ⟨a, fn⟩ F hq hr b hx
end

/-! raise C(e), raise C() -/
open PySem PySem.Spec PyProof.Rows L2

/-! ### a store cut short -/
section
variable {K : PySem.W.Frag} {Γ : Nat → Addr} {H H' : Hp} {φ t : List Addr}
theorem get_back {n : Nat} {a b : Addr} (h : φ[n]? = some a) (q : (φ ++ t)[n]? = some b) : φ[n]? = some b := by
  rw [List.getElem?_append_left (List.getElem?_eq_some_iff.mp h).1] at q
  exact q
mutual
theorem RelD.back : ∀ (d : D) (v w : V), RelD K H φ d v → RelD K H' (φ ++ t) d w → RelD K H' φ d w
  | .non, _, _, _, h => by cases h; exact .non
  | .bl _, _, _, _, h => by cases h; exact .bl _
  | .int _, _, _, _, h => by cases h; exact .int _
  | .str _, _, _, _, h => by cases h; exact .str _
  | .ref _, _, _, h0, h => by
    cases h0 with
    | ref q0 =>
      cases h with
      | ref q => exact .ref (get_back q0 q)
  | .tup xs, _, _, h0, h => by
    cases h0 with
    | tup q0 x0 r0 =>
      cases h with
      | tup q x r => exact .tup q x (RelDs.back xs _ _ r0 r)
  | .fl xs, _, _, h0, h => by
    cases h0 with
    | fl q0 r0 =>
      cases h with
      | fl q r => exact .fl q (RelDs.back xs _ _ r0 r)
  | .exc _ _ _, _, _, h0, h => by
    cases h0 with
    | exc q0 =>
      cases h with
      | exc q => exact .exc fun k hk => let ⟨_, _, h2⟩ := q0 k hk; let ⟨b, h3, h4⟩ := q k hk; ⟨b, h3, get_back h2 h4⟩
theorem RelDs.back : ∀ (ds : List D) (vs ws : List V), RelDs K H φ ds vs → RelDs K H' (φ ++ t) ds ws → RelDs K H' φ ds ws
  | [], _, _, _, h => by cases h; exact .nil
  | d :: ds, _, _, h0, h => by
    cases h0 with
    | cons a0 b0 =>
      cases h with
      | cons a b => exact .cons (RelD.back d _ _ a0 a) (RelDs.back ds _ _ b0 b)
end
theorem RelKv.back {κ : Type} : ∀ {xs : List (κ × D)} {ys zs : List (κ × V)}, RelKv K H φ xs ys → RelKv K H' (φ ++ t) xs zs → RelKv K H' φ xs zs
  | _, _, _, .nil, h => by cases h; exact .nil
  | _, _, _, .cons a0 b0, h => by
    cases h with
    | cons a b => exact .cons ⟨a.1, RelD.back _ _ _ a0.2 a.2⟩ (RelKv.back b0 b)
theorem RelO.back {a : Addr} {o : O} (h0 : RelO K Γ H φ a o) (h : RelO K Γ H' (φ ++ t) a o) : RelO K Γ H' φ a o := by
  cases o with
  | lst ds => obtain ⟨_, _, q0⟩ := h0; obtain ⟨vs, h1, q⟩ := h; exact ⟨vs, h1, RelDs.back _ _ _ q0 q⟩
  | dK kvs => obtain ⟨_, _, q0⟩ := h0; obtain ⟨vs, h1, q⟩ := h; exact ⟨vs, h1, RelKv.back q0 q⟩
  | dT kvs => obtain ⟨_, _, q0⟩ := h0; obtain ⟨vs, h1, q⟩ := h; exact ⟨vs, h1, RelKv.back q0 q⟩
  | dKL kvs => obtain ⟨_, _, _, q0⟩ := h0; obtain ⟨ob, vs, h1, q⟩ := h; exact ⟨ob, vs, h1, RelKv.back q0 q⟩
  | dTL kvs => obtain ⟨_, _, _, q0⟩ := h0; obtain ⟨ob, vs, h1, q⟩ := h; exact ⟨ob, vs, h1, RelKv.back q0 q⟩
  | ins c fs => obtain ⟨_, _, _, q0⟩ := h0; obtain ⟨dx, vs, h1, q⟩ := h; exact ⟨dx, vs, h1, RelKv.back q0 q⟩
  | exo c d =>
    obtain ⟨d0, _, q0⟩ := h0
    obtain ⟨dx, h1, q⟩ := h
    refine ⟨dx, h1, ?_⟩
    cases d with
    | none =>
      cases dx with
      | none => exact True.intro
      | some x => exact q.elim
    | some m =>
      cases d0 with
      | none => exact q0.elim
      | some x0 =>
        cases dx with
        | none => exact q.elim
        | some x => exact get_back q0 q
  | exd fs => obtain ⟨_, _, q0⟩ := h0; obtain ⟨vs, h1, q⟩ := h; exact ⟨vs, h1, RelKv.back q0 q⟩
  | xdo fs => obtain ⟨_, _, q0⟩ := h0; obtain ⟨vs, h1, q⟩ := h; exact ⟨vs, h1, RelKv.back q0 q⟩
/-- what is no tuple and no frozen list is forgotten -/
theorem Kp.del {y : Addr} (mu : Mut (H y)) : Kp K H (del H y) := by
  have ne : ∀ {b : Addr} {o : HO}, H b = some o → ¬ Mut (some o) → b ≠ y := fun {b o} e n z => by
    rw [z] at e
    rw [e] at mu
    exact n mu
  refine ⟨fun a vs h => ?_, fun a vs h => ?_, fun a vs h => by rw [del_ne (ne h id)]; exact h, fun a o u h => by rw [del_ne (ne h id)]; exact h⟩
  · rcases h with (h | ⟨u, h⟩) | h
    · exact .inl (.inl (by rw [del_ne (ne h id)]; exact h))
    · exact .inl (.inr ⟨u, by rw [del_ne (ne h id)]; exact h⟩)
    · exact .inr h
  · rcases h with ⟨u, h⟩ | h
    · exact .inl ⟨u, by rw [del_ne (ne h id)]; exact h⟩
    · exact .inr h
end
/-! ### raise C(e), C's own __init__ sets one field -/
/-- what __init__ does -/
def Sets (c : Nat) (f : Str) (mi : List D → M D) : Prop := ∀ (d : D) (S : Sto), mi [.ref S.length, d] (S ++ [.exo c none]) = .ok .non (S ++ [.exo c (some (S.length + 1)), .exd [(f, d)]])
def raiseM (c : Nat) (f : Str) (m : Env → M D) : Env → M Fl := fun r S => match m r S with
  | .ok d S' => .err c [(f, d)] S'
  | .err c' fs S' => .err c' fs S'
  | .no => .no
def raise0M (c : Nat) : Env → M Fl := fun _ S => .err c [] S
theorem raise_to {K : PySem.W.Frag} {Γ : Nat → Addr} {E : XK} {c : Nat} {f : Str} {mi : List D → M D} {φ : List Addr} {S : Sto} {H : Hp} {d : D} {v : V} {y : Addr} (hmi : Sets c f mi) (s : Sim K Γ φ S H) (rv : RelD K H φ d v) (hy : H y = none)
    (p : ∀ φ' H' dx, Ext K φ H φ' H' → Sim K Γ φ' S H' → XdOk K H' φ' [(f, d)] dx → (∀ x, dx = some x → H x = none) → E (.ref (Γ c)) dx H') :
    spM K Γ 2 mi [.ref y, v] (upd H y (exo y (Γ c) none)) (fun w H2 => w = .non ∧ ∃ (dx : Addr) (fs : List (Str × V)), H2 y = some (exo y (Γ c) (some dx)) ∧ H2 dx = some (exd dx fs) ∧ H dx = none ∧ E (.ref (Γ c)) (some dx) (upd (del H2 y) dx (.xd fs))) EF := by
  have e : Ext K φ H (φ ++ [y]) (upd H y (exo y (Γ c) none)) := Ext.new hy
  have s2 : Sim K Γ (φ ++ [y]) (S ++ [.exo c none]) (upd H y (exo y (Γ c) none)) := s.new hy ⟨none, upd_same, True.intro⟩
  have hn : (φ ++ [y])[S.length]? = some y := by rw [← s.len, List.getElem?_append_right (Nat.le_refl _)]; simp
  refine ⟨rfl, φ ++ [y], S ++ [.exo c none], [.ref S.length, d], s2, .cons (.ref hn) (.cons (RelD.mono e _ _ rv) .nil), ?_⟩
  rw [hmi d S]
  intro φ' H' w e' s' r
  cases r
  refine ⟨rfl, ?_⟩
  have et := e.trans e'
  obtain ⟨t, rfl⟩ := e'.pre
  have hl : t.length = 1 := by
    have := s'.len
    simp only [List.length_append, List.length_cons, List.length_nil, s.len] at this
    omega
  match t, hl with
  | [dx], _ =>
    have hfy : (φ ++ [y] ++ [dx])[S.length]? = some y := by
      rw [List.getElem?_append_left (by simp [s.len])]
      exact hn
    have hfd : (φ ++ [y] ++ [dx])[S.length + 1]? = some dx := by
      rw [List.getElem?_append_right (by simp [s.len])]
      simp [s.len]
    obtain ⟨dx', h1, h2⟩ := s'.obj S.length (.exo c (some (S.length + 1))) y (by rw [List.getElem?_append_right (Nat.le_refl _)]; simp) hfy
    have ed : dx' = some dx := by
      cases dx' with
      | none => exact h2.elim
      | some x =>
        have h2' : (φ ++ [y] ++ [dx])[S.length + 1]? = some x := h2
        rw [hfd] at h2'
        cases h2'
        rfl
    subst ed
    obtain ⟨vs, h3, h4⟩ := s'.obj (S.length + 1) (.exd [(f, d)]) dx (by rw [List.getElem?_append_right (by omega)]; simp) hfd
    have ndx : ∀ (i : Nat) (b : Addr), φ[i]? = some b → b ≠ dx ∧ b ≠ y := fun i b hb => by
      have hi : i < S.length := by rw [← s.len]; exact (List.getElem?_eq_some_iff.mp hb).1
      have hb' : (φ ++ [y] ++ [dx])[i]? = some b := by
        rw [List.append_assoc, List.getElem?_append_left (List.getElem?_eq_some_iff.mp hb).1]
        exact hb
      refine ⟨fun z => ?_, fun z => ?_⟩
      · rw [z] at hb'
        have := s'.inj _ _ _ hb' hfd
        omega
      · rw [z] at hb'
        have := s'.inj _ _ _ hb' hfy
        omega
    have hd1 : H dx = none := by
      cases hz : H dx with
      | none => rfl
      | some u =>
        have nm : dx ∉ φ := fun hm => by
          obtain ⟨i, hi⟩ := List.getElem?_of_mem hm
          exact (ndx i dx hi).1 rfl
        exact absurd (List.mem_of_getElem? hfd) (et.hid dx u hz nm).2
    have hyd : dx ≠ y := fun z => by
      have := s'.inj _ _ _ (hfd.trans (congrArg some z)) hfy
      omega
    refine ⟨dx, vs, h1, h3, hd1, ?_⟩
    have k1 : Kp K H' (del H' y) := .del (by rw [h1]; exact True.intro)
    have k2 : Kp K (del H' y) (upd (del H' y) dx (.xd vs)) := .mut (by rw [del_ne hyd, h3]; exact True.intro)
    have k := k1.trans k2
    have same : ∀ b, b ≠ dx → b ≠ y → upd (del H' y) dx (.xd vs) b = H' b := fun b n1 n2 => by rw [upd_ne n1, del_ne n2]
    have sF : Sim K Γ φ S (upd (del H' y) dx (.xd vs)) := by
      refine ⟨s.len, s.inj, fun n o a z1 z2 => ?_⟩
      have hS : (S ++ [.exo c (some (S.length + 1)), .exd [(f, d)]])[n]? = some o := by
        rw [List.getElem?_append_left (List.getElem?_eq_some_iff.mp z1).1]
        exact z1
      have hq : (φ ++ [y] ++ [dx])[n]? = some a := by
        rw [List.append_assoc, List.getElem?_append_left (List.getElem?_eq_some_iff.mp z2).1]
        exact z2
      have b1 := s'.obj n o a hS hq
      rw [List.append_assoc] at b1
      have b2 : RelO K Γ H' φ a o := RelO.back (s.obj n o a z1 z2) b1
      obtain ⟨na, nb⟩ := ndx n a z2
      exact RelO.move k (fun u hu => by rw [same a na nb]; exact hu) b2
    have eF : Ext K φ H φ (upd (del H' y) dx (.xd vs)) := by
     refine ⟨⟨et.toKp.trans k, [], by simp⟩, fun b u hb nm => ?hid, fun b z => ?old⟩
     case hid =>
      obtain ⟨q1, q2⟩ := et.hid b u hb nm
      have n1 : b ≠ dx := fun z => q2 (by rw [z]; exact List.mem_of_getElem? hfd)
      have n2 : b ≠ y := fun z => q2 (by rw [z]; exact List.mem_of_getElem? hfy)
      exact ⟨by rw [same b n1 n2]; exact q1, nm⟩
     case old =>
      by_cases n1 : b = dx
      · rw [n1]; exact hd1
      · by_cases n2 : b = y
        · rw [n2]; exact hy
        · rw [same b n1 n2] at z
          exact et.old b z
    refine p φ _ (some dx) eF sF ⟨List.cons_ne_nil _ _, s.fresh hd1, vs, upd_same, ?_⟩ fun x hx => by cases hx; exact hd1
    cases h4 with
    | cons a b =>
      cases b
      refine .cons ⟨a.1, ?_⟩ .nil
      have a2 := a.2
      rw [List.append_assoc] at a2
      exact RelD.move k _ _ (RelD.back _ _ _ rv a2)
section
variable {X : Cx} {Γ : Nat → Addr} {E : XK} {e : Expr} {es : List Expr} {m : Env → M D} {k c : Nat} {f C : Addr} {fd : FuncData} {ps : List Str} {sp : Sp} {x fl : Str} {p pos pos' : Pos} {t : TE} {mi : List D → M D}
/-- an expression that makes one -/
theorem pmk_X (T : OexC X.K C) (iC : PySem.W.findIn X.K (.ref C) "__init__" = some (some (.ref f))) (tI : PySem.W.typeIn X.K (.ref f) = some (.type "function")) (F : FnG X.prog X.w X.K X.mg X.base CX0 k f fd ps sp) (hq : Quiet X.A) (hr : Room (k + 1) X.A) (hg : Gl X x) (hm : X.mg x = some (.ref C)) (hb : Binds X.K fd ps [])
    (ha : PE X e t) (hdb : (x == ("__debug__" : Str)) = false := by decide) (h1 : starEach [e] X.env = (false, eval e X.env) :: starEach [] X.env := by rfl) (h2 : (backTo pos (starEach [] X.env)).any (·.1) = false := by rfl) :
    L2N.PMk X (.Call (.Name x p) [e] [] pos) (fun σ H Q => t σ H fun v0 H1 => ∃ v, [v0] = [v] ∧ ∀ y, H1 y = none → sp [.ref y, v] (upd H1 y (exo y C none)) (fun w H2 => w = .non ∧ ∃ (d : Addr) (fs : List (Str × V)), H2 y = some (exo y C (some d)) ∧ H2 d = some (exd d fs) ∧ H1 d = none ∧ Q (.ref C) (some d) (upd (del H2 y) d (.xd fs))) EF) := by
  intro pins s σ H Q I h
  obtain ⟨nm, q, N, bs, bm, sn, sub, ab, col, dd, k0, k1, k2, k3, k5, hC, hbm⟩ := T.cls
  refine wpAny_Call_Name_kw (ld_glob I hg hm ?_ hdb)
  have hA : PA X [e] (tCons t tNil) := pa_cons ha pa_nil h1
  refine PySem.W.callWith_K (h₀ := X.base) I.ok.mod.kin T.kC (thn (hA.run pos pins s σ H (fun vs H1 => ∃ v, vs = [v] ∧ ∀ y, H1 y = none → sp [.ref y, v] (upd H1 y (exo y C none)) (fun w H2 => w = .non ∧ ∃ (d : Addr) (fs : List (Str × V)), H2 y = some (exo y C (some d)) ∧ H2 d = some (exd d fs) ∧ H1 d = none ∧ Q (.ref C) (some d) (upd (del H2 y) d (.xd fs))) EF) I ?_) fun us s1 z => ?_) h1 h2
  · exact h
  obtain ⟨vs, H1, I1, r1, v, ev, q1⟩ := z
  subst ev
  refine ⟨I1.kIn, ?_⟩
  obtain ⟨u, eu, ru⟩ := vals1 r1
  subst eu
  show wpAny _ _ (call (.ref C) [u]) _ _ _
  obtain ⟨hp, g, dr, tk, os⟩ := s1
  have hsz : hp.objs.size ≤ hp.objs.size + 1 := Nat.le_succ _
  have hn : H1 (hp.objs.size + 1) = none := I1.hok.fresh hsz
  have hw := q1 (hp.objs.size + 1) hn
  have kk : ∀ b o, hp.get? b = some o → ((hp.push (PySem.W.kdv_tup [u])).push (PySem.HandSPX.excO C hp.objs.size)).get? b = some o := fun b o e => Heap.get?_push_of_some _ (Heap.get?_push_of_some _ e)
  have hget : ((hp.push (PySem.W.kdv_tup [u])).push (PySem.HandSPX.excO C hp.objs.size)).get? (hp.objs.size + 1) = some (PySem.HandSPX.excO C hp.objs.size) := by heap_get
  have J : Inv X pins σ (upd H1 (hp.objs.size + 1) (exo (hp.objs.size + 1) C none)) ⟨(hp.push (PySem.W.kdv_tup [u])).push (PySem.HandSPX.excO C hp.objs.size), g, dr, tk, os⟩ :=
    I1.laid (t' := tk) (a := hp.objs.size + 1) (o := exo (hp.objs.size + 1) C none) (h' := (hp.push (PySem.W.kdv_tup [u])).push (PySem.HandSPX.excO C hp.objs.size)) kk hsz (exo_ok hget)
  have rr : Vals [V.ref (hp.objs.size + 1), v] [Value.ref (hp.objs.size + 1), u] := .cons rfl r1
  have hz : [Value.ref (hp.objs.size + 1), u].length = ps.length := F.few _ _ _ _ hw
  have b := hb _ [Value.ref (hp.objs.size + 1), u] J.kIn (by simpa using hz)
  rw [List.append_nil] at b
  have go := F.go (X.A.under (.builtin "type.__call__" ⟨.ref C :: [u], []⟩)) X.stack _ _ ⟨[Value.ref (hp.objs.size + 1), u], []⟩
    [Value.ref (hp.objs.size + 1), u] _ _ EF hq (hr.make C [u] []) (J.env0.make C [u] []) b rr hw
  refine wpAny_call (PySem.HandSPX.call_own PySem.F.excBase_ValueError (fun Y => PySem.HandSPX.refsVE_contains Y bm hbm) (I1.kIn _ _ hC) (PySem.W.looks_findIn I1.kIn iC) (fun self => PySem.W.bind_fn I1.kIn self tI) (by rw [sizeLine_eq]; simp)
    (codeAny_mono go fun res s' w => ?_))
  match res, w with
  | .error ev, w => exact (show False from w).elim
  | .ok (.ret u2), w =>
    obtain ⟨w2, H2, os2, bare2, un2, hok2, rv, ew, d, fs, ea, ed, hd1, q2⟩ := w
    subst ew
    obtain ⟨h2', g2, d2, t2, os'⟩ := s'
    obtain ⟨t0, G, J2, kG, ge, hoe, na⟩ := mk_end0 (d2 := d2) (t2 := t2) I1 hsz kk un2 hok2 os2 bare2 ea ed hd1
    exact ⟨rv, hp.objs.size + 1, _, _, ⟨G, g2, d2, t2, os'⟩, _, .ref C, some d, rfl, J2, kG, ge, hoe, ⟨rfl, rfl, fun vs hv => by cases hv; rfl⟩, rfl, rfl, na, rfl, bare2, raises_own T.exC T.tyC, q2⟩
end
section
variable {X : Cx} {Γ : Nat → Addr} {E : XK} {e : Expr} {m : Env → M D} {k c : Nat} {x fl : Str} {p pos pos' : Pos} {mi : List D → M D}
/-- raise C(e) -/
theorem rs_raise (hc : X.calm = true) (tk : L2N.Takes X (fun cls d _ H => E cls d H)) (C : CalleeX X.prog X.w X.K X.mg X.base Γ k c 2 mi) (T : XCls X.K (Γ c)) (gm : X.mg x = some (.ref (Γ c))) (hs : Sets c fl mi) (hq : Quiet X.A) (hr : Room (k + 1) X.A) (he : RE X Γ E e m)
    (hg : Gl X x := by rfl) (hdb : (x == ("__debug__" : Str)) = false := by decide) (h1 : starEach [e] X.env = (false, eval e X.env) :: starEach [] X.env := by rfl) (h2 : (backTo pos (starEach [] X.env)).any (·.1) = false := by rfl) :
    RS X Γ E (.Raise (some (.Call (.Name x p) [e] [] pos)) none pos') (raiseM c fl m) := by
  obtain ⟨f, fd, ps, F, iC, tI, b⟩ := C.ex
  refine PS.weaken (L2N.ps_raise hc tk (pmk_X T.oex iC tI F hq hr hg gm b he hdb h1 h2)) fun D σ H ⟨φ, r, S, s, q, p⟩ => ⟨φ, r, S, s, q, ?_⟩
  unfold raiseM at p
  cases hm : m r S with
  | ok d S1 =>
    simp only [hm] at p
    exact fun φ1 H1 v e1 s1 rv => ⟨v, rfl, fun y hy => raise_to hs s1 rv hy fun φ' H' dx e' s' x' z' => p φ' H' dx (e1.trans e') s' x' fun x y => e1.old x (z' x y)⟩
  | err c' fs S1 => simp only [hm] at p; exact p
  | no => simp only [hm] at p; exact p.elim
theorem pmk_X0 {C : Addr} {bmB : List Value} {B newId initId : String} (F : ExcBaseFacts B newId initId bmB) (q : PySem.W.excIn X.K C bmB newId = true) (gC : X.mg x = some (.ref C)) (kC : PySem.W.keepIn X.K (.ref C) = true) (r : Raises X (.ref C)) (hg : Gl X x) (hdb : (x == ("__debug__" : Str)) = false := by decide) :
    L2N.PMk X (.Call (.Name x p) [] [] pos) (fun _ H Q => Q (.ref C) none H) := by
  intro pins s σ H Q I h
  refine wpAny_Call_Name_kw (ld_glob I hg gC ?_ hdb)
  refine PySem.W.callWith_K0 (first := []) I.kIn kC ?_
  show wpAny _ _ (call (.ref C) []) _ _ _
  obtain ⟨bm, N, nm, qn, bs, hdct, sn, sub, ab, col, dd, k0, k1, k2, k3, k5, mN, hC, hN, hni, T⟩ := exc_obj I.kIn q
  exact wpAny_call_exc_subT F T hC hN hni (fun h' a hm => L2N.mk_of I hm r h (I.hok.gone hm.new)) (by show 0 ≤ sizeLine; exact Nat.zero_le _)
/-- raise C() -/
theorem rs_raise0 (hc : X.calm = true) (tk : L2N.Takes X (fun cls d _ H => E cls d H)) (q : PySem.W.excIn X.K (Γ c) [.type "ValueError", .type "Exception", .type "BaseException", .type "object"] "ValueError.__new__" = true) (T : XCls X.K (Γ c)) (gm : X.mg x = some (.ref (Γ c)))
    (hg : Gl X x := by rfl) (hdb : (x == ("__debug__" : Str)) = false := by decide) : RS X Γ E (.Raise (some (.Call (.Name x p) [] [] pos)) none pos') (raise0M c) := by
  refine PS.weaken (L2N.ps_raise hc tk (pmk_X0 PySem.F.excBase_ValueError q gm T.oex.kC (raises_own T.oex.exC T.oex.tyC) hg hdb)) fun D σ H ⟨φ, r, S, s, q, p⟩ => ?_
  exact p φ H none Ext.refl s rfl fun x y => by cases y
end

/-! try: .. except C as e: ..; the handled exception asked and read; defs that are handed it -/
open PySem PySem.Spec PyProof.Rows L2

/-- the handled exception stands, out of reach -/
structure Pin1 (X : Cx) (a C : Addr) (dd : Option Addr) : Prop where
  ex : ∃ oe, (a, oe) ∈ X.pn ∧ L2N.Zn (.ref C) dd oe ∧ ∃ vs, oe.data = .fields vs
/-! ### isinstance(e, C), e.f -/
def isxA (a : Addr) (dd : Option Addr) (c : Nat) (an : Nat → Option Bool) (d : D) : M D := fun S => match d with
  | .exc b x d' => if b = a ∧ d' = dd ∧ (dd.isSome = true → x.isSome = true) then (match an c with
    | some v => .ok (.bl v) S
    | none => .no) else .no
  | _ => .no
def isxAM (a : Addr) (dd : Option Addr) (c : Nat) (an : Nat → Option Bool) (m : Env → M D) : Env → M D := fun r => m r >>= isxA a dd c an
def xfldA (a : Addr) (dd : Option Addr) (c : Nat) (cs : List Nat) (f : Str) (d : D) : M D := fun S => match d with
  | .exc b (some k) d' => if b = a ∧ d' = dd ∧ c ∈ cs then (match S[k]? with
    | some (.xdo fs) => (match fs.lookup f with
      | some v => .ok v S
      | none => .no)
    | _ => .no) else .no
  | _ => .no
def xfldAM (a : Addr) (dd : Option Addr) (c : Nat) (cs : List Nat) (f : Str) (m : Env → M D) : Env → M D := fun r => m r >>= xfldA a dd c cs f
section
variable {X : Cx} {Γ : Nat → Addr} {E : XK} {e : Expr} {m : Env → M D} {f : Str} {pos p pT : Pos} {a : Addr} {dd : Option Addr} {c : Nat}
theorem sim_xdo {K : PySem.W.Frag} {φ : List Addr} {S : Sto} {H : Hp} {n : Nat} {x : Addr} {fs : List (Str × D)} (s : Sim K Γ φ S H) (hq : φ[n]? = some x) (h : S[n]? = some (.xdo fs)) : ∃ vs, H x = some (.xd vs) ∧ RelKv K H φ fs vs := s.obj n _ _ h hq
theorem pin_inst {pins : List (Addr × Obj)} {σ : Sl} {H : Hp} {s : Shared} {C : Addr} (P : Pin1 X a C dd) (I : Inv X pins σ H s) (hd : ∀ x, dd = some x → ∃ u, H x = some u) : ∃ ox od, PySem.W.InstAt s.heap a ox C od := by
  obtain ⟨oe, hm, hz, vs, hf⟩ := P.ex
  obtain ⟨ha, _⟩ := I.pin (a, oe) (List.mem_append_left _ hm)
  have hn : PySem.W.notCls oe = true := by unfold PySem.W.notCls; rw [hf] <;> rfl
  cases dd with
  | none => exact ⟨oe, none, ha, hz.1, hn, by rw [hz.2.1]; exact trivial⟩
  | some x =>
    obtain ⟨u, hu⟩ := hd x rfl
    obtain ⟨o, ho⟩ := objOk_get (I.hok x u hu)
    exact ⟨oe, some o, ha, hz.1, hn, by rw [hz.2.1]; exact ho⟩
def rIsA (X : Cx) (a C : Addr) (dd : Option Addr) : List V → Hp → VK → Prop := fun xs H Q => ∃ (c : V) (cv : Value) (b : Bool), xs = [.ref a, c] ∧ (∀ u, RelV c u → u = cv) ∧ XCls X.K C ∧ (∀ x, dd = some x → ∃ u, H x = some u) ∧ PySem.W.kitOne X.K (.ref C) cv = some b ∧ Q (.bl b) H
theorem call_isA {C : Addr} (P : Pin1 X a C dd) : CallR X (.builtin "isinstance") (rIsA X a C dd) := by
  intro pins s σ H xs us Q I r h
  obtain ⟨c, cv, b, rfl, hcv, T, hd, e, q⟩ := h
  obtain ⟨u1, u2, rfl, r1, r2⟩ := vals2 r
  obtain rfl : u1 = Value.ref a := r1
  obtain rfl := hcv _ r2
  obtain ⟨ox, od, J⟩ := pin_inst P I hd
  exact PySem.W.kia_one (PySem.W.kitx_exc T.cl T.xf.ga T.xf.gg T.xf.exC T.ha T.hn T.ht T.hm) I.kIn J e (fun z => nomatch z) fun tk => ⟨.bl b, H, I.tok _, rfl, q⟩
theorem isA_to {cv : Value} {cc : V} {an : Nat → Option Bool} (hcv : ∀ u, RelV cc u → u = cv) (han : ∀ n b, an n = some b → XCls X.K (Γ n) ∧ PySem.W.kitOne X.K (.ref (Γ n)) cv = some b) {φ : List Addr} {r : Env} {S : Sto} {σ : Sl} {H : Hp} {Q : VK} (s : Sim X.K Γ φ S H) (q : RelE X.K H φ r σ)
    (p : Post X.K Γ E (rD X.K) φ H (isxAM a dd c an m r S) Q) : tE X.K Γ E m σ H fun v H1 => rIsA X a (Γ c) dd [v, cc] H1 Q := by
  refine tE_bnd s q p fun φ1 S1 d v H1 e1 s1 q1 rv p1 => ?_
  unfold isxA at p1
  cases d with
  | exc b x d' =>
    cases rv with
    | exc hx =>
      simp only [] at p1
      by_cases hz : b = a ∧ d' = dd ∧ (dd.isSome = true → x.isSome = true)
      · rw [if_pos hz] at p1
        obtain ⟨rfl, rfl, hs⟩ := hz
        cases hA : an c with
        | none => simp only [hA] at p1; exact p1.elim
        | some v =>
          simp only [hA] at p1
          obtain ⟨T, k⟩ := han c v hA
          refine ⟨cc, cv, v, rfl, hcv, T, fun y hy => ?_, k, p1.here s1 (.bl v)⟩
          cases x with
          | none =>
            rw [hy] at hs
            exact absurd (hs rfl) Bool.false_ne_true
          | some k =>
            obtain ⟨z, h1, h2⟩ := hx k rfl
            rw [hy] at h1
            cases h1
            exact s1.stands (List.mem_of_getElem? h2)
      · rw [if_neg hz] at p1; exact p1.elim
  | _ => exact p1.elim
/-- isinstance(e, C), C an own class -/
theorem re_isA {an : Nat → Option Bool} {x : Str} {C : Addr} (P : Pin1 X a (Γ c) dd) (han : ∀ n b, an n = some b → XCls X.K (Γ n) ∧ PySem.W.kitOne X.K (.ref (Γ n)) (.ref C) = some b) (he : RE X Γ E e m) (hg : Gl X "isinstance") (hm : X.mg "isinstance" = none) (hgT : Gl X x) (hmT : X.mg x = some (.ref C)) (hdb : (x == ("__debug__" : Str)) = false := by decide)
    (h1 : starEach [e, .Name x pT] X.env = (false, eval e X.env) :: starEach [.Name x pT] X.env := by rfl) (h2 : (backTo pos (starEach [.Name x pT] X.env)).any (·.1) = false := by rfl)
    (h3 : starEach [.Name x pT] X.env = [(false, eval (.Name x pT) X.env)] := by rfl) : RE X Γ E (.Call (.Name "isinstance" p) [e, .Name x pT] [] pos) (isxAM a dd c an m) := by
  have hb : PE X (.Name x pT) (tC (.ref C)) := pe_glob hgT hmT rfl hdb
  exact PE.weaken (pe_callB (call_isA P) hg hm (by decide +kernel) (pa_cons he (pa_cons hb pa_nil h3) h1) (by decide) (by decide) h1 h2) fun σ H Q ⟨φ, r, S, s, q, p⟩ => isA_to (cc := .ref C) (cv := .ref C) (fun u ru => ru) han s q p
/-- isinstance(e, T), T a built-in class -/
theorem re_isAT {an : Nat → Option Bool} {x : Str} {T : String} (P : Pin1 X a (Γ c) dd) (han : ∀ n b, an n = some b → XCls X.K (Γ n) ∧ PySem.W.kitOne X.K (.ref (Γ n)) (.type T) = some b) (he : RE X Γ E e m) (hg : Gl X "isinstance") (hm : X.mg "isinstance" = none) (hgT : Gl X x) (hmT : X.mg x = none) (hbt : bootBuiltins x = some (.type T)) (hxn : x ≠ "__name__" := by decide) (hdb : (x == ("__debug__" : Str)) = false := by decide)
    (h1 : starEach [e, .Name x pT] X.env = (false, eval e X.env) :: starEach [.Name x pT] X.env := by rfl) (h2 : (backTo pos (starEach [.Name x pT] X.env)).any (·.1) = false := by rfl)
    (h3 : starEach [.Name x pT] X.env = [(false, eval (.Name x pT) X.env)] := by rfl) : RE X Γ E (.Call (.Name "isinstance" p) [e, .Name x pT] [] pos) (isxAM a dd c an m) := by
  have hb : PE X (.Name x pT) (tC (.ty T)) := pe_bltn hgT hmT hbt rfl hxn hdb
  exact PE.weaken (pe_callB (call_isA P) hg hm (by decide +kernel) (pa_cons he (pa_cons hb pa_nil h3) h1) (by decide) (by decide) h1 h2) fun σ H Q ⟨φ, r, S, s, q, p⟩ => isA_to (cc := .ty T) (cv := .type T) (fun u ru => ru) han s q p
/-- e.f -/
theorem pe_xfP {te : TE} {C : Addr} (P : Pin1 X a C dd) (he : PE X e te) (hb : attributeBase e f X.env (eval e X.env) = eval e X.env := by rfl) :
    PE X (.Attribute e f pos) (fun σ H Q => te σ H fun x H1 => ∃ (dx : Addr) (fs : List (Str × V)) (v : V), x = .ref a ∧ dd = some dx ∧ XfC X.K C ∧ NoF X.K C f ∧ H1 dx = some (.xd fs) ∧ fs.lookup f = some v ∧ Q v H1) := by
  refine ⟨fun pins s σ H Q I h => attr_of hb (thn (he.run pins s σ H _ I h) fun u s1 hh => ?_)⟩
  obtain ⟨x, H1, I1, rx, dx, fs, v, ex, ed, T, hno, ea, l, q⟩ := hh
  subst ex
  obtain rfl : u = Value.ref a := rx
  subst ed
  obtain ⟨oe, hm, hz, vs, hf⟩ := P.ex
  obtain ⟨ha, _⟩ := I1.pin (a, oe) (List.mem_append_left _ hm)
  have hx : ObjOk X.prog X.w H1 s1.heap dx (.xd fs) := I1.hok dx _ ea
  obtain ⟨mA, hns, hr⟩ := hx
  obtain ⟨od, ho, hl⟩ := lookIn_ns hns
  obtain ⟨u, hu, ru⟩ := RelO.some_of (v := v) (o := mA f) (by rw [← l]; exact hr f)
  have J : PySem.W.InstAt s1.heap a oe C (some od) := ⟨ha, hz.1, by unfold PySem.W.notCls; rw [hf] <;> rfl, by rw [hz.2.1]; exact ho⟩
  exact HandSPX.exc_get I1.kIn J T.ga T.gg T.exC (PySem.W.findObj_own T.hdC hno rfl (by rw [hl, hu])) (handed_of ru) ⟨v, H1, I1.tok _, ru, q⟩
theorem re_xfldA {cs : List Nat} (P : Pin1 X a (Γ c) dd) (hc : ∀ c ∈ cs, XfC X.K (Γ c) ∧ NoF X.K (Γ c) f) (he : RE X Γ E e m) (hb : attributeBase e f X.env (eval e X.env) = eval e X.env := by rfl) : RE X Γ E (.Attribute e f pos) (xfldAM a dd c cs f m) := by
  refine PE.weaken (pe_xfP P he hb) fun σ H Q ⟨φ, r, S, s, q, p⟩ => ?_
  refine tE_bnd s q p fun φ1 S1 d v H1 e1 s1 q1 rv p1 => ?_
  unfold xfldA at p1
  cases d with
  | exc b x d' =>
    cases rv with
    | exc hx =>
      cases x with
      | none => exact p1.elim
      | some k =>
        simp only [] at p1
        by_cases hz : b = a ∧ d' = dd ∧ c ∈ cs
        · rw [if_pos hz] at p1
          obtain ⟨rfl, rfl, hs⟩ := hz
          obtain ⟨z, h1, h2⟩ := hx k rfl
          cases hS : S1[k]? with
          | none => simp only [hS] at p1; exact p1.elim
          | some u =>
            cases u with
            | xdo fs =>
              simp only [hS] at p1
              obtain ⟨vs, h3, h4⟩ := sim_xdo s1 h2 hS
              cases hl : fs.lookup f with
              | none => simp only [hl] at p1; exact p1.elim
              | some d' =>
                simp only [hl] at p1
                obtain ⟨w, h5, h6⟩ := (relKv_lookup h4).1 d' hl
                exact ⟨z, vs, w, rfl, h1, (hc c hs).1, (hc c hs).2, h3, h5, p1.here s1 h6⟩
            | _ => simp only [hS] at p1; exact p1.elim
        · rw [if_neg hz] at p1; exact p1.elim
  | _ => exact p1.elim
end
/-! ### a def that is handed the handled exception -/
structure FnP (P : Program) (w : World) (K : PySem.W.Frag) (mg : Str → Option Value) (base : Heap) (k : Nat) (f : Addr) (fd : FuncData) (ps : List Str) (sp : Sp) (q : Addr × Obj) : Prop where
  few : ∀ vs H Q E, sp vs H Q E → vs.length = ps.length
  go : ∀ (A : Around) (fr : List PySem.Env) (s : Shared) (H : Hp) (args : Args) (us : List Value) (vs : List V) (Q : VK) (E : XK), L2H.RoomH k A → L2H.Hot1 A q → L2H.PinOk fr H s q → Env0 P w K mg base A fr s H → BindsTo s fd args (ps.zip us) → Vals vs us → sp vs H Q E →
    codeAny (model P w) A (.call (.ref f) args) (CR CX0 fr P w H s Q E) s
section
variable {P : Program} {w : World} {K : PySem.W.Frag} {mg : Str → Option Value} {base : Heap} {Γ : Nat → Addr} {k : Nat} {f : Addr} {fd : FuncData} {ps : List Str} {nm qual : Str} {st : Stmt} {N : List Str} {q : Addr × Obj}
theorem fn_okP {m : Env → M Fl} (F : Fun K nm qual st f fd) (sc : FnScope N ps (defScope st))
    (hbody : ∀ (cdv : Value) (A : Around) (fr : List PySem.Env) (s : Shared) (H : Hp) (E : XK), L2H.RoomH k (A.deeper (envOfC qual (defScope st) s.heap.objs.size f cdv)) → RSs (L2H.cxH CX0 P w K mg base N qual (defScope st) f cdv A fr s H E q) Γ E (defBody st) m) :
    FnP P w K mg base (k + 1) f fd ps (spM K Γ ps.length (fnM N.length m)) q := by
  obtain ⟨oc, od, kV, doc, pm, an, cdv, ct, osl, rfl, lk, hcd⟩ := F.ex
  refine ⟨fun vs H Q E h => h.1, fun A fr s H args us vs Q E hr hot hpin e0 hb r hsp => ?_⟩
  have hl := hsp.1
  have hkind : ∀ y ∈ ps.zip us, (defScope st).names.lookup y.1 = some .local ∨ ((defScope st).names.lookup y.1 = some .cell ∧ ((cellsFrom (s.heap.objs.size + 1) (defScope st).names []).lookup y.1).isSome = true) := by
    rintro ⟨z, v⟩ hy
    exact (sc.par z (List.of_mem_zip hy).1).imp id fun q => ⟨q, PySem.W.cellsFrom_some _ _ _ (.inl q)⟩
  have lim : s.heap.NoLimit := e0.mod.nolimit.keeps fun b o z => (e0.bs b o z).1
  have KX : K.In s.heap := e0.mod.kin.keeps fun b o z => (e0.bs b o z).1
  refine codeAny_call_function hr.depth (KX _ _ lk) rfl sc.co sc.gen rfl (PySem.W.codeRec_of KX hcd) (hb _ _ _ _ (wpAny_newFunctionEnv_cells sc.kind hkind fun env he s1 x => ?_))
  subst he
  refine ⟨lim.keeps x.toInCall.keep, codeAny_func ?_⟩
  obtain ⟨_, φ, S, ds, sm, rv, p⟩ := hsp
  refine wpAny_mono ((hbody cdv A fr s H E (hr.deeper _)).run [] s1 (L2.start N vs) H { nx := fun _ H' => Q .non H', rt := Q } (L2H.inv_startH sc hpin e0 hl r x) ⟨φ, _, S, sm, relE_start N rv, (Post.bnd (rel := rF K) p).imp fun fv H1 ⟨φ1, S1, fl, e1, s1, rf, p1⟩ => ?_⟩) (fun fl s' hs => ?_) fun _ _ hs => hs
  · cases rf with
    | nx q => exact p1.val (v := V.non) s1 .non
    | rt rv => exact p1.val s1 rv
    | bk q => exact p1.elim
    | ct q => exact p1.elim
  have done : ∀ {σ' : Sl} {H' : Hp} {v : V} {u : Value}, Inv (L2H.cxH CX0 P w K mg base N qual (defScope st) f cdv A fr s H E q) [] σ' H' s' → RelV v u → Q v H' → CE fr P w H s Q u s' := fun {σ' H' v u} J rv q => ⟨v, H', J.os, J.bare, J.base, J.hok, rv, q⟩
  cases fl with
  | ret u =>
    obtain ⟨v, σ', H', J, rv, q⟩ := hs
    exact done J rv q
  | next =>
    obtain ⟨σ', H', J, q⟩ := hs
    exact done (v := V.non) (u := Value.none) J rfl q
  | brk =>
    obtain ⟨_, _, _, q⟩ := hs
    exact False.elim q
  | cont =>
    obtain ⟨_, _, _, q⟩ := hs
    exact False.elim q
/-- such a def by its name -/
structure CalleeP (P : Program) (w : World) (K : PySem.W.Frag) (mg : Str → Option Value) (base : Heap) (Γ : Nat → Addr) (k : Nat) (nm : Str) (n : Nat) (mf : List D → M D) (q : Addr × Obj) : Prop where
  ex : ∃ (f : Addr) (fd : FuncData) (ps : List Str), FnP P w K mg base k f fd ps (spM K Γ n mf) q ∧ mg nm = some (.ref f) ∧ PySem.W.keepIn K (.ref f) = true ∧ Binds K fd ps []
theorem calleeP_mk {m : Env → M Fl} (D : DefOk K mg nm qual st ps) (sc : FnScope N ps (defScope st))
    (hbody : ∀ (f : Addr) (cdv : Value) (A : Around) (fr : List PySem.Env) (s : Shared) (H : Hp) (E : XK), L2H.RoomH k (A.deeper (envOfC qual (defScope st) s.heap.objs.size f cdv)) → RSs (L2H.cxH CX0 P w K mg base N qual (defScope st) f cdv A fr s H E q) Γ E (defBody st) m) :
    CalleeP P w K mg base Γ (k + 1) nm ps.length (fnM N.length m) q := by
  obtain ⟨f, fd, F, g, b⟩ := D.ex
  exact ⟨⟨f, fd, ps, fn_okP F sc fun cdv A fr s H E hr => hbody f cdv A fr s H E hr, g, F.kp, b⟩⟩
end
section
variable {X : Cx} {Γ : Nat → Addr} {E : XK} {e : Expr} {es : List Expr} {mA : Env → M (List D)} {pos p : Pos} {k n : Nat} {x : Str} {mf : List D → M D} {q : Addr × Obj} {f : Addr} {fd : FuncData} {ps : List Str} {sp : Sp}
theorem call_P {pins : List (Addr × Obj)} {σ : Sl} {H : Hp} {s : Shared} {Q : VK} {us : List Value} {vs : List V} (F : FnP X.prog X.w X.K X.mg X.base k f fd ps sp q) (hr : L2H.RoomH k X.A) (hot : L2H.Hot1 X.A q) (hm : q ∈ X.pn) (hb : Binds X.K fd ps [])
    (I : Inv X pins σ H s) (r : Vals vs us) (h : sp vs H Q E) : wpAny (model X.prog X.w) X.A (call (.ref f) us) (EP X pins σ Q) X.xe s := by
  have b := hb s us I.kIn (by rw [List.append_nil, ← r.length]; exact F.few _ _ _ _ h)
  rw [List.append_nil] at b
  have P1 := I.pin q (List.mem_append_left _ hm)
  have hpin : L2H.PinOk X.stack H s q := ⟨P1.1, P1.2.1, fun z => (List.mem_cons.mp (I.stkSub q.1 z)).elim P1.2.2.1 P1.2.2.2.1, P1.2.2.2.2⟩
  refine wpAny_call (codeAny_mono (F.go X.A X.stack s H ⟨us, []⟩ us vs Q E hr hot hpin I.env0 b r h) fun res s' z => ?_)
  match res, z with
  | .error ev, z => exact (show False from z).elim
  | .ok (.ret u), z => exact I.after z
theorem re_callP (C : CalleeP X.prog X.w X.K X.mg X.base Γ k x n mf q) (hr : L2H.RoomH k X.A) (hot : L2H.Hot1 X.A q) (hq : q ∈ X.pn) (ha : RA X Γ E (e :: es) mA) (hl : ∀ r S ds S', mA r S = .ok ds S' → ds.length = n) (hg : Gl X x := by rfl) (hdb : (x == ("__debug__" : Str)) = false := by decide)
    (he : starEach (e :: es) X.env = (false, eval e X.env) :: starEach es X.env := by rfl) (hpl : (backTo pos (starEach es X.env)).any (·.1) = false := by rfl) : RE X Γ E (.Call (.Name x p) (e :: es) [] pos) (clM mf mA) := by
  obtain ⟨f, fd, ps, F, g, kp, b⟩ := C.ex
  refine PE.weaken (t := fun σ H Q => tA X.K Γ E mA σ H fun vs H1 => spM X.K Γ n mf vs H1 Q E) ⟨fun pins s σ H Q I h => wpAny_Call_Name_kw (ld_glob I hg g ?_ hdb)⟩ fun σ H Q ⟨φ, r, S, s, q, p⟩ => sp_of hl s q p
  refine PySem.W.callWith_K (h₀ := X.base) I.ok.mod.kin kp (thn (ha.run pos pins s σ H _ I h) fun us s1 z => ?_) he hpl
  obtain ⟨vs, H1, I1, r, q1⟩ := z
  exact ⟨I1.kIn, call_P F hr hot hq b I1 r q1⟩
end
theorem roomP_eq {k : Nat} {A : Around} (hr : L2H.RoomH k A) : A.units + 64 < cLine := by have := hr.un; omega
theorem roomP_in {k : Nat} {A : Around} (hr : L2H.RoomH k A) : A.units + 65 < cLine := by have := hr.un; omega
theorem roomP_re {k : Nat} {A : Around} (hr : L2H.RoomH k A) : A.units + 100 < cLine := by have := hr.un; omega
theorem roomP_1 {k : Nat} {A : Around} (hr : L2H.RoomH k A) : A.units + 1 < cLine := by have := hr.un; omega
/-! ### try -/
def ddOf (fs : List (Str × D)) (x : Addr) : Option Addr := match fs with
  | [] => none
  | _ => some x
def hSlot (fs : List (Str × D)) (a x : Addr) (n : Nat) : D := match fs with
  | [] => .exc a none none
  | _ => .exc a (some n) (some x)
def hSto (fs : List (Str × D)) (S : Sto) : Sto := match fs with
  | [] => S
  | _ => S ++ [.xdo fs]
/-- the suite's run, whatever the exception's places -/
def HRun (n i c : Nat) (fs : List (Str × D)) (S : Sto) (hd : Addr → Nat → Option Addr → Env → M Fl) (d : D) (S' : Sto) : Prop :=
  ∀ a x, hd a c (ddOf fs x) ((List.replicate n none).set i (some (hSlot fs a x S.length))) (hSto fs S) = .ok (.rt d) S'
open Classical in
noncomputable def tryM (out : Bool) (n i : Nat) (ca : Nat → Option Bool) (body : Env → M Fl) (hd : Addr → Nat → Option Addr → Env → M Fl) : Env → M Fl := fun r S => match body r S with
  | .ok f S' => .ok f S'
  | .no => .no
  | .err c fs S' => match ca c with
    | some true => if h : ∃ p : D × Sto, HRun n i c fs S' hd p.1 p.2 then .ok (.rt h.choose.1) h.choose.2 else .no
    | some false => if out = true then .err c fs S' else .no
    | none => .no
section
variable {n i : Nat} {ca : Nat → Option Bool} {body : Env → M Fl} {hd : Addr → Nat → Option Addr → Env → M Fl} {out : Bool} {r : Env} {S S1 : Sto}
theorem tryM_ok {f : Fl} (h : body r S = .ok f S1) : tryM out n i ca body hd r S = .ok f S1 := by
  unfold tryM
  rw [h]
theorem hrun_eq {c : Nat} {fs : List (Str × D)} {d d' : D} {S' S'' : Sto} (h : HRun n i c fs S hd d S') (h' : HRun n i c fs S hd d' S'') : d' = d ∧ S'' = S' := by
  have e := (h' 0 0).symm.trans (h 0 0)
  cases e
  exact ⟨rfl, rfl⟩
theorem tryM_err {c : Nat} {fs : List (Str × D)} {d : D} {S' : Sto} (h : body r S = .err c fs S1) (hc : ca c = some true) (q : HRun n i c fs S1 hd d S') : tryM out n i ca body hd r S = .ok (.rt d) S' := by
  unfold tryM
  simp only [h, hc]
  have ex : ∃ p : D × Sto, HRun n i c fs S1 hd p.1 p.2 := ⟨(d, S'), q⟩
  rw [dif_pos ex]
  obtain ⟨e1, e2⟩ := hrun_eq q ex.choose_spec
  rw [e1, e2]
end
section
variable {X : Cx} {Γ : Nat → Addr} {E : XK} {x nm : Str} {C : Value} {i : Nat} {body suite : List Stmt} {b₀ : Stmt} {np pos pos' : Pos} {mb : Env → M Fl} {hd : Addr → Nat → Option Addr → Env → M Fl} {ca : Nat → Option Bool} {out : Bool}
theorem relE_none {K : PySem.W.Frag} {H : Hp} {φ : List Addr} {n : Nat} {σ : Sl} (h : σ.length = n) : RelE K H φ (List.replicate n none) σ := ⟨by simp [h], fun i d e => by
  rw [List.getElem?_replicate] at e
  split at e <;> cases e⟩
theorem rs_try (hs : X.stack = X.env :: X.outer) (hf : X.env.frame = some X.env.locals) (hN : X.N.Nodup) (hi : X.N[i]? = some nm) (hln : X.env.kindOf nm = some .local) (hc : Names X x C) (tk : out = true → L2N.Takes X (fun cls d _ H => E cls d H))
    (hca : ∀ c b, ca c = some b → PySem.W.exmOne X.K (.ref (Γ c)) C = some b)
    (hb : ∀ (E' : XK) (pn : List (Addr × Obj)) (xe : Value → Shared → Prop), Passes (CXL X.prog X.w) (X.tr pn xe) E' → PassesOwn (model X.prog X.w) X.A X.env xe → RSs (X.tr pn xe) Γ E' body mb)
    (hh : ∀ (a : Addr) (oe : Obj) (c : Nat) (d : Option Addr) (pn : List (Addr × Obj)), Pin1 (X.suite a ((a, oe) :: pn)) a (Γ c) d → L2H.Hot1 (X.suite a ((a, oe) :: pn)).A (a, oe) → L2N.Zn (.ref (Γ c)) d oe → (∃ vs, oe.data = .fields vs) → RSs (X.suite a ((a, oe) :: pn)) Γ EF (b₀ :: suite) (hd a c d)) :
    RS X Γ E (.Try body [.ExceptHandler (some (.Name x np)) (some nm) (b₀ :: suite) pos'] [] [] pos) (tryM out X.N.length i ca mb hd) := by
  have tk' : L2N.Takes X (fun cls d _ H => out = true ∧ E cls d H) := fun u s' z => by
    cases out with
    | true => exact L2N.Takes.imp (tk rfl) (fun _ _ _ _ h => h.2) u s' z
    | false =>
      obtain ⟨_, _, _, _, _, _, _, _, _, _, _, _, _, _, _, _, h, _⟩ := z
      cases h
  refine PS.weaken (L2N.ps_try_as (tb := fun W => tS X.K Γ (fun cls d H => ∀ σ : Sl, σ.length = X.N.length → W cls d σ H) mb) (ts := fun a cls d D σ H => ∃ c, cls = .ref (Γ c) ∧ tS X.K Γ EF (hd a c d) D σ H) hs hf hN hi hln hc tk' (fun W pn xe tkW po => ?_) (fun a oe cls d pn hz hfl => ?_)) fun D σ H ⟨φ, r, S, s, q, p⟩ => ?_
  · exact hb _ pn xe (passW tkW fun cls d σ H hl h => h σ hl) po
  · refine ⟨fun pins s σ H D I ⟨c, ec, h⟩ => ?_⟩
    subst ec
    obtain ⟨vs, hv⟩ := hfl
    exact (hh a oe c d pn ⟨⟨oe, List.mem_cons_self, hz, vs, hv⟩⟩ ⟨rfl, vs, hv, hz.2.2 vs hv⟩ hz ⟨vs, hv⟩).run pins s σ H D I h
  · refine ⟨φ, r, S, s, q, ?_⟩
    unfold tryM at p
    cases hm : mb r S with
    | ok f S1 => simp only [hm] at p; exact p
    | no => simp only [hm] at p; exact p.elim
    | err c fs S1 =>
      simp only [hm] at p
      intro φ1 H1 dx e1 s1 xd hx σ1 hl
      cases hA : ca c with
      | none => simp only [hA] at p; exact p.elim
      | some b =>
        refine ⟨b, hca c b hA, fun hb1 a ha => ?_, fun hb0 => ?_⟩
        · subst hb1
          simp only [hA] at p
          split at p
          · rename_i ex
            have hR := ex.choose_spec
            refine ⟨c, rfl, ?_⟩
            cases fs with
            | nil =>
              have edx : dx = none := by
                cases dx with
                | none => rfl
                | some x => exact absurd rfl xd.1
              subst edx
              have qs : RelD X.K H1 φ1 (DL.D.exc a none none) (.ref a) := .exc fun k hk => by cases hk
              refine ⟨φ1, _, S1, s1, (relE_none hl).set i qs, ?_⟩
              rw [show hd a c none ((List.replicate X.N.length none).set i (some (DL.D.exc a none none))) S1 = _ from hR a 0]
              intro φ3 H3 fv e3 s3 rf
              have := p φ3 H3 fv (e1.trans e3) s3 rf
              cases rf
              exact this
            | cons f0 fs0 =>
              cases dx with
              | none => cases xd
              | some x =>
                obtain ⟨_, nx, vs, h1, h2⟩ := xd
                have gr : Gr X.K φ1 H1 (φ1 ++ [x]) H1 := ⟨.refl, [x], rfl⟩
                have s2 : Sim X.K Γ (φ1 ++ [x]) (S1 ++ [.xdo (f0 :: fs0)]) H1 := s1.unhide nx ⟨vs, h1, RelKv.mono gr h2⟩ (.inl gr)
                have hn : (φ1 ++ [x])[S1.length]? = some x := by rw [← s1.len, List.getElem?_append_right (Nat.le_refl _)]; simp
                have e2 : Ext X.K φ H (φ1 ++ [x]) H1 := by
                  obtain ⟨t, ht⟩ := e1.pre
                  refine ⟨⟨e1.toKp, t ++ [x], by rw [ht, List.append_assoc]⟩, fun b u hb nb => ?_, e1.old⟩
                  obtain ⟨z1, z2⟩ := e1.hid b u hb nb
                  refine ⟨z1, fun z => ?_⟩
                  rcases List.mem_append.mp z with z | z
                  · exact z2 z
                  · have zz : b = x := by simpa using z
                    rw [zz, hx x rfl] at hb
                    cases hb
                have qs : RelD X.K H1 (φ1 ++ [x]) (DL.D.exc a (some S1.length) (some x)) (.ref a) := .exc fun k hk => by cases hk; exact ⟨x, rfl, hn⟩
                refine ⟨φ1 ++ [x], _, _, s2, (relE_none hl).set i qs, ?_⟩
                rw [show hd a c (some x) ((List.replicate X.N.length none).set i (some (DL.D.exc a (some S1.length) (some x)))) (S1 ++ [.xdo (f0 :: fs0)]) = _ from hR a x]
                intro φ3 H3 fv e3 s3 rf
                have := p φ3 H3 fv (e2.trans e3) s3 rf
                cases rf
                exact this
          · exact p.elim
        · subst hb0
          simp only [hA] at p
          split at p
          · rename_i ho
            exact ⟨ho, p φ1 H1 dx e1 s1 xd hx⟩
          · exact p.elim
end

/-! len(set(texts)) -/
open PySem PySem.Spec PyProof.Rows L2

/-- the texts met, each once -/
def addS (acc : List Str) (x : Str) : List Str := if acc.any (· == x) = true then acc else acc ++ [x]
def metS (xs : List Str) (i : Nat) : List Str := (xs.take i).foldl addS []
theorem metS_succ {xs : List Str} {i : Nat} (h : i < xs.length) : metS xs (i + 1) = addS (metS xs i) (xs.getD i Str.empty) := by
  unfold metS
  rw [List.take_succ, List.foldl_append, List.getElem?_eq_getElem h]
  simp [List.getD, List.getElem?_eq_getElem h]
theorem addS_any (acc : List Str) (x y : Str) : (addS acc x).any (· == y) = (acc.any (· == y) || decide (y = x)) := by
  unfold addS
  split
  · rename_i h
    by_cases e : y = x
    · rw [e, h]; rfl
    · rw [decide_eq_false e, Bool.or_false]
  · rw [List.any_append]
    by_cases e : y = x
    · rw [e]; simp
    · rw [decide_eq_false e]
      simp only [List.any_cons, List.any_nil, Bool.or_false]
      rw [show (x == y) = false from beq_eq_false_iff_ne.mpr fun z => e z.symm]
      simp
theorem addS_len (acc : List Str) (x : Str) : (addS acc x).length = if acc.any (· == x) then acc.length else acc.length + 1 := by
  unfold addS
  split <;> simp
theorem metS_le (xs : List Str) : ∀ i, (metS xs i).length ≤ i
  | 0 => by simp [metS]
  | i + 1 => by
    by_cases h : i < xs.length
    · rw [metS_succ h, addS_len]
      have := metS_le xs i
      split <;> omega
    · have e : metS xs (i + 1) = metS xs i := by
        unfold metS
        rw [List.take_of_length_le (by omega), List.take_of_length_le (by omega)]
      rw [e]
      have := metS_le xs i
      omega
section
variable {prog : Program} {w : World} {A : Around} {R : Result → Shared → Prop} {I : Addr} {fp wr : List Addr} {G : Array GenState → Array GenState → Prop} {n : Nat} {P : Nat → Value → Prop} {St : Nat → Shared → Prop}
/-- what the set holds behind i turns -/
abbrev HoldS (prog : Program) (w : World) (h : Heap) (B : Addr) (xs : List Str) (i : Nat) : Prop := h.SetOf (PySem.strKind prog w) B (fun y => (metS xs i).any (· == y)) (metS xs i).length
theorem set_turns (T : WalksS prog w A.in1 I fp wr G n P St) (B : Addr) (nB : B ∉ fp) (xs : List Str) (hx : xs.length = n) (room : n + 1 < scanBound) (val : ∀ i v, P i v → ∃ t, v = .str (xs.getD i Str.empty) t) :
    ∀ (left i : Nat) (s : Shared), i + left = n → St i s → HoldS prog w s.heap B xs i → (∀ s', Moved (B :: wr) G s s' → HoldS prog w s'.heap B xs n → R (.ok (.ret .none)) s') →
      codeAny (model prog w) A (.builtin "set.update.loop" ⟨[.ref B, .ref I], []⟩) R s := by
  have nW : B ∉ wr := fun z => nB (T.sub _ z)
  have up : ∀ b ∈ wr, b ∈ B :: wr := fun b => List.mem_cons_of_mem _
  have still : ∀ {s s' : Shared} {i : Nat}, Moved wr G s s' → HoldS prog w s.heap B xs i → HoldS prog w s'.heap B xs i := fun {s s' i} m ⟨o, es, ep, tb, ho, q⟩ => ⟨o, es, ep, tb, m.heap B _ nW ho, q⟩
  have body : ∀ {s : Shared}, wpAny (model prog w) A.in1 (Builtin.«set.update.loop» ⟨[.ref B, .ref I], []⟩) (fun e s' => match e with
      | .done r => R (.ok r) s'
      | .again c => c.quiet = true ∧ codeAny (model prog w) A c R s') (fun e s' => R (.error e) s') s → codeAny (model prog w) A (.builtin "set.update.loop" ⟨[.ref B, .ref I], []⟩) R s := fun {s} h => by
    refine codeAny_builtin (PyProof.Rows.F.entry_set_update_loop) ?_; rw [Around.under_plainId (PyProof.Rows.F.plain_set_update_loop) _]
    exact h
  intro left
  induction left with
  | zero =>
    intro i s hi st hS fin
    obtain rfl : i = n := hi
    refine body ?_
    show wpAny _ A.in1 (pyNext (.ref I) >>= _) _ _ _
    refine wpAny_bind (T.done s _ _ st fun s2 m => ?_)
    exact wpAny_pure (fin s2 (m.mono up) (still m hS))
  | succ left ih =>
    intro i s hi st hS fin
    have lt : i < n := by omega
    refine body ?_
    show wpAny _ A.in1 (pyNext (.ref I) >>= _) _ _ _
    refine wpAny_bind (T.item i s _ _ lt st fun v s2 p st2 m => ?_)
    obtain ⟨t, ev⟩ := val i v p
    subst ev
    have hS2 := still m hS
    refine wpAny_bind (wpAny_holding (wpAny_holding (wpAny_bind ((PySem.strKind prog w).pyHash (k := xs.getD i Str.empty) (strKind_is _ _ _ _) ?_))))
    have le := metS_le xs i
    refine wpAny_setAddHashed_of (knd := PySem.strKind prog w) (s := { s2 with toks := s2.toks + 1 }) (strKind_is _ _ _ _) rfl hS2 (by omega) fun h2 sb hS3 => ?_
    have hS4 : HoldS prog w h2 B xs (i + 1) := by
      refine SetOf_congr hS3 (fun y => ?_) ?_
      · rw [metS_succ (by omega), addS_any]
      · rw [metS_succ (by omega), addS_len]
    refine wpAny_pure ⟨plainId_quiet (PyProof.Rows.F.plain_set_update_loop) _, ih (i + 1) _ (by omega) (T.frame _ s2 _ _ st2 (Nat.le_succ _) fun b hb o e => ?_) hS4 fun s3 m3 hS5 => fin s3 (Moved.trans T.gtrans ((m.mono up).then_heap (Nat.le_succ _) fun b o hb e => ?_) m3) hS5⟩
    · exact (sb.2 b fun z : b = B => nB (z ▸ hb)).trans e
    · exact (sb.2 b fun z : b = B => hb (by rw [z]; exact List.mem_cons_self)).trans e
end
section
variable {prog : Program} {w : World} {A : Around} {E : Value → Shared → Prop} {s : Shared}
def setO (led : Bool) : Obj := { cls := .type "set", dict := none, data := .set #[] 0 (.fresh 0 0 led) }
/-- set(l), l a list of texts -/
theorem set_texts {l : Addr} {items : Array Value} {xs : List Str} {Q : Value → Shared → Prop} (hh : A.handled = none) (hl : s.heap.IsList l items) (hi : PyProof.Rows.StrsAre items.toList xs) (room : xs.length + 1 < scanBound)
    (fin : ∀ (h' : Heap) (tk : Nat), HoldS prog w h' s.heap.objs.size xs xs.length → (∀ b o, b < s.heap.objs.size → s.heap.get? b = some o → h'.get? b = some o) → Q (.ref s.heap.objs.size) { s with heap := h', toks := tk }) :
    wpAny (model prog w) A (call (.type "set") [.ref l]) Q E s := by
  obtain ⟨c, tl, hmro⟩ := PySem.F.called_set.mro; have hmade := PySem.F.called_set.made; have hsub := PySem.F.called_set.sub
  refine wpAny_call (codeAny_of_tree ?_); show wpAny _ _ (callAny (.type "set") _) _ _ _
  refine wpAny_pure ⟨Code.quiet_builtin _ (by decide +kernel), codeAny_builtin PySem.F.entry_type_call ?_⟩; rw [Around.under_plain (weight_type_call_type "set" [.ref l] []) rfl]
  have h1 := PySem.F.called_set.notType; have h2 := PySem.F.called_set.canCreate; have hct := PySem.F.typeCall_set_1 (.ref l)
  repeat (any_goals (first | assumption | wp_step))
  refine codeAny_mono (code_set_new_1 (.ref l) (E := E) (Q₁ := fun ob s1 => ∃ led : Bool, ob = .ref s.heap.objs.size ∧ s1 = { s with heap := s.heap.push (setO led) }) fun led => ⟨led, rfl, rfl⟩) fun r s1 hr => ?_
  match r, hr with
  | .error e, hr => exact hr
  | .ok (.ret ob), hr =>
    obtain ⟨led, rfl, rfl⟩ := hr
    have gS : (s.heap.push (setO led)).get? s.heap.objs.size = some (setO led) := Heap.get?_push_size _ rfl
    have tS : Shared.TypeIs { s with heap := s.heap.push (setO led) } (.ref s.heap.objs.size) "set" := ⟨_, gS, rfl⟩
    have hli := PySem.F.called_set.init.lookup; have hbi := PySem.F.called_set.init.bind (.ref s.heap.objs.size)
    repeat (any_goals (first | assumption | wp_step))
    refine codeAny_mono (codeAny_call_builtin (R := wants (fun r s2 => r = .none ∧ ∃ h' tk, s2 = { s with heap := h', toks := tk } ∧ HoldS prog w h' s.heap.objs.size xs xs.length ∧
        (∀ b o, b < s.heap.objs.size → s.heap.get? b = some o → h'.get? b = some o)) E) PySem.F.called_set.init.plain PySem.F.entry_set_init (check_set_init_1 tS ?_)) fun r2 s2 z => ?_
    · obtain ⟨⟨oc, od, odt, osl⟩, gl, hc, nl, hd⟩ := hl
      simp only at hc hd; subst hc; subst hd
      have gl2 : (s.heap.push (setO led)).get? l = some { cls := .type "list", dict := od, data := .seq items nl, slots := osl } := Heap.get?_push_of_some _ gl
      have e1 := PySem.F.sub_list_set; have e2 := PySem.F.sub_list_frozenset
      have e3 : (Value.type "list" == Value.type "dict") = false := by decide
      have hl1 : (s.heap.push (setO led)).IsList l items := ⟨_, gl2, rfl, nl, rfl⟩
      unfold Builtin.«set.__init__» noKeywords Builtin.Frozenset.updateFrom
      generalize hPI : pyIter = PI
      wp_walk
      subst hPI
      refine wpAny_pyIter_list hl1 (wpAny_bind (wpAny_runValue ?_))
      have lt : l < s.heap.objs.size := Heap.lt_size gl
      have h3 : A.in1.in1.in1.handled = none := by simp [hh]
      have ne : l ≠ (s.heap.push (setO led)).objs.size := by
        rw [Heap.size_push]; exact Nat.ne_of_lt (Nat.lt_trans lt (Nat.lt_succ_self _))
      have nB : s.heap.objs.size ∉ [(s.heap.push (setO led)).objs.size, l] := by
        rw [Heap.size_push]
        intro z
        rcases List.mem_cons.mp z with z | z
        · exact absurd z (Nat.ne_of_lt (Nat.lt_succ_self _))
        · exact absurd (show s.heap.objs.size = l by simpa using z) (Nat.ne_of_gt lt)
      have hx : xs.length = items.size := by rw [← StrsAre.len_eq hi, Array.length_toList]
      refine set_turns ((Walks.list h3 _ l ne items).toS) s.heap.objs.size nB xs hx (by omega) (fun i v hv => SS.strs_at hi i v (by rw [Array.getElem?_toList]; exact hv)) items.size 0 _ (by omega) ⟨⟨_, Heap.get?_push_size _ rfl, rfl, rfl⟩, (hl1.push _)⟩ ?_ ?_
      · have g2 : ((s.heap.push (setO led)).push { cls := .type "list_iterator", data := .fields #[.ref l, .int 0 0] }).get? s.heap.objs.size = some (setO led) := Heap.get?_push_of_some _ gS
        exact SetOf_congr ((setObjOf_fresh (knd := PySem.strKind prog w) led).setOf g2 (by unfold scanBound; omega)) (fun _ => rfl) rfl
      · intro s3 m hS
        obtain ⟨h4, g4, d4, t4, o4⟩ := s3
        obtain rfl : g4 = s.gens := m.gens
        obtain rfl : d4 = s.drawn := m.drawn
        obtain rfl : o4 = s.os := m.os
        refine wpAny_pure (wpAny_pure ⟨rfl, h4, t4, rfl, hx ▸ hS, fun b o hb e => m.heap b o (fun z => ?_) (Heap.get?_push_of_some _ (Heap.get?_push_of_some _ e))⟩)
        rw [Heap.size_push] at z
        rcases List.mem_cons.mp z with z | z
        · exact absurd z (Nat.ne_of_lt hb)
        · exact absurd (show b = s.heap.objs.size + 1 by simpa using z) (Nat.ne_of_lt (Nat.lt_succ_of_lt hb))
    · match r2, z with
      | .error e, z => exact z
      | .ok (.ret r), z =>
        obtain ⟨rfl, h', tk, rfl, hS, k⟩ := z
        repeat (any_goals (first | assumption | wp_step))
        exact fin _ _ hS k
end
/-! ### the expressions -/
def unStrs : List D → Option (List Str)
  | [] => some []
  | .str x :: r => match unStrs r with
    | some l => some (x :: l)
    | none => none
  | _ => none
def lenSetD (d : D) : M D := fun S => match seqL S d with
  | some xs => match unStrs xs with
    | some ts => if ts.length + 1 < scanBound then .ok (.int (metS ts ts.length).length) S else .no
    | none => .no
  | none => .no
def lenSetM (m : Env → M D) : Env → M D := fun r => m r >>= lenSetD
theorem unStrs_rel {K : PySem.W.Frag} {H : Hp} {φ : List Addr} : ∀ {xs : List D} {ts : List Str} {vs : List V} {us : List Value}, unStrs xs = some ts → RelDs K H φ xs vs → Vals vs us → StrsAre us ts
  | [], _, _, _, h, r, v => by
    cases h
    cases r
    cases v
    exact .nil
  | .str x :: xs, _, _, _, h, r, v => by
    unfold unStrs at h
    split at h
    · rename_i l hl
      cases h
      cases r with
      | cons r1 r2 =>
        cases r1
        cases v with
        | cons v1 v2 =>
          obtain ⟨t, rfl⟩ := v1
          exact .cons x t (unStrs_rel hl r2 v2)
    · cases h
  | .non :: _, _, _, _, h, _, _ => by cases h
  | .bl _ :: _, _, _, _, h, _, _ => by cases h
  | .int _ :: _, _, _, _, h, _, _ => by cases h
  | .tup _ :: _, _, _, _, h, _, _ => by cases h
  | .ref _ :: _, _, _, _, h, _, _ => by cases h
  | .fl _ :: _, _, _, _, h, _, _ => by cases h
  | .exc _ _ _ :: _, _, _, _, h, _, _ => by cases h
section
variable {X : Cx} {Γ : Nat → Addr} {E : XK} {a : Expr} {ma : Env → M D} {p p2 q pos : Pos}
/-- len(set(xs)), xs a list of texts -/
theorem re_lenSet (hc : X.calm = true) (hm : X.mg "len" = none) (hm2 : X.mg "set" = none) (ha : RE X Γ E a ma) (hg : Gl X "len" := by rfl) (hg2 : Gl X "set" := by rfl)
    (na : starEach [a] X.env = (false, eval a X.env) :: starEach [] X.env := by rfl) : RE X Γ E (.Call (.Name "len" p) [.Call (.Name "set" p2) [a] [] q] [] pos) (lenSetM ma) := by
  refine PE.weaken (t := fun σ H Q => tE X.K Γ E ma σ H fun v H1 => ∃ (l : Addr) (vs : List V) (ts : List Str), v = .ref l ∧ SqL X.K H1 l vs ∧ (∀ us, Vals vs us → StrsAre us ts) ∧ ts.length + 1 < scanBound ∧ Q (.int (metS ts ts.length).length) H1) ⟨fun pins s σ H Q I h => ?_⟩ fun σ H Q ⟨φ, r, S, s, q, p⟩ => ?_
  · refine Call_ (ld_blt I hg hm boot_len (PyProof.Rows.callWith_builtin1 (PyProof.Rows.args_cons ?_ rfl) rfl rfl))
    refine Call_ (ld_blt I hg2 hm2 boot_set (PyProof.Rows.callWith_type1 (PyProof.Rows.args_cons (thn (ha.run pins s σ H _ I h) fun v s1 z => PyProof.Rows.args_nil ?_) na) na rfl))
    obtain ⟨x, H1, I1, rx, l, vs, ts, rfl, hq, hts, room, fin⟩ := z
    obtain rfl : v = Value.ref l := rx
    obtain ⟨its, rv, pl, hz⟩ := I1.list hq
    refine set_texts (I1.ok.hd hc) pl.isList (by simpa using hts its rv) room fun h' tk hS k => PyProof.Rows.args_nil ?_
    obtain ⟨o, es, ep, t, ho, hex, hd, _, _, _, hf, hn⟩ := hS
    have J : Inv X pins σ H1 { s1 with heap := h', toks := tk } := I1.kept fun b o e => k b o (Heap.lt_size e) e
    have le := metS_le ts ts.length
    have sb : scanBound = 4096 := rfl
    exact call_len_set ho hex hd hf (by rw [hn]; omega) ⟨.int (metS ts ts.length).length, H1, J.tok _, ⟨_, by rw [hn]⟩, fin⟩
  · refine tE_bnd s q p fun φ1 S1 d v H1 e1 s1 q1 rv p1 => ?_
    unfold lenSetD at p1
    split at p1
    · rename_i xs hx
      split at p1
      · rename_i ts ht
        split at p1
        · rename_i room
          obtain ⟨l, vs, rfl, h1, h2⟩ := seqL_rel s1 hx rv
          exact ⟨l, vs, ts, rfl, h1, fun us z => unStrs_rel ht h2 z, room, p1.here s1 (.int _)⟩
        · exact p1.elim
      · exact p1.elim
    · exact p1.elim
end
/-! ### xs.count(x), of data -/
def countD (o : D) (ds : List D) : M D := fun S => match ds with
  | [d] => match toPy S deep o, toPy S deep d with
    | some (.list qs), some p => if PyData.plainAll qs = true ∧ p.plain = true ∧ p.depth ≤ 8 then .ok (.int (qs.countP fun z => PyData.eqv z p : Nat)) S else .no
    | _, _ => .no
  | _ => .no
section
variable {X : Cx} {Γ : Nat → Addr} {E : XK}
theorem md_count (hz : SysIn X.base) (hu : X.A.units + 100 < cLine) : MtD X Γ E "list.count" countD := by
  intro pins s σ H x vs v us Q I rx rv ⟨φ, S, d, ds, sm, r1, r2, p⟩
  unfold countD at p
  split at p
  · rename_i d1
    obtain ⟨w, rfl, r3⟩ := relDs_one r2
    obtain ⟨u, rfl, ru⟩ := vals1 rv
    split at p
    · rename_i qs q h1 h2
      by_cases hs : PyData.plainAll qs = true ∧ q.plain = true ∧ q.depth ≤ 8
      · rw [if_pos hs] at p
        obtain ⟨as, k1, _⟩ := reads_of hz I sm _ _ _ _ _ h1 r1 rx
        obtain ⟨bs, k2, _⟩ := reads_of hz I sm _ _ _ _ _ h2 r3 ru
        cases k1 with
        | list ho hc hd hr =>
          refine SeqAt.count_list_data ⟨_, ho, hc, _, hd⟩ (by simpa using hr) k2 hs.1 hs.2.1 ?_ ⟨.int ((qs.countP fun z => PyData.eqv z q : Nat) : Int), H, I.tok _, ⟨_, rfl⟩, p.here sm (.int _)⟩
          have := Nat.min_le_right (PyData.depthAll qs) q.depth
          have := hs.2.2
          omega
      · rw [if_neg hs] at p; exact p.elim
    · exact p.elim
  · exact p.elim
end

/-! [e for .. for ..]; enumerate; (i, (a, b)) as a target; own classes' facts -/
open PySem PySem.Spec PyProof.Rows L2

/-! ### [e for x in xs if t for y in ys if u] -/
def compN2 (g : D → Env → M Env) (tst : Env → M Bool) (own1 : List Nat) (mi1 : Env → M ItD) (g1 : D → Env → M Env) (tst1 : Env → M Bool) (el : Env → M D) (J : ItD) (r0 : Env) : Nat → Nat → List D → M (List D)
  | n, i, acc => fun S => match J.at i S with
    | none => .no
    | some none => .ok acc S
    | some (some d) => match n with
      | 0 => .no
      | n + 1 => (do
        let r1 ← g d r0
        let c ← tst r1
        if c = true then (do
          let J1 ← mi1 r1
          let acc' ← (fun S => compN g1 tst1 el J1 (wipeE r1 own1) (J1.size S) 0 acc S)
          compN2 g tst own1 mi1 g1 tst1 el J r0 n (i + 1) acc')
        else compN2 g tst own1 mi1 g1 tst1 el J r0 n (i + 1) acc) S
def lc2M (own own1 : List Nat) (mi : Env → M ItD) (g : D → Env → M Env) (tst : Env → M Bool) (mi1 : Env → M ItD) (g1 : D → Env → M Env) (tst1 : Env → M Bool) (el : Env → M D) : Env → M D := fun r => do
  let J ← mi r
  let acc ← (fun S => compN2 g tst own1 mi1 g1 tst1 el J (wipeE r own) (J.size S) 0 [] S)
  newO (.lst acc)
section
variable {g : D → Env → M Env} {tst : Env → M Bool} {own1 : List Nat} {mi1 : Env → M ItD} {g1 : D → Env → M Env} {tst1 : Env → M Bool} {el : Env → M D} {J : ItD} {r0 : Env} {n i : Nat} {acc : List D} {S : Sto} {d : D}
def comp2B (g : D → Env → M Env) (tst : Env → M Bool) (own1 : List Nat) (mi1 : Env → M ItD) (g1 : D → Env → M Env) (tst1 : Env → M Bool) (el : Env → M D) (J : ItD) (r0 : Env) (n i : Nat) (acc : List D) (d : D) : M (List D) := do
  let r1 ← g d r0
  let c ← tst r1
  if c = true then (do
    let J1 ← mi1 r1
    let acc' ← (fun S => compN g1 tst1 el J1 (wipeE r1 own1) (J1.size S) 0 acc S)
    compN2 g tst own1 mi1 g1 tst1 el J r0 n (i + 1) acc')
  else compN2 g tst own1 mi1 g1 tst1 el J r0 n (i + 1) acc
theorem compN2_stuck (h : J.at i S = none) : compN2 g tst own1 mi1 g1 tst1 el J r0 n i acc S = .no := by
  cases n <;> (unfold compN2; rw [h])
theorem compN2_end (h : J.at i S = some none) : compN2 g tst own1 mi1 g1 tst1 el J r0 n i acc S = .ok acc S := by
  cases n <;> (unfold compN2; rw [h])
theorem compN2_zero (h : J.at i S = some (some d)) : compN2 g tst own1 mi1 g1 tst1 el J r0 0 i acc S = .no := by
  unfold compN2; rw [h]
theorem compN2_item (h : J.at i S = some (some d)) : compN2 g tst own1 mi1 g1 tst1 el J r0 (n + 1) i acc S = comp2B g tst own1 mi1 g1 tst1 el J r0 n i acc d S := by
  rw [compN2]
  simp only [h]
  rfl
end
/-- what stands at a turn of a comprehension: its list, hidden -/
def CompAt (K : PySem.W.Frag) (Γ : Nat → Addr) (φ1 : List Addr) (H1 : Hp) (C : Addr) (H : Hp) (k : List Addr → Sto → List D → Prop) : Prop :=
  ∃ φ S acc vacc, Ext K φ1 H1 φ H ∧ Sim K Γ φ S H ∧ C ∉ φ ∧ H C = some (.lst vacc) ∧ RelDs K H φ acc vacc ∧ k φ S acc
theorem lc2_to {K : PySem.W.Frag} {Γ : Nat → Addr} {E : XK} {own own1 : List Nat} {mi mi1 : Env → M ItD} {g g1 : D → Env → M Env} {tst tst1 : Env → M Bool} {el : Env → M D} {σ : Sl} {H : Hp} {Q : VK} (h : tE K Γ E (lc2M own own1 mi g tst mi1 g1 tst1 el) σ H Q) :
    tLc2 (tIt K Γ E mi) (tGc K Γ E own g) (tT K Γ E tst) (tIt K Γ E mi1) (tGc K Γ E own1 g1) (tT K Γ E tst1) (tE K Γ E el) own own1 σ H Q := by
  obtain ⟨φ, r, S, s, q, p⟩ := h
  refine ⟨φ, r, S, s, q, (Post.bnd (rel := fun H φ => rI K H φ) p).imp fun j H1 ⟨φ1, S1, J, e1, s1, rj, p1⟩ => ?_⟩
  intro C hC
  have q1 := q.mono e1
  have eC : Ext K φ1 H1 φ1 (upd H1 C (.lst [])) := Ext.new0 hC
  refine ⟨fun i m H => CompAt K Γ φ1 H1 C H fun φ S acc => rI K H φ J j ∧ RelE K H φ (wipeE r own) (wipe σ own) ∧ Post K Γ E (rD K) φ1 H1 ((compN2 g tst own1 mi1 g1 tst1 el J (wipeE r own) m i acc >>= fun acc => newO (.lst acc)) S) Q,
    ⟨J.size S1, φ1, S1, [], [], eC, s1.hide hC, s1.fresh hC, upd_same, .nil, rj.mono eC, (q1.mono eC).wipe own, p1⟩, ?_⟩
  rintro i m H2 ⟨φ2, S2, acc, vacc, e2, s2, n2, hC2, ra, rj2, q2, p2⟩
  cases hJ : J.at i S2 with
  | none =>
    rw [bnd_congr (m' := stuck) (compN2_stuck hJ)] at p2
    exact p2.elim
  | some o =>
    cases o with
    | none =>
      rw [bnd_ok (compN2_end hJ)] at p2
      refine .inl ⟨rI.stop s2 rj2 hJ, ?_⟩
      have gr : Gr K φ2 H2 (φ2 ++ [C]) H2 := ⟨.refl, [C], rfl⟩
      refine p2 (φ2 ++ [C]) H2 (.ref C) ?_ (s2.unhide n2 ⟨vacc, hC2, RelDs.mono0 gr _ _ ra⟩ (.inl gr)) (.ref (by rw [← s2.len, List.getElem?_append_right (Nat.le_refl _)]; simp))
      refine ⟨⟨e2.toKp, ?_⟩, fun b u hb nb => ?_, e2.old⟩
      · obtain ⟨t, ht⟩ := e2.pre
        exact ⟨t ++ [C], by rw [ht, List.append_assoc]⟩
      · obtain ⟨h1, h2⟩ := e2.hid b u hb nb
        refine ⟨h1, fun z => ?_⟩
        rcases List.mem_append.mp z with z | z
        · exact h2 z
        · have zz : b = C := by simpa using z
          rw [zz, hC] at hb
          cases hb
    | some d =>
      obtain ⟨go, yl⟩ := rI.go s2 rj2 hJ
      cases m with
      | zero =>
        rw [bnd_congr (m' := stuck) (compN2_zero hJ)] at p2
        exact p2.elim
      | succ m =>
        rw [bnd_congr (compN2_item hJ), comp2B, bnd_assoc] at p2
        refine .inr ⟨go, fun H => CompAt K Γ φ1 H1 C H fun φ S acc => rI K H φ J j ∧ RelE K H φ (wipeE r own) (wipe σ own) ∧ Post K Γ E (rD K) φ1 H1 ((compN2 g tst own1 mi1 g1 tst1 el J (wipeE r own) m (i + 1) acc >>= fun acc => newO (.lst acc)) S) Q, fun H' h => ⟨m, Nat.lt_succ_self _, h⟩, fun x H' hy => ?_⟩
        obtain ⟨ey, s2, rx⟩ := yl x H' hy
        obtain ⟨hC2, n2⟩ := ey.hid C _ hC2 n2
        have e2 := e2.trans ey
        have ra := RelDs.mono ey _ _ ra
        have rj2 := rj2.mono ey
        have q2 := q2.mono ey
        refine ⟨φ2, wipeE r own, S2, d, s2, q2, rx, (Post.bnd0 (rel := fun H φ r' σ' => RelE K H φ r' σ' ∧ wipe σ' own = wipe (wipe σ own) own) e2 p2).imp fun σ3 H3 ⟨φ3, S3, r3, e3, s3, ⟨q3, w3⟩, p4⟩ => ?_⟩
        rw [bnd_assoc] at p4
        refine ⟨by rw [w3, wipe_wipe], φ3, r3, S3, s3, q3, (Post.bnd0 (rel := rB) (e2.trans e3) p4).imp fun b H4 ⟨φ4, S4, c, e4, s4, rc, p5⟩ => ?_⟩
        cases rc
        have e24 := e3.trans e4
        obtain ⟨hC4, n4⟩ := e24.hid C _ hC2 n2
        have e14 := e2.trans e24
        cases b with
        | false =>
          rw [if_neg Bool.false_ne_true] at p5 ⊢
          exact ⟨φ4, S4, acc, vacc, e14, s4, n4, hC4, RelDs.mono e24 _ _ ra, rj2.mono e24, q2.mono e24, p5⟩
        | true =>
          rw [if_pos rfl] at p5 ⊢
          rw [bnd_assoc] at p5
          refine ⟨φ4, r3, S4, s4, q3.mono e4, (Post.bnd0 (rel := fun H φ => rI K H φ) e14 p5).imp fun j1 H5 ⟨φ5, S5, J1, e5, s5, rj1, p6⟩ => ?_⟩
          rw [bnd_assoc] at p6
          have e25 := e24.trans e5
          obtain ⟨hC5, n5⟩ := e25.hid C _ hC2 n2
          refine ⟨fun i1 k H => CompAt K Γ φ1 H1 C H fun φ S acc => rI K H φ J j ∧ RelE K H φ (wipeE r own) (wipe σ own) ∧ rI K H φ J1 j1 ∧ RelE K H φ (wipeE r3 own1) (wipe σ3 own1) ∧ Post K Γ E (rD K) φ1 H1 ((compN g1 tst1 el J1 (wipeE r3 own1) k i1 acc >>= fun acc => compN2 g tst own1 mi1 g1 tst1 el J (wipeE r own) m (i + 1) acc >>= fun acc => newO (.lst acc)) S) Q,
            ⟨J1.size S5, φ5, S5, acc, vacc, e2.trans e25, s5, n5, hC5, RelDs.mono e25 _ _ ra, rj2.mono e25, q2.mono e25, rj1, ((q3.mono e4).mono e5).wipe own1, p6⟩, ?_⟩
          rintro i1 k H6 ⟨φ6, S6, acc6, vacc6, e6, s6, n6, hC6, ra6, rj6, q6, rk6, qq6, p7⟩
          cases hJ1 : J1.at i1 S6 with
          | none =>
            rw [bnd_congr (m' := stuck) (compN_stuck hJ1)] at p7
            exact p7.elim
          | some o1 =>
            cases o1 with
            | none =>
              rw [bnd_ok (compN_end hJ1)] at p7
              exact .inl ⟨rI.stop s6 rk6 hJ1, φ6, S6, acc6, vacc6, e6, s6, n6, hC6, ra6, rj6, q6, p7⟩
            | some d1 =>
              obtain ⟨go1, yl1⟩ := rI.go s6 rk6 hJ1
              cases k with
              | zero =>
                rw [bnd_congr (m' := stuck) (compN_zero hJ1)] at p7
                exact p7.elim
              | succ k =>
                rw [bnd_congr (compN_item hJ1), compB, bnd_assoc] at p7
                refine .inr ⟨go1, fun H => CompAt K Γ φ1 H1 C H fun φ S acc => rI K H φ J j ∧ RelE K H φ (wipeE r own) (wipe σ own) ∧ rI K H φ J1 j1 ∧ RelE K H φ (wipeE r3 own1) (wipe σ3 own1) ∧ Post K Γ E (rD K) φ1 H1 ((compN g1 tst1 el J1 (wipeE r3 own1) k (i1 + 1) acc >>= fun acc => compN2 g tst own1 mi1 g1 tst1 el J (wipeE r own) m (i + 1) acc >>= fun acc => newO (.lst acc)) S) Q, fun H' h => ⟨k, Nat.lt_succ_self _, h⟩, fun x1 H7 hy1 => ?_⟩
                obtain ⟨ey1, s6, rx1⟩ := yl1 x1 H7 hy1
                obtain ⟨hC6, n6⟩ := ey1.hid C _ hC6 n6
                have e6 := e6.trans ey1
                have ra6 := RelDs.mono ey1 _ _ ra6
                have rj6 := rj6.mono ey1
                have q6 := q6.mono ey1
                have rk6 := rk6.mono ey1
                have qq6 := qq6.mono ey1
                refine ⟨φ6, wipeE r3 own1, S6, d1, s6, qq6, rx1, (Post.bnd0 (rel := fun H φ r' σ' => RelE K H φ r' σ' ∧ wipe σ' own1 = wipe (wipe σ3 own1) own1) e6 p7).imp fun σ8 H8 ⟨φ8, S8, r8, e8, s8, ⟨q8, w8⟩, p8⟩ => ?_⟩
                rw [bnd_assoc] at p8
                refine ⟨by rw [w8, wipe_wipe], φ8, r8, S8, s8, q8, (Post.bnd0 (rel := rB) (e6.trans e8) p8).imp fun b1 H9 ⟨φ9, S9, c1, e9, s9, rc1, p9⟩ => ?_⟩
                cases rc1
                have e69 := e8.trans e9
                cases b1 with
                | false =>
                  rw [if_neg Bool.false_ne_true] at p9 ⊢
                  obtain ⟨hC9, n9⟩ := e69.hid C _ hC6 n6
                  exact ⟨φ9, S9, acc6, vacc6, e6.trans e69, s9, n9, hC9, RelDs.mono e69 _ _ ra6, rj6.mono e69, q6.mono e69, rk6.mono e69, qq6.mono e69, p9⟩
                | true =>
                  rw [if_pos rfl] at p9 ⊢
                  rw [bnd_assoc] at p9
                  refine ⟨φ9, r8, S9, s9, q8.mono e9, (Post.bnd0 (rel := rD K) (e6.trans e69) p9).imp fun y HA ⟨φA, SA, dy, eA, sA, ry, pA⟩ => ?_⟩
                  have e6A := e69.trans eA
                  obtain ⟨hCA, nA⟩ := e6A.hid C _ hC6 n6
                  by_cases hz : acc6.length < sizeLine
                  · rw [if_pos hz] at pA
                    have mu : Mut (HA C) := by rw [hCA]; trivial
                    obtain ⟨sB, kC⟩ := sA.hid (ho := .lst (vacc6 ++ [y])) nA mu
                    have kk : Kp K HA (upd HA C (.lst (vacc6 ++ [y]))) := .mut mu
                    have gr : Gr K φA HA φA (upd HA C (.lst (vacc6 ++ [y]))) := ⟨kk, [], by simp⟩
                    have iT : ∀ {J : ItD} {j : It}, rI K HA φA J j → rI K (upd HA C (.lst (vacc6 ++ [y]))) φA J j := fun {J j} z => by
                      cases z with
                      | tup x y => exact .tup (kk.tup _ _ x) (RelDs.mono0 gr _ _ y)
                      | lst x => exact .lst x
                      | fl x y => exact .fl (kk.frl _ _ x) (RelDs.mono0 gr _ _ y)
                      | rng lo k => exact .rng lo k
                      | str x => exact .str x
                      | enl x => exact .enl x
                      | enf x y => exact .enf (kk.frl _ _ x) (RelDs.mono0 gr _ _ y)
                    have eT : ∀ {r : Env} {σ : Sl}, RelE K HA φA r σ → RelE K (upd HA C (.lst (vacc6 ++ [y]))) φA r σ := fun {r σ} z => ⟨z.len, fun i d h => let ⟨v, h1, h2⟩ := z.at_ i d h; ⟨v, h1, kC _ _ h2⟩⟩
                    refine ⟨vacc6, hCA, by rw [← RelDs.length ra6]; exact hz, φA, SA, acc6 ++ [dy], vacc6 ++ [y], ?_, sB, nA, upd_same, RelDs.app (RelDs.mono0 gr _ _ (RelDs.mono e6A _ _ ra6)) (.cons (kC _ _ ry) .nil), iT (rj6.mono e6A), eT (q6.mono e6A), iT (rk6.mono e6A), eT (qq6.mono e6A), pA⟩
                    have e1A := e6.trans e6A
                    refine ⟨⟨e1A.toKp.trans kk, e1A.pre⟩, fun b u hb nb => ?_, old_upd e1A.old⟩
                    obtain ⟨h1, h2⟩ := e1A.hid b u hb nb
                    have ne : b ≠ C := fun z => by rw [z, hC] at hb; cases hb
                    rw [upd_ne ne]
                    exact ⟨h1, h2⟩
                  · rw [if_neg hz] at pA
                    exact pA.elim
section
variable {X : Cx} {Γ : Nat → Addr} {E : XK} {elt : Expr} {me : Env → M D} {pos : Pos}
theorem re_lc2 {tg iter tg1 iter1 : Expr} {ifs ifs1 : List Expr} {scope : Scope} {own : List (Str × Nat)} {own1 : List Nat} {mi mi1 : Env → M ItD} {g g1 : D → Env → M Env} {tst tst1 : Env → M Bool} (hc : X.calm = true) (hN : X.N.Nodup) (hi : RI X Γ E tg iter mi) (ok : BlkOk X.N X.env.scope scope own) (hv : ∀ i ∈ own1, i ∈ own.map (·.2))
    (hg : ∀ (s : Shared) (H : Hp) (C : Addr) (cl : List (Str × Addr)) (fp : List Addr), PG (X.blk s H scope (compEnvC scope cl C X.env) fp) tg (tGc X.K Γ E (own.map (·.2)) g))
    (ht : ∀ (s : Shared) (H : Hp) (C : Addr) (cl : List (Str × Addr)) (fp : List Addr), RTs (X.blk s H scope (compEnvC scope cl C X.env) fp) Γ E ifs tst)
    (hi1 : ∀ (s : Shared) (H : Hp) (C : Addr) (cl : List (Str × Addr)) (fp : List Addr), RI (X.blk s H scope (compEnvC scope cl C X.env) fp) Γ E tg1 iter1 mi1)
    (hg1 : ∀ (s : Shared) (H : Hp) (C : Addr) (cl : List (Str × Addr)) (fp : List Addr), PG (X.blk s H scope (compEnvC scope cl C X.env) fp) tg1 (tGc X.K Γ E own1 g1))
    (ht1 : ∀ (s : Shared) (H : Hp) (C : Addr) (cl : List (Str × Addr)) (fp : List Addr), RTs (X.blk s H scope (compEnvC scope cl C X.env) fp) Γ E ifs1 tst1)
    (he : ∀ (s : Shared) (H : Hp) (C : Addr) (cl : List (Str × Addr)) (fp : List Addr), RE (X.blk s H scope (compEnvC scope cl C X.env) fp) Γ E elt me) (hs : ∀ x, foldedSetIterable iter X.env x = pure x := by intro _; rfl) (hs1 : ∀ env x, foldedSetIterable iter1 env x = pure x := by intro _ _; rfl) :
    RE X Γ E (.ListComp elt [⟨tg, iter, ifs, 0⟩, ⟨tg1, iter1, ifs1, 0⟩] scope pos) (lc2M (own.map (·.2)) own1 mi g tst mi1 g1 tst1 me) :=
  PE.weaken (pe_lc2 (tt := tT X.K Γ E tst) (tt1 := tT X.K Γ E tst1) (wi1 := tIt X.K Γ E mi1) (te := tE X.K Γ E me) hc hN hi ok hv hg ht hi1 hg1 ht1 he hs hs1) fun σ H Q h => lc2_to h
theorem rs_setLc2 {i : Nat} {y : Str} {py spos : Pos} {tg iter tg1 iter1 : Expr} {ifs ifs1 : List Expr} {scope : Scope} {own : List (Str × Nat)} {own1 : List Nat} {mi mi1 : Env → M ItD} {g g1 : D → Env → M Env} {tst tst1 : Env → M Bool} (hc : X.calm = true) (hN : X.N.Nodup) (hy : X.N[i]? = some y) (hyl : X.env.scope.names.lookup y = some .local)
    (hsw : swapsWith (.ListComp elt [⟨tg, iter, ifs, 0⟩, ⟨tg1, iter1, ifs1, 0⟩] scope pos) (some (.Name y py)) spos.line X.env = pure true) (hi : RI X Γ E tg iter mi) (ok : BlkOk X.N X.env.scope scope own) (hv : ∀ i ∈ own1, i ∈ own.map (·.2))
    (hg : ∀ (s : Shared) (H : Hp) (C : Addr) (cl : List (Str × Addr)) (fp : List Addr), PG (X.blk s H scope (compEnvC scope cl C X.env) fp) tg (tGc X.K Γ E (own.map (·.2)) g))
    (ht : ∀ (s : Shared) (H : Hp) (C : Addr) (cl : List (Str × Addr)) (fp : List Addr), RTs (X.blk s H scope (compEnvC scope cl C X.env) fp) Γ E ifs tst)
    (hi1 : ∀ (s : Shared) (H : Hp) (C : Addr) (cl : List (Str × Addr)) (fp : List Addr), RI (X.blk s H scope (compEnvC scope cl C X.env) fp) Γ E tg1 iter1 mi1)
    (hg1 : ∀ (s : Shared) (H : Hp) (C : Addr) (cl : List (Str × Addr)) (fp : List Addr), PG (X.blk s H scope (compEnvC scope cl C X.env) fp) tg1 (tGc X.K Γ E own1 g1))
    (ht1 : ∀ (s : Shared) (H : Hp) (C : Addr) (cl : List (Str × Addr)) (fp : List Addr), RTs (X.blk s H scope (compEnvC scope cl C X.env) fp) Γ E ifs1 tst1)
    (he : ∀ (s : Shared) (H : Hp) (C : Addr) (cl : List (Str × Addr)) (fp : List Addr), RE (X.blk s H scope (compEnvC scope cl C X.env) fp) Γ E elt me) (hs : ∀ x, foldedSetIterable iter X.env x = pure x := by intro _; rfl) (hs1 : ∀ env x, foldedSetIterable iter1 env x = pure x := by intro _ _; rfl) :
    RS X Γ E (.Assign [.Name y py] (.ListComp elt [⟨tg, iter, ifs, 0⟩, ⟨tg1, iter1, ifs1, 0⟩] scope pos) spos) (asgM (lc2M (own.map (·.2)) own1 mi g tst mi1 g1 tst1 me) (gNm i)) := by
  refine PS.weaken (ps_setLc2 (tt := tT X.K Γ E tst) (tt1 := tT X.K Γ E tst1) (wi1 := tIt X.K Γ E mi1) (te := tE X.K Γ E me) hc hN hy hyl hsw hi ok hv hg ht hi1 hg1 ht1 he hs hs1) fun D σ H h => ?_
  have h2 : tE X.K Γ E (lc2M (own.map (·.2)) own1 mi g tst mi1 g1 tst1 me) σ H fun x H1 => gName i x σ H1 D.nx := tE_imp (asg_to h) fun v H' q => gName_of q
  exact lc2_to h2
/-! ### for i, (a, b) in enumerate(xs) -/
def gTpN (i : Nat) (is : List Nat) : D → Env → M Env := fun d r => match d with
  | .tup [x, .tup ds] => if ds.length = is.length then pure (setAll (r.set i (some x)) is ds) else stuck
  | _ => stuck
theorem rg_tupN {i : Nat} {x : Str} {is : List Nat} {es : List Expr} {k k2 : Nat} {px p2 : Pos} (hc : X.calm = true) (h : PGs X es (gNms is)) (hx : PG X (.Name x px) (gName i)) (hn : (assignEach es X.env).length = is.length := by rfl) (hst : (assignEach es X.env).findIdx? (·.1) = none := by rfl)
    (hn2 : (assignEach [.Name x px, .Tuple es k2 p2] X.env).length = 2 := by rfl) (hst2 : (assignEach [.Name x px, .Tuple es k2 p2] X.env).findIdx? (·.1) = none := by rfl)
    (ha : (assignEach [.Name x px, .Tuple es k2 p2] X.env).map (·.2) = assign (.Name x px) X.env :: (assignEach [.Tuple es k2 p2] X.env).map (·.2) := by rfl) (hb : (assignEach [.Tuple es k2 p2] X.env).map (·.2) = assign (.Tuple es k2 p2) X.env :: (assignEach [] X.env).map (·.2) := by rfl) :
    RG X Γ E (.Tuple [.Name x px, .Tuple es k2 p2] k pos) (gTpN i is) := by
  refine PG.weaken (pg_tup hc (pgs_cons hx (pgs_cons (pg_tup (pos := p2) (k := k2) hc h hn hst) pgs_nil hb) ha) hn2 hst2) fun v σ H Q ⟨φ, r, S, d, s, q, rd, p⟩ => ?_
  unfold gTpN at p
  split at p
  · rename_i x0 ds
    cases rd with
    | tup hT hx hr =>
      cases hr with
      | cons r1 r2 =>
        cases r2 with
        | cons r2 r3 =>
          cases r3
          cases r2 with
          | tup hT2 hx2 hr2 =>
            obtain ⟨hl, p2⟩ := Post.ite p
            exact ⟨_, _, rfl, hT, rfl, _, _, rfl, _, _, rfl, ⟨_, _, rfl, hT2, by rw [← RelDs.length hr2]; exact hl, nms_of (vs0 := is) (q.set i r1) hr2 hl (fun _ z => z) fun σ' q' w => ⟨rfl, p2.val s q'⟩⟩⟩
  · exact p.elim
def itEnu (m : Env → M D) : Env → M ItD := fun r => m r >>= fun d => match d with
  | .fl xs => pure (.enf xs)
  | .ref n => fun S => match S[n]? with
    | some (.lst _) => .ok (.enl n) S
    | _ => .no
  | _ => stuck
theorem ri_enum {e : Expr} {ma : Env → M D} {p tpos : Pos} {elts : List Expr} {kk : Nat} (hm : X.mg "enumerate" = none) (ha : RE X Γ E e ma) (hg : Gl X "enumerate" := by rfl) (hs : starEach [e] X.env = [(false, eval e X.env)] := by rfl) :
    RI X Γ E (.Tuple elts kk tpos) (.Call (.Name "enumerate" p) [e] [] pos) (itEnu ma) := by
  refine PI.weaken (pi_enum hg hm (pa_cons ha pa_nil hs) hs) fun σ H R ⟨φ, r, S, s, q, p⟩ => ?_
  refine tE_bnd s q p fun φ1 S1 d v H1 e1 s1 q1 rv p1 => ?_
  cases d with
  | ref n =>
    cases rv with
    | @ref _ a hq =>
      simp only [] at p1
      split at p1
      · rename_i xs hS
        obtain ⟨vs, h1, _⟩ := sim_list s1 hq hS
        exact ⟨_, vs, rfl, SqL.of h1, p1.here s1 (.enl hq)⟩
      · exact p1.elim
  | fl xs =>
    cases rv with
    | fl hF hr => exact ⟨_, _, rfl, hF.sq, p1.val s1 (.enf hF hr)⟩
  | _ => exact p1.elim
end
/-! ### own classes: their facts -/
theorem ocls_mk {K : PySem.W.Frag} {C : Addr} (pg : PySem.W.plainGet K C Str.empty = true) (hd : PySem.W.hasDictIn K C = true) (po : PySem.W.plainOver K C = true) (sa : PySem.W.findIn K (.ref C) "__setattr__" = some (some (.builtin "object.__setattr__")))
    (ca : PySem.W.findIn K (.ref C) "__class__" = some (some (.builtin "object.__class__"))) (cn : PySem.W.specialIn K (.builtin "object.__class__") "__get__" = some (some (.builtin "getset_descriptor.__get__"))) (ct : PySem.W.takesIn K (.builtin "object.__class__") = some true) (cm : PySem.W.mroIn K C (.type "object") = some true)
    (mks : PySem.W.makesIn K C = true) (kp : PySem.W.keepIn K (.ref C) = true) : OCls K C := ⟨⟨⟨pg, hd, po, sa⟩, ca, cn, ct, cm⟩, mks, kp⟩
theorem kitOne_tyR {K : PySem.W.Frag} {Z : Addr} {T : String} {b : Bool} (cl : PySem.W.isClsIn K Z = true) (ty : PySem.W.typeIn K (.ref Z) = some (.type "type")) (s : PySem.W.subIn K (.type T) (.ref Z) = some b) : PySem.W.kitOne K (.type T) (.ref Z) = some b := by
  unfold PySem.W.kitOne
  rw [if_neg (by simp)]
  unfold PySem.W.kitCls
  have c2 : (PySem.W.clsIn K Z).isSome = true := cl
  simp only [c2, ty, beq_self_eq_true, Bool.and_self, if_true]
  exact s
/-- what the text must say that isinstance(e, Z) may ask for it -/
structure IsC (K : PySem.W.Frag) (Z : Addr) : Prop where
  cl : PySem.W.isClsIn K Z = true
  ty : PySem.W.typeIn K (.ref Z) = some (.type "type")
  ns : ∀ t : Tn, PySem.W.subIn K (.type t.nm) (.ref Z) = some false
theorem IsC.no {K : PySem.W.Frag} {Z : Addr} (i : IsC K Z) (t : Tn) : PySem.W.kitOne K (.type t.nm) (.ref Z) = some false := kitOne_tyR i.cl i.ty (i.ns t)
theorem IsC.yes {K : PySem.W.Frag} {Z : Addr} (i : IsC K Z) (s : PySem.W.subIn K (.ref Z) (.ref Z) = some true) : PySem.W.kitOne K (.ref Z) (.ref Z) = some true := kitOne_ref i.cl i.ty s fun _ => rfl
theorem IsC.other {K : PySem.W.Frag} {C Z : Addr} (i : IsC K Z) (s : PySem.W.subIn K (.ref C) (.ref Z) = some false) (z : PySem.W.subIn K (.ref Z) (.ref Z) = some true) : PySem.W.kitOne K (.ref C) (.ref Z) = some false := kitOne_ref i.cl i.ty s fun e => by
  subst e
  rw [s] at z
  cases z
/-- an own class in an except clause -/
theorem exm_mk {K : PySem.W.Frag} {Z : Addr} {cls : Value} {b : Bool} (x : XCls K Z) (s : PySem.W.subIn K cls (.ref Z) = some b) : PySem.W.exmOne K cls (.ref Z) = some b := PySem.W.exm_ref x.oex.exC x.xf.hdC x.oex.tyC s
theorem roomP_mark {j k : Nat} {A : Around} {v : Option Value} (hr : Room k A) (h : j ≤ k) : L2H.RoomH j (A.mark v) :=
  ⟨by have := hr.dp; show A.depth + 3 * j + 5 < _; omega, by have := hr.un; show A.units + 16 * j + 200 < _; omega⟩
/-- the usual __init__ of an own exception -/
theorem sets_one {c : Nat} {f : Str} : Sets c f (fnM 2 (seqM (dropM (xinitM [c] (getv 0))) (xsetM [c] f (getv 0) (getv 1)))) := by
  intro d S
  have e : (S ++ [O.exo c none])[S.length]? = some (.exo c none) := by simp
  have e2 : ((S ++ [O.exo c none]) ++ [O.exd [(f, d)]]).set S.length (O.exo c (some (S ++ [O.exo c none]).length)) = S ++ [.exo c (some (S.length + 1)), .exd [(f, d)]] := by simp
  have g0 : getv 0 [some (D.ref S.length), some d] (S ++ [O.exo c none]) = .ok (.ref S.length) (S ++ [O.exo c none]) := rfl
  have g1 : getv 1 [some (D.ref S.length), some d] (S ++ [O.exo c none]) = .ok d (S ++ [O.exo c none]) := rfl
  have x1 : xinitD [c] (.ref S.length) (S ++ [O.exo c none]) = .ok .non (S ++ [O.exo c none]) := by
    unfold xinitD
    simp only [e]
    rw [if_pos (List.mem_singleton.mpr rfl)]
  have x2 : xsetD [c] f (.ref S.length) d (S ++ [O.exo c none]) = .ok () (S ++ [.exo c (some (S.length + 1)), .exd [(f, d)]]) := by
    unfold xsetD
    simp only [e]
    rw [if_pos (List.mem_singleton.mpr rfl), e2]
  have y1 : dropM (xinitM [c] (getv 0)) [some (D.ref S.length), some d] (S ++ [O.exo c none]) = .ok (.nx [some (D.ref S.length), some d]) (S ++ [O.exo c none]) := by
    unfold dropM xinitM
    rw [bind_def, bnd_ok g0, x1]
    rfl
  have y2 : xsetM [c] f (getv 0) (getv 1) [some (D.ref S.length), some d] (S ++ [O.exo c none]) = .ok (.nx [some (D.ref S.length), some d]) (S ++ [.exo c (some (S.length + 1)), .exd [(f, d)]]) := by
    unfold xsetM
    rw [bnd_ok g1, bnd_ok g0, bnd_ok x2]
    rfl
  show (seqM (dropM (xinitM [c] (getv 0))) (xsetM [c] f (getv 0) (getv 1)) [some (D.ref S.length), some d] >>= _) (S ++ [O.exo c none]) = _
  unfold seqM
  rw [bind_def, bnd_ok y1]
  simp only [y2]
  rfl

/-! small words for the printed terms -/
open PySem PySem.Spec PyProof.Rows L2

theorem len_succ {mA : Env → M (List D)} {k : Nat} (h : ∀ r S ds S', mA r S = .ok ds S' → ds.length = k) : ∀ r S ds S', mA r S = .ok ds S' → ds.length + 1 = k + 1 := fun r S ds S' z => by rw [h r S ds S' z]
theorem wipe_sub : ∀ (is own : List Nat) (σ : Sl), (∀ i ∈ is, i ∈ own) → L2.wipe (L2.wipe σ is) own = L2.wipe σ own
  | [], own, σ, _ => rfl
  | i :: is, own, σ, h => by
    show L2.wipe ((L2.wipe σ is).set i none) own = _
    rw [wipe_set (h i List.mem_cons_self), wipe_sub is own σ fun j hj => h j (List.mem_cons_of_mem _ hj)]
theorem cg_more {X : Cx} {Γ : Nat → Addr} {E : XK} {tg : Expr} {is own : List Nat} {g : D → Env → M Env} (h : PG X tg (tGc X.K Γ E is g)) (hi : ∀ i ∈ is, i ∈ own) : PG X tg (tGc X.K Γ E own g) := by
  refine PG.weaken h fun v σ H Q ⟨φ, r, S, d, s, q, rd, p⟩ => ⟨φ, r, S, d, s, q, rd, ?_⟩
  cases hm : g d r S with
  | ok r' S' =>
    rw [hm] at p
    exact fun φ' H' σ' e' s' ⟨q', w⟩ => p φ' H' σ' e' s' ⟨q', by rw [← wipe_sub is own σ' hi, w, wipe_sub is own σ hi]⟩
  | err c fs S' => rw [hm] at p; exact p
  | no => rw [hm] at p; exact p

/-! reasoning about runs -/
open PySem PySem.Spec PyProof.Rows L2

/-- the run's end: a value, or an exception of a class, with its fields -/
def RunP {α : Type} (m : M α) (S : Sto) (QE : Nat → List (Str × D) → Sto → Prop) (Q : α → Sto → Prop) : Prop := match m S with
  | .ok a S' => Q a S'
  | .err c fs S' => QE c fs S'
  | .no => False
structure RunX {α : Type} (m : M α) (S : Sto) (QE : Nat → List (Str × D) → Sto → Prop) (Q : α → Sto → Prop) : Prop where
  out : RunP m S QE Q
abbrev Run {α : Type} (m : M α) (S : Sto) (Q : α → Sto → Prop) : Prop := RunX m S (fun _ _ _ => False) Q
section
variable {α β : Type} {m : M α} {S : Sto} {Q Q' : α → Sto → Prop} {QE QE' : Nat → List (Str × D) → Sto → Prop}
theorem runX_iff : RunX m S QE Q ↔ RunP m S QE Q := ⟨fun h => h.out, fun h => ⟨h⟩⟩
theorem RunX.imp (h : RunX m S QE Q) (k : ∀ a S', Q a S' → Q' a S') : RunX m S QE Q' := by
  have h := h.out
  refine ⟨?_⟩
  unfold RunP at h ⊢
  cases e : m S with
  | ok a S' => rw [e] at h; exact k a S' h
  | err c fs S' => rw [e] at h; exact h
  | no => rw [e] at h; exact h
theorem RunX.impE (h : RunX m S QE Q) (k : ∀ c fs S', QE c fs S' → QE' c fs S') : RunX m S QE' Q := by
  have h := h.out
  refine ⟨?_⟩
  unfold RunP at h ⊢
  cases e : m S with
  | ok a S' => rw [e] at h; exact h
  | err c fs S' => rw [e] at h; exact k c fs S' h
  | no => rw [e] at h; exact h
theorem Run.imp (h : RunX m S QE Q) (k : ∀ a S', Q a S' → Q' a S') : RunX m S QE Q' := RunX.imp h k
theorem Run.up (h : Run m S Q) : RunX m S QE Q := RunX.impE h fun _ _ _ z => z.elim
theorem Run.ex (h : Run m S Q) : ∃ a S', m S = .ok a S' ∧ Q a S' := by
  have h := h.out
  unfold RunP at h
  cases e : m S with
  | ok a S' => rw [e] at h; exact ⟨a, S', rfl, h⟩
  | err c fs S' => rw [e] at h; exact h.elim
  | no => rw [e] at h; exact h.elim
theorem Run.of {a : α} {S' : Sto} (e : m S = .ok a S') (h : Q a S') : RunX m S QE Q := ⟨by unfold RunP; rw [e]; exact h⟩
theorem run_ok {a : α} {S' : Sto} (h : m S = .ok a S') : RunX m S QE Q ↔ Q a S' := by rw [runX_iff]; unfold RunP; rw [h]
theorem run_err {c : Nat} {fs : List (Str × D)} {S' : Sto} (h : m S = .err c fs S') : RunX m S QE Q ↔ QE c fs S' := by rw [runX_iff]; unfold RunP; rw [h]
theorem run_nope (h : m S = .no) : RunX m S QE Q ↔ False := by rw [runX_iff]; unfold RunP; rw [h]
theorem run_congr {m' : M α} (h : m S = m' S) : RunX m S QE Q ↔ RunX m' S QE Q := by rw [runX_iff, runX_iff]; unfold RunP; rw [h]
theorem run_bnd {f : α → M β} {Q : β → Sto → Prop} : RunX (m >>= f) S QE Q ↔ RunX m S QE fun a S' => RunX (f a) S' QE Q := by
  cases h : m S with
  | ok a S1 =>
    rw [run_ok h, runX_iff, runX_iff]
    unfold RunP
    rw [bnd_ok h]
  | err c fs S1 => rw [run_err h]; exact run_err (by rw [bind_def, h])
  | no => rw [run_nope h]; exact run_nope (by rw [bind_def, h])
theorem run_pure {a : α} : RunX (pure a : M α) S QE Q ↔ Q a S := run_ok rfl
theorem run_stuck : RunX (stuck : M α) S QE Q ↔ False := run_nope rfl
theorem run_ite {c : Prop} [Decidable c] {m n : M α} : RunX (if c then m else n) S QE Q ↔ if c then RunX m S QE Q else RunX n S QE Q := by split <;> exact Iff.rfl
theorem run_need {c : Prop} [Decidable c] {m : M α} : RunX (if c then m else stuck) S QE Q ↔ c ∧ RunX m S QE Q := by
  by_cases h : c
  · rw [if_pos h]; exact ⟨fun z => ⟨h, z⟩, fun z => z.2⟩
  · rw [if_neg h, run_stuck]; exact ⟨False.elim, fun z => h z.1⟩
end
section
variable {S : Sto} {r : Env} {Q : D → Sto → Prop} {QF : Fl → Sto → Prop} {QB : Bool → Sto → Prop} {QL : List D → Sto → Prop} {ma mb mc : Env → M D} {mA : Env → M (List D)} {tA tB : Env → M Bool} {mS mT : Env → M Fl} {QE : Nat → List (Str × D) → Sto → Prop}
theorem run_getv {i : Nat} {d : D} (h : r[i]? = some (some d)) : RunX (getv i r) S QE Q ↔ Q d S := run_ok (by unfold getv; rw [h])
theorem run_cst {d : D} : RunX (cst d r) S QE Q ↔ Q d S := run_pure
theorem run_bin {f : D → D → M D} : RunX (binM f ma mb r) S QE Q ↔ RunX (ma r) S QE fun x S1 => RunX (mb r) S1 QE fun y S2 => RunX (f x y) S2 QE Q := by unfold binM; simp only [run_bnd]
theorem run_un {f : D → M D} : RunX (unM f ma r) S QE Q ↔ RunX (ma r) S QE fun x S1 => RunX (f x) S1 QE Q := by unfold unM; simp only [run_bnd]
theorem run_cl {f : List D → M D} : RunX (clM f mA r) S QE Q ↔ RunX (mA r) S QE fun x S1 => RunX (f x) S1 QE Q := by unfold clM; simp only [run_bnd]
theorem run_nilA : RunX (nilA r) S QE QL ↔ QL [] S := run_pure
theorem run_consA : RunX (consA ma mA r) S QE QL ↔ RunX (ma r) S QE fun x S1 => RunX (mA r) S1 QE fun xs S2 => QL (x :: xs) S2 := by unfold consA; simp only [run_bnd, run_pure]
theorem run_mkT {xs : List D} : RunX (mkT xs) S QE Q ↔ xs.length ≤ sizeLine ∧ Q (.tup xs) S := by unfold mkT; rw [run_need, run_pure]
theorem run_newO {o : O} : RunX (newO o) S QE Q ↔ Q (.ref S.length) (S ++ [o]) := run_ok rfl
theorem run_mkL {xs : List D} : RunX (mkL xs) S QE Q ↔ xs.length ≤ sizeLine ∧ Q (.ref S.length) (S ++ [.lst xs]) := by unfold mkL; rw [run_need, run_newO]
theorem run_tup : RunX (tupM mA r) S QE Q ↔ RunX (mA r) S QE fun xs S1 => xs.length ≤ sizeLine ∧ Q (.tup xs) S1 := by unfold tupM; simp only [run_bnd, run_mkT]
theorem run_lst : RunX (lstM mA r) S QE Q ↔ RunX (mA r) S QE fun xs S1 => xs.length ≤ sizeLine ∧ Q (.ref S1.length) (S1 ++ [.lst xs]) := by unfold lstM; simp only [run_bnd, run_mkL]
theorem run_asB {b : Bool} : RunX (asB (.bl b)) S QE QB ↔ QB b S := run_pure
theorem run_tst : RunX (tstM ma r) S QE QB ↔ RunX (ma r) S QE fun x S1 => RunX (asB x) S1 QE QB := by unfold tstM; simp only [run_bnd]
theorem run_ifM : RunX (ifM tA ma mb r) S QE Q ↔ RunX (tA r) S QE fun c S1 => if c = true then RunX (ma r) S1 QE Q else RunX (mb r) S1 QE Q := by unfold ifM; simp only [run_bnd, run_ite]
theorem run_andT : RunX (andT tA tB r) S QE QB ↔ RunX (tA r) S QE fun c S1 => if c = true then RunX (tB r) S1 QE QB else QB false S1 := by unfold andT; simp only [run_bnd, run_ite, run_pure]
theorem run_orT : RunX (orT tA tB r) S QE QB ↔ RunX (tA r) S QE fun c S1 => if c = true then QB true S1 else RunX (tB r) S1 QE QB := by unfold orT; simp only [run_bnd, run_ite, run_pure]
theorem run_notT : RunX (notT tA r) S QE QB ↔ RunX (tA r) S QE fun c S1 => QB (!c) S1 := by unfold notT; simp only [run_bnd, run_pure]
theorem run_andV : RunX (andV ma mb r) S QE Q ↔ RunX (ma r) S QE fun x S1 => RunX (asB x) S1 QE fun c S2 => if c = true then RunX (mb r) S2 QE Q else Q (.bl false) S2 := by unfold andV; simp only [run_bnd, run_ite, run_pure]
theorem run_orV : RunX (orV ma mb r) S QE Q ↔ RunX (ma r) S QE fun x S1 => RunX (asB x) S1 QE fun c S2 => if c = true then Q (.bl true) S2 else RunX (mb r) S2 QE Q := by unfold orV; simp only [run_bnd, run_ite, run_pure]
theorem run_notV : RunX (notV ma r) S QE Q ↔ RunX (ma r) S QE fun x S1 => RunX (asB x) S1 QE fun c S2 => Q (.bl (!c)) S2 := by unfold notV; simp only [run_bnd, run_pure]
theorem run_nx : RunX (nxM r) S QE QF ↔ QF (.nx r) S := run_pure
def onFl (k : Env → Sto → Prop) (QF : Fl → Sto → Prop) : Fl → Sto → Prop
  | .nx r, S => k r S
  | .rt d, S => QF (.rt d) S
  | .bk r, S => QF (.bk r) S
  | .ct r, S => QF (.ct r) S
theorem on_nx {k : Env → Sto → Prop} : onFl k QF (.nx r) S ↔ k r S := Iff.rfl
theorem on_rt {k : Env → Sto → Prop} {d : D} : onFl k QF (.rt d) S ↔ QF (.rt d) S := Iff.rfl
theorem run_seq : RunX (seqM mS mT r) S QE QF ↔ RunX (mS r) S QE (onFl (fun r' S1 => RunX (mT r') S1 QE QF) QF) := by
  unfold seqM
  rw [run_bnd]
  constructor
  · intro h
    refine h.imp fun f S1 q => ?_
    cases f with
    | nx r' => exact q
    | rt d => exact (run_pure (Q := QF)).mp q
    | bk r' => exact (run_pure (Q := QF)).mp q
    | ct r' => exact (run_pure (Q := QF)).mp q
  · intro h
    refine h.imp fun f S1 q => ?_
    cases f with
    | nx r' => exact q
    | rt d => exact (run_pure (Q := QF)).mpr q
    | bk r' => exact (run_pure (Q := QF)).mpr q
    | ct r' => exact (run_pure (Q := QF)).mpr q
theorem run_ret : RunX (retM ma r) S QE QF ↔ RunX (ma r) S QE fun d S1 => QF (.rt d) S1 := by unfold retM; simp only [run_bnd, run_pure]
theorem run_drop : RunX (dropM ma r) S QE QF ↔ RunX (ma r) S QE fun _ S1 => QF (.nx r) S1 := by unfold dropM; simp only [run_bnd, run_pure]
theorem run_ifS : RunX (ifS tA mS mT r) S QE QF ↔ RunX (tA r) S QE fun c S1 => if c = true then RunX (mS r) S1 QE QF else RunX (mT r) S1 QE QF := by unfold ifS; simp only [run_bnd, run_ite]
theorem run_asg {g : D → Env → M Env} : RunX (asgM ma g r) S QE QF ↔ RunX (ma r) S QE fun d S1 => RunX (g d r) S1 QE fun r' S2 => QF (.nx r') S2 := by unfold asgM; simp only [run_bnd, run_pure]
theorem run_gNm {i : Nat} {d : D} {QN : Env → Sto → Prop} : RunX (gNm i d r) S QE QN ↔ QN (r.set i (some d)) S := run_pure
theorem run_par {i j : Nat} : RunX (parM i j mA r) S QE QF ↔ RunX (mA r) S QE fun ds S1 => RunX (match ds with
  | [x, y] => pure (.nx ((r.set i (some x)).set j (some y)))
  | _ => stuck : M Fl) S1 QE QF := by unfold parM; exact run_bnd
theorem run_par3 {i j k : Nat} : RunX (par3M i j k mA r) S QE QF ↔ RunX (mA r) S QE fun ds S1 => RunX (match ds with
  | [x, y, z] => pure (.nx (((r.set i (some x)).set j (some y)).set k (some z)))
  | _ => stuck : M Fl) S1 QE QF := by unfold par3M; exact run_bnd
theorem run_aug {i : Nat} {op : D → D → M D} : RunX (augM i ma op r) S QE QF ↔ RunX (getv i r) S QE fun x S1 => RunX (ma r) S1 QE fun y S2 => RunX (op x y) S2 QE fun z S3 => QF (.nx (r.set i (some z))) S3 := by unfold augM; simp only [run_bnd, run_pure]
theorem run_augS {get ip : D → D → M D} {set : D → D → D → M Unit} : RunX (augSM ma mb mc get ip set r) S QE QF ↔ RunX (ma r) S QE fun o S1 => RunX (mb r) S1 QE fun i S2 => RunX (get o i) S2 QE fun x S3 => RunX (mc r) S3 QE fun y S4 => RunX (ip x y) S4 QE fun z S5 => RunX (set o i z) S5 QE fun _ S6 => QF (.nx r) S6 := by unfold augSM; simp only [run_bnd, run_pure]
theorem run_gSb {op : D → D → D → M Unit} {d : D} {QN : Env → Sto → Prop} : RunX (gSb ma mb op d r) S QE QN ↔ RunX (ma r) S QE fun o S1 => RunX (mb r) S1 QE fun i S2 => RunX (op o i d) S2 QE fun _ S3 => QN r S3 := by unfold gSb; simp only [run_bnd, run_pure]
def onRet (Q : D → Sto → Prop) : Fl → Sto → Prop
  | .rt d, S => Q d S
  | .nx _, S => Q .non S
  | _, _ => False
theorem ret_rt {d : D} : onRet Q (.rt d) S ↔ Q d S := Iff.rfl
theorem ret_nx : onRet Q (.nx r) S ↔ Q .non S := Iff.rfl
theorem run_fn {n : Nat} {ds : List D} : RunX (fnM n mS ds) S QE Q ↔ RunX (mS (ds.map some ++ List.replicate (n - ds.length) none)) S QE (onRet Q) := by
  unfold fnM
  rw [run_bnd]
  constructor
  · intro h
    refine h.imp fun f S1 q => ?_
    cases f with
    | nx r' => exact (run_pure (Q := Q)).mp q
    | rt d => exact (run_pure (Q := Q)).mp q
    | bk r' => exact (run_stuck (Q := Q)).mp q
    | ct r' => exact (run_stuck (Q := Q)).mp q
  · intro h
    refine h.imp fun f S1 q => ?_
    cases f with
    | nx r' => exact (run_pure (Q := Q)).mpr q
    | rt d => exact (run_pure (Q := Q)).mpr q
    | bk r' => exact q.elim
    | ct r' => exact q.elim
theorem run_slM {ml mh : Env → M (Option Int)} : RunX (slM ma ml mh r) S QE Q ↔ RunX (ma r) S QE fun d S1 => RunX (ml r) S1 QE fun lo S2 => RunX (mh r) S2 QE fun hi S3 => RunX (slD d lo hi) S3 QE Q := by unfold slM; simp only [run_bnd]
theorem run_noP {QO : Option Int → Sto → Prop} : RunX (noP r) S QE QO ↔ QO none S := run_pure
theorem run_someP {QO : Option Int → Sto → Prop} : RunX (someP ma r) S QE QO ↔ RunX (ma r) S QE fun d S1 => RunX (match d with
  | .int i => pure (some i)
  | _ => stuck : M (Option Int)) S1 QE QO := by unfold someP; exact run_bnd
theorem run_isi {T : Tn} : RunX (isiM T ma r) S QE Q ↔ RunX (ma r) S QE fun d S1 => ∃ t, tyTn S1 d = some t ∧ Q (.bl (t.sub T)) S1 := by
  unfold isiM
  rw [run_bnd]
  have key : ∀ d S1, RunX (fun S => match tyTn S d with
      | some t => .ok (.bl (t.sub T)) S
      | none => .no) S1 QE Q ↔ ∃ t, tyTn S1 d = some t ∧ Q (.bl (t.sub T)) S1 := fun d S1 => by
    cases ht : tyTn S1 d with
    | none => rw [run_nope (by simp only [ht])]; exact ⟨fun h => h.elim, fun ⟨t, e, _⟩ => by cases e⟩
    | some t => rw [run_ok (a := .bl (t.sub T)) (S' := S1) (by simp only [ht])]; exact ⟨fun h => ⟨t, rfl, h⟩, fun ⟨u, e, q⟩ => by cases e; exact q⟩
  constructor
  · intro h
    exact h.imp fun d S1 q => (key d S1).mp q
  · intro h
    exact h.imp fun d S1 q => (key d S1).mpr q
/-! operations -/
theorem run_addI {i j : Int} : RunX (addD (.int i) (.int j)) S QE Q ↔ Q (.int (i + j)) S := run_pure
theorem run_addI' {i j : Int} : RunX (addI (.int i) (.int j)) S QE Q ↔ Q (.int (i + j)) S := run_pure
theorem run_subI {i j : Int} : RunX (subD (.int i) (.int j)) S QE Q ↔ Q (.int (i - j)) S := run_pure
theorem run_mulI {i j : Int} : RunX (mulD (.int i) (.int j)) S QE Q ↔ (small64 i || small64 j) = true ∧ Q (.int (i * j)) S := by unfold mulD; rw [run_need, run_pure]
theorem run_mulS {a : Str} {k : Int} : RunX (mulD (.str a) (.int k)) S QE Q ↔ (a.length ≤ 1000 ∧ -1000 ≤ k ∧ k ≤ 1000) ∧ Q (.str (Txt.mul a k)) S := by unfold mulD; rw [run_need, run_pure]
theorem run_modI {i j : Int} : RunX (modD (.int i) (.int j)) S QE Q ↔ 0 < j ∧ Q (.int (i % j)) S := by unfold modD; rw [run_need, run_pure]
theorem run_fdivI {i j : Int} : RunX (fdivD (.int i) (.int j)) S QE Q ↔ (0 < j ∧ j < 1073741824) ∧ Q (.int (i / j)) S := by unfold fdivD; rw [run_need, run_pure]
theorem run_ltI {i j : Int} : RunX (ltD (.int i) (.int j)) S QE Q ↔ Q (.bl (decide (i < j))) S := run_pure
theorem run_leI {i j : Int} : RunX (leD (.int i) (.int j)) S QE Q ↔ Q (.bl (decide (i ≤ j))) S := run_pure
theorem run_gtI {i j : Int} : RunX (gtD (.int i) (.int j)) S QE Q ↔ Q (.bl (decide (j < i))) S := run_pure
theorem run_geI {i j : Int} : RunX (geD (.int i) (.int j)) S QE Q ↔ Q (.bl (decide (j ≤ i))) S := run_pure
theorem run_isN {x : D} : RunX (isNoneD x .non) S QE Q ↔ Q (.bl (isNone x)) S := run_pure
theorem run_notN {x : D} : RunX (notNoneD x .non) S QE Q ↔ Q (.bl (!isNone x)) S := run_pure
theorem run_ofB {f : Sto → Option Bool} {b : Bool} (h : f S = some b) : RunX (ofB f) S QE Q ↔ Q (.bl b) S := run_ok (by unfold ofB; rw [h])
theorem run_absI {i : Int} : RunX (absD [.int i]) S QE Q ↔ Q (.int (if i < 0 then -i else i)) S := run_pure
theorem run_intB {b : Bool} : RunX (intD [.bl b]) S QE Q ↔ Q (.int (if b then 1 else 0)) S := run_pure
theorem run_tupT {xs : List D} : RunX (tupleD [.tup xs]) S QE Q ↔ Q (.tup xs) S := run_pure
theorem run_tupL {n : Nat} {xs : List D} (h : S[n]? = some (.lst xs)) : RunX (tupleD [.ref n]) S QE Q ↔ Q (.tup xs) S := run_ok (by unfold tupleD seqL; simp only [h])
theorem run_lenL {n : Nat} {xs : List D} (h : S[n]? = some (.lst xs)) : RunX (lenD [.ref n]) S QE Q ↔ Q (.int xs.length) S := run_ok (by unfold lenD; simp only [h])
theorem run_lenT {xs : List D} : RunX (lenD [.tup xs]) S QE Q ↔ Q (.int xs.length) S := run_ok rfl
theorem run_lenF {xs : List D} : RunX (lenD [.fl xs]) S QE Q ↔ Q (.int xs.length) S := run_ok rfl
theorem run_lenS {x : Str} (h : x.length ≤ sizeLine) : RunX (lenD [.str x]) S QE Q ↔ Q (.int x.length) S := run_ok (by unfold lenD; simp only [if_pos h])
theorem run_ixL {n : Nat} {xs : List D} {i : Int} {d : D} (h : S[n]? = some (.lst xs)) (hi : atI xs i = some d) : RunX (ixD (.ref n) (.int i)) S QE Q ↔ Q d S := run_ok (by unfold ixD; simp only [h, hi])
theorem run_ixT {xs : List D} {i : Int} {d : D} (hi : atI xs i = some d) : RunX (ixD (.tup xs) (.int i)) S QE Q ↔ Q d S := run_ok (by unfold ixD; simp only [hi])
theorem run_getL {n : Nat} {xs : List D} {i : Int} {d : D} (h0 : 0 ≤ i) (h1 : i < 2 ^ 63) (h : S[n]? = some (.lst xs)) (hi : xs[i.toNat]? = some d) : RunX (getLD (.ref n) (.int i)) S QE Q ↔ Q d S := run_ok (by unfold getLD; simp only [h, hi]; rw [if_pos ⟨h0, h1⟩])
theorem run_setL {n : Nat} {xs : List D} {i : Int} {j : Nat} {d : D} {QU : Unit → Sto → Prop} (h : S[n]? = some (.lst xs)) (hi : ixN xs.length i = some j) : RunX (setLD (.ref n) (.int i) d) S QE QU ↔ QU () (S.set n (.lst (xs.set j d))) := run_ok (by unfold setLD; simp only [h, hi])
theorem eqB_int {i j : Int} : eqB S (.int i) (.int j) = some (i == j) := by
  have e : eqP S (.int i) (.int j) = some (i == j) := by
    unfold eqP deep
    simp [toPy, SeqAt.shaped, PyData.canLay0, PyData.depth, PyData.eqv]
  unfold eqB
  simp only [twoStr, e]
theorem run_eqS {x y : Str} : RunX (eqD (.str x) (.str y)) S QE Q ↔ Q (.bl (x == y)) S := by unfold eqD; exact run_ofB eqB_str
theorem run_eqI {i j : Int} : RunX (eqD (.int i) (.int j)) S QE Q ↔ Q (.bl (i == j)) S := by unfold eqD; exact run_ofB eqB_int
end

open PySem PySem.Spec PyProof.Rows L2

theorem ite_t {a b : Prop} {c : Prop} [Decidable c] (h : c) (q : a) : if c then a else b := by rw [if_pos h]; exact q
theorem ite_f {a b : Prop} {c : Prop} [Decidable c] (h : ¬ c) (q : b) : if c then a else b := by rw [if_neg h]; exact q
theorem ite_two {a b : Prop} {c : Prop} [Decidable c] (h1 : c → a) (h2 : ¬ c → b) : if c then a else b := by
  by_cases h : c
  · rw [if_pos h]; exact h1 h
  · rw [if_neg h]; exact h2 h
theorem ite_b {a b : Prop} {p : Prop} [Decidable p] (h1 : p → a) (h2 : ¬ p → b) : if decide p = true then a else b := by
  by_cases h : p
  · rw [if_pos (decide_eq_true h)]; exact h1 h
  · rw [if_neg (by simp [h])]; exact h2 h
theorem ite_nb {a b : Prop} {p : Prop} [Decidable p] (h1 : p → b) (h2 : ¬ p → a) : if (!decide p) = true then a else b := by
  by_cases h : p
  · rw [if_neg (by simp [h])]; exact h1 h
  · rw [if_pos (by simp [h])]; exact h2 h
theorem ite_eq {a b : Prop} {i j : Int} (h1 : i = j → a) (h2 : i ≠ j → b) : if (i == j) = true then a else b := by
  by_cases h : i = j
  · rw [if_pos (beq_iff_eq.mpr h)]; exact h1 h
  · rw [if_neg (fun z => h (beq_iff_eq.mp z))]; exact h2 h
/-! one step of a run -/
local macro_rules | `(tactic| walk_at "dl") => `(tactic| first
  | (with_reducible first
  | refine run_fn.mpr ?_ | refine run_seq.mpr ?_ | refine on_nx.mpr ?_ | refine on_rt.mpr ?_ | refine ret_rt.mpr ?_ | refine ret_nx.mpr ?_ | refine run_nx.mpr ?_ | refine run_ret.mpr ?_ | refine run_drop.mpr ?_ | refine run_ifS.mpr ?_ | refine run_asg.mpr ?_ | refine run_gNm.mpr ?_
  | refine run_par.mpr ?_ | refine run_aug.mpr ?_ | refine run_gSb.mpr ?_ | refine run_tst.mpr ?_ | refine run_asB.mpr ?_ | refine run_bin.mpr ?_ | refine run_un.mpr ?_ | refine run_cl.mpr ?_ | refine run_consA.mpr ?_ | refine run_nilA.mpr ?_ | refine run_cst.mpr ?_
  | refine run_ifM.mpr ?_ | refine run_andT.mpr ?_ | refine run_orT.mpr ?_ | refine run_notT.mpr ?_ | refine run_andV.mpr ?_ | refine run_orV.mpr ?_ | refine run_notV.mpr ?_ | refine run_tup.mpr ?_ | refine run_lst.mpr ?_ | refine run_slM.mpr ?_ | refine run_noP.mpr ?_ | refine run_someP.mpr ?_
  | refine run_addI.mpr ?_ | refine run_addI'.mpr ?_ | refine run_subI.mpr ?_ | refine run_ltI.mpr ?_ | refine run_leI.mpr ?_ | refine run_gtI.mpr ?_ | refine run_geI.mpr ?_ | refine run_isN.mpr ?_ | refine run_notN.mpr ?_ | refine run_eqI.mpr ?_ | refine run_absI.mpr ?_ | refine run_intB.mpr ?_ | refine run_tupT.mpr ?_ | refine run_lenT.mpr ?_ | refine run_lenF.mpr ?_
  | refine run_pure.mpr ?_)
  | ((with_reducible refine' (run_getv ?dlh).mpr ?_); (case dlh => rfl)) | ((with_reducible refine' (run_ixT ?dlh).mpr ?_); (case dlh => rfl)))

/-! ### the bag -/
structure Bag (S : Sto) (b : Nat) : Prop where
  ex : ∃ (x y z : Int) (l : Nat) (cells : List Int), S[b]? = some (.lst [.int x, .int y, .int z, .ref l]) ∧ S[l]? = some (.lst (cells.map D.int)) ∧ l < b ∧ 0 ≤ y ∧ y < 2147483647 ∧ 0 ≤ z
/-- what stood stands, but the bag -/
structure Fr (b : Nat) (S S' : Sto) : Prop where
  len : S.length ≤ S'.length
  at_ : ∀ i, i < S.length → i ≠ b → S'[i]? = S[i]?
theorem Fr.refl {b : Nat} {S : Sto} : Fr b S S := ⟨Nat.le_refl _, fun _ _ _ => rfl⟩
theorem Fr.trans {b : Nat} {S S1 S2 : Sto} (a : Fr b S S1) (c : Fr b S1 S2) : Fr b S S2 := ⟨Nat.le_trans a.len c.len, fun i h n => (c.at_ i (Nat.lt_of_lt_of_le h a.len) n).trans (a.at_ i h n)⟩
theorem Fr.get {b : Nat} {S S' : Sto} (a : Fr b S S') {i : Nat} {o : O} (n : i ≠ b) (h : S[i]? = some o) : S'[i]? = some o := by
  rw [a.at_ i (List.getElem?_eq_some_iff.mp h).1 n]; exact h
theorem Fr.app {b : Nat} {S : Sto} {T : List O} : Fr b S (S ++ T) := ⟨by simp, fun i h _ => List.getElem?_append_left h⟩
theorem Bag.lt {S : Sto} {b : Nat} (h : Bag S b) : b < S.length := by
  obtain ⟨_, _, _, _, _, e, _⟩ := h.ex
  exact (List.getElem?_eq_some_iff.mp e).1
/-- pure runs: something is laid behind -/
def Gw (S S' : Sto) : Prop := ∃ T, S' = S ++ T
theorem Gw.refl {S : Sto} : Gw S S := ⟨[], by simp⟩
theorem Gw.trans {S S1 S2 : Sto} (a : Gw S S1) (b : Gw S1 S2) : Gw S S2 := by
  obtain ⟨t, rfl⟩ := a
  obtain ⟨u, rfl⟩ := b
  exact ⟨t ++ u, by rw [List.append_assoc]⟩
theorem Gw.one {S : Sto} {o : O} : Gw S (S ++ [o]) := ⟨[o], rfl⟩
theorem Gw.fr {b : Nat} {S S' : Sto} (a : Gw S S') : Fr b S S' := by
  obtain ⟨t, rfl⟩ := a
  exact Fr.app
theorem Gw.get {S S' : Sto} (a : Gw S S') {i : Nat} {o : O} (h : S[i]? = some o) : S'[i]? = some o := by
  obtain ⟨t, rfl⟩ := a
  rw [List.getElem?_append_left (List.getElem?_eq_some_iff.mp h).1]; exact h
theorem Gw.bag {S S' : Sto} {b : Nat} (a : Gw S S') (h : Bag S b) : Bag S' b := by
  obtain ⟨x, y, z, l, cells, h1, h2, h3⟩ := h.ex
  exact ⟨x, y, z, l, cells, a.get h1, a.get h2, h3⟩
theorem last_get {S : Sto} {o : O} : (S ++ [o])[S.length]? = some o := by
  rw [List.getElem?_append_right (Nat.le_refl _)]; simp

def bagB : Env → M Fl :=
    retM (lstM (consA (cst (.int 0)) (consA (cst (.int 1234567891)) (consA (cst (.int 0)) (consA (lcM [1] (itAny (slM (getv 0) (noP) (someP (cst (.int 63))))) (gNm 1) (yesM) (clM absD (consA (getv 1) (nilA)))) (nilA))))))
/-- the second half: from a bag whose first number may be great -/
def takeB2 : Env → M Fl := (seqM (ifS (tstM (binM gtD (binM ixD (getv 0) (cst (.int 0))) (cst (.int 0)))) (seqM (asgM (binM modD (binM ixD (getv 0) (cst (.int 0))) (getv 1)) (gNm 3))
    (seqM (asgM (binM fdivD (binM ixD (getv 0) (cst (.int 0))) (getv 1)) (gSb (getv 0) (cst (.int 0)) setLD))
    (retM (getv 3)))) (nxM))
    (seqM (asgM (binM modD (binM mulD (binM addD (binM ixD (getv 0) (cst (.int 1))) (cst (.int 1))) (cst (.int 39373))) (cst (.int 1000000007))) (gNm 4))
    (seqM (asgM (binM modD (binM mulD (binM modD (binM mulD (getv 4) (getv 4)) (cst (.int 998244353))) (cst (.int 30011))) (cst (.int 998244353))) (gNm 5))
    (seqM (ifS (tstM (binM gtD (getv 1) (cst (.int 1000000)))) (retM (binM modD (binM addD (binM mulD (getv 5) (cst (.int 1000000007))) (getv 4)) (getv 1))) (nxM))
    (retM (binM modD (binM fdivD (getv 5) (cst (.int 7))) (getv 1)))))))
def takeB3 : Env → M Fl := (asgM (binM modD (binM addD (binM addD (binM mulD (binM ixD (getv 0) (cst (.int 1))) (cst (.int 48271))) (binM modD (getv 2) (cst (.int 2147483647)))) (binM mulD (cst (.int 7919)) (binM ixD (getv 0) (cst (.int 2))))) (cst (.int 2147483647))) (gSb (getv 0) (cst (.int 1)) setLD))
def takeB4 : Env → M Fl := (seqM (augSM (getv 0) (cst (.int 2)) (cst (.int 1)) getLD addI setLD)
    (seqM (ifS (tstM (binM geD (getv 2) (cst (.int 1000000000000000000)))) (asgM (getv 2) (gSb (getv 0) (cst (.int 0)) setLD)) (nxM)) takeB3))
def takeB : Env → M Fl :=
    seqM (ifS (tstM (binM eqD (binM ixD (getv 0) (cst (.int 0))) (cst (.int 0)))) (seqM (asgM (cst (.int 0)) (gNm 2))
    (seqM (ifS (tstM (binM ltD (binM ixD (getv 0) (cst (.int 2))) (clM lenD (consA (binM ixD (getv 0) (cst (.int 3))) (nilA))))) (asgM (binM ixD (binM ixD (getv 0) (cst (.int 3))) (binM ixD (getv 0) (cst (.int 2)))) (gNm 2)) (nxM))
    takeB4)) (nxM)) takeB2
def takeM : List D → M D := fnM 6 takeB
theorem small_of {i : Int} (h0 : 0 ≤ i) (h1 : i < 2 ^ 64) : small64 i = true := by
  unfold small64
  rw [Bool.and_eq_true]
  exact ⟨decide_eq_true (by omega), decide_eq_true h1⟩
theorem take2 {S S0 : Sto} {b l : Nat} {k x y z : Int} {cells : List Int} {v2 : Option D} {Q : D → Sto → Prop} (hk : 0 < k) (hk2 : k < 1073741824) (fr : Fr b S0 S) (hb : S[b]? = some (.lst [.int x, .int y, .int z, .ref l])) (hl : S[l]? = some (.lst (cells.map D.int))) (hlb : l < b) (hy : 0 ≤ y) (hy2 : y < 2147483647) (hz : 0 ≤ z)
    (h : ∀ n S', 0 ≤ n → n < k → Bag S' b → Fr b S0 S' → Q (.int n) S') : Run (takeB2 [some (.ref b), some (.int k), v2, none, none, none]) S (onRet Q) := by
  have hbl : b < S.length := (List.getElem?_eq_some_iff.mp hb).1
  unfold takeB2
  repeat (first | walk_at "dl" | ((with_reducible refine' (run_ixL hb ?dlh).mpr ?_); (case dlh => rfl)))
  refine ite_b (fun hx => ?_) (fun hx => ?_)
  · repeat (first | walk_at "dl" | ((with_reducible refine' (run_ixL hb ?dlh).mpr ?_); (case dlh => rfl)) | with_reducible refine run_modI.mpr ⟨hk, ?_⟩ | with_reducible refine run_fdivI.mpr ⟨⟨hk, hk2⟩, ?_⟩ | ((with_reducible refine' (run_setL hb ?dlh).mpr ?_); (case dlh => rfl)))
    refine h _ _ (Int.emod_nonneg _ (by omega)) (Int.emod_lt_of_pos _ hk) ⟨x / k, y, z, l, cells, ?_, ?_, hlb, hy, hy2, hz⟩ (fr.trans ⟨by simp, fun i hi n => by rw [List.getElem?_set_ne (Ne.symm n)]⟩)
    · rw [List.getElem?_set_self hbl]; rfl
    · rw [List.getElem?_set_ne (Nat.ne_of_gt hlb)]; exact hl
  · repeat (first | walk_at "dl" | ((with_reducible refine' (run_ixL hb ?dlh).mpr ?_); (case dlh => rfl)) | with_reducible refine run_mulI.mpr ⟨by first | rfl | (rw [Bool.or_eq_true]; exact .inr rfl) | (rw [Bool.or_eq_true]; exact .inl (small_of (Int.emod_nonneg _ (by omega)) (Int.lt_trans (Int.emod_lt_of_pos _ (by omega)) (by omega)))), ?_⟩ | with_reducible refine run_modI.mpr ⟨by omega, ?_⟩)
    refine ite_b (fun hg => ?_) (fun hg => ?_)
    · repeat (first | walk_at "dl" | ((with_reducible refine' run_mulI.mpr ⟨?dlh, ?_⟩); (case dlh => (rw [Bool.or_eq_true]; first | exact .inr rfl | exact .inl rfl))) | with_reducible refine run_modI.mpr ⟨by omega, ?_⟩)
      exact h _ _ (Int.emod_nonneg _ (by omega)) (Int.emod_lt_of_pos _ hk) ⟨x, y, z, l, cells, hb, hl, hlb, hy, hy2, hz⟩ fr
    · repeat (first | walk_at "dl" | with_reducible refine run_modI.mpr ⟨by omega, ?_⟩ | with_reducible refine run_fdivI.mpr ⟨by omega, ?_⟩)
      exact h _ _ (Int.emod_nonneg _ (by omega)) (Int.emod_lt_of_pos _ hk) ⟨x, y, z, l, cells, hb, hl, hlb, hy, hy2, hz⟩ fr
theorem set_at {S : Sto} {b : Nat} {o u : O} (h : S[b]? = some u) : (S.set b o)[b]? = some o := List.getElem?_set_self (List.getElem?_eq_some_iff.mp h).1
theorem set_ne {S : Sto} {b l : Nat} {o : O} (h : l ≠ b) : (S.set b o)[l]? = S[l]? := List.getElem?_set_ne (Ne.symm h)
theorem Fr.set {b : Nat} {S : Sto} {o : O} : Fr b S (S.set b o) := ⟨by simp, fun i _ n => set_ne n⟩
theorem int_at {cells : List Int} {z : Int} (h0 : 0 ≤ z) (h : z < (cells.length : Int)) : ∃ c, atI (cells.map D.int) z = some (.int c) := by
  have hz : z.toNat < cells.length := by omega
  refine ⟨cells[z.toNat], ?_⟩
  unfold atI ixN
  rw [if_pos h0, if_pos (by simpa using h)]
  show (cells.map D.int)[z.toNat]? = _
  rw [List.getElem?_map, List.getElem?_eq_getElem hz]
  rfl
theorem take_run {S : Sto} {b : Nat} {k : Int} {Q : D → Sto → Prop} (hb : Bag S b) (hk : 0 < k) (hk2 : k < 1073741824) (h : ∀ n S', 0 ≤ n → n < k → Bag S' b → Fr b S S' → Q (.int n) S') : Run (takeM [.ref b, .int k]) S Q := by
  obtain ⟨x, y, z, l, cells, hb, hl, hlb, hy, hy2, hz⟩ := hb.ex
  have hbl : b < S.length := (List.getElem?_eq_some_iff.mp hb).1
  unfold takeM takeB
  have key : ∀ (v : Int), Run (takeB4 [some (.ref b), some (.int k), some (.int v), none, none, none]) S (onFl (fun r' S1 => Run (takeB2 r') S1 (onRet Q)) (onRet Q)) := fun v => by
    unfold takeB4
    refine run_seq.mpr (run_augS.mpr ?_)
    repeat (first | walk_at "dl" | ((with_reducible refine' (run_getL (by omega) (by omega) hb ?dlh).mpr ?_); (case dlh => rfl)) | ((with_reducible refine' (run_setL hb ?dlh).mpr ?_); (case dlh => rfl)))
    have hb1 : (S.set b (.lst [.int x, .int y, .int (z + 1), .ref l]))[b]? = some (.lst [.int x, .int y, .int (z + 1), .ref l]) := set_at hb
    have hl1 : (S.set b (.lst [.int x, .int y, .int (z + 1), .ref l]))[l]? = some (.lst (cells.map D.int)) := (set_ne (Nat.ne_of_lt hlb)).trans hl
    have fr1 : Fr b S (S.set b (.lst [.int x, .int y, .int (z + 1), .ref l])) := Fr.set
    show if _ then Run _ (S.set b (.lst [.int x, .int y, .int (z + 1), .ref l])) _ else Run _ (S.set b (.lst [.int x, .int y, .int (z + 1), .ref l])) _
    generalize S.set b (.lst [.int x, .int y, .int (z + 1), .ref l]) = S1 at hb1 hl1 fr1
    have fin : ∀ (x' : Int) (S2 : Sto), S2[b]? = some (.lst [.int x', .int y, .int (z + 1), .ref l]) → S2[l]? = some (.lst (cells.map D.int)) → Fr b S S2 →
        Run (takeB3 [some (.ref b), some (.int k), some (.int v), none, none, none]) S2 (onFl (fun r' S1 => Run (takeB2 r') S1 (onRet Q)) (onRet Q)) := fun x' S2 hb2 hl2 fr2 => by
      unfold takeB3
      repeat (first | walk_at "dl" | ((with_reducible refine' (run_ixL hb2 ?dlh).mpr ?_); (case dlh => rfl)) | ((with_reducible refine' (run_setL hb2 ?dlh).mpr ?_); (case dlh => rfl)) | ((with_reducible refine' run_mulI.mpr ⟨?dlh, ?_⟩); (case dlh => (rw [Bool.or_eq_true]; first | exact .inr rfl | exact .inl rfl))) | with_reducible refine run_modI.mpr ⟨by omega, ?_⟩)
      exact take2 hk hk2 (fr2.trans Fr.set) (set_at hb2) ((set_ne (Nat.ne_of_lt hlb)).trans hl2) hlb (Int.emod_nonneg _ (by omega)) (Int.emod_lt_of_pos _ (by omega)) (by omega) h
    refine ite_b (fun hx => ?_) (fun hx => ?_)
    · repeat (first | walk_at "dl" | ((with_reducible refine' (run_setL hb1 ?dlh).mpr ?_); (case dlh => rfl)))
      exact fin v _ (set_at hb1) ((set_ne (Nat.ne_of_lt hlb)).trans hl1) (fr1.trans Fr.set)
    · repeat (first | walk_at "dl")
      exact fin x S1 hb1 hl1 fr1
  repeat (first | walk_at "dl" | ((with_reducible refine' (run_ixL hb ?dlh).mpr ?_); (case dlh => rfl)))
  refine ite_eq (fun hx => ?_) (fun hx => ?_)
  · refine run_seq.mpr ?_
    repeat (first | walk_at "dl" | ((with_reducible refine' (run_ixL hb ?dlh).mpr ?_); (case dlh => rfl)) | with_reducible refine (run_lenL hl).mpr ?_)
    refine ite_b (fun hz2 => ?_) (fun hz2 => ?_)
    · obtain ⟨c, hc⟩ := int_at hz (by simpa using hz2)
      repeat (first | walk_at "dl" | ((with_reducible refine' (run_ixL hb ?dlh).mpr ?_); (case dlh => rfl)) | with_reducible refine (run_ixL hl hc).mpr ?_)
      exact key c
    · repeat (first | walk_at "dl")
      exact key 0
  · repeat (first | walk_at "dl")
    exact take2 hk hk2 Fr.refl hb hl hlb hy hy2 hz h

open PySem PySem.Spec PyProof.Rows L2

/-! ### loops -/
def onFor (k : Env → Sto → Prop) (QF : Fl → Sto → Prop) : Fl → Sto → Prop
  | .nx r, S => k r S
  | .ct r, S => k r S
  | .bk r, S => QF (.nx r) S
  | .rt d, S => QF (.rt d) S
theorem for_nx {k : Env → Sto → Prop} {QF : Fl → Sto → Prop} {r : Env} {S : Sto} : onFor k QF (.nx r) S ↔ k r S := Iff.rfl
section
variable {g : D → Env → M Env} {body : Env → M Fl} {J : ItD} {S : Sto} {r : Env} {QF : Fl → Sto → Prop} {Q : D → Sto → Prop} {QE : Nat → List (Str × D) → Sto → Prop}
theorem run_for {mi : Env → M ItD} : RunX (forM_ mi g body r) S QE QF ↔ RunX (mi r) S QE fun J S1 => RunX (forN g body J (J.size S1) 0 r) S1 QE QF := by
  unfold forM_
  rw [run_bnd]
  exact ⟨fun h => h.imp fun J S1 q => ⟨q.out⟩, fun h => h.imp fun J S1 q => ⟨q.out⟩⟩
theorem forN_rule {len : Nat} {item : Nat → D} (I : Nat → Env → Sto → Prop) (hat : ∀ i r S, I i r S → J.at i S = some (if i < len then some (item i) else none))
    (hs : ∀ i r S, i < len → I i r S → RunX (g (item i) r) S QE fun r1 S1 => RunX (body r1) S1 QE (onFor (I (i + 1)) QF)) (hd : ∀ r S, I len r S → QF (.nx r) S) : ∀ (n i : Nat) (r : Env) (S : Sto), i + n = len → I i r S → RunX (forN g body J n i r) S QE QF
  | 0, i, r, S, e, h => by
    have q := hat i r S h
    rw [if_neg (by omega)] at q
    refine (run_ok (S' := S) (a := .nx r) ?_).mpr (hd r S (by rw [← e]; exact h))
    unfold forN
    simp only [q]
  | n + 1, i, r, S, e, h => by
    have q := hat i r S h
    rw [if_pos (by omega)] at q
    have k := hs i r S (by omega) h
    have go : RunX (g (item i) r >>= fun r1 => body r1 >>= fun f => match f with
        | .nx r2 => forN g body J n (i + 1) r2
        | .ct r2 => forN g body J n (i + 1) r2
        | .bk r2 => pure (.nx r2)
        | .rt d => pure (.rt d)) S QE QF := by
      rw [run_bnd]
      refine k.imp fun r1 S1 k1 => ?_
      rw [run_bnd]
      refine k1.imp fun f S2 k2 => ?_
      cases f with
      | nx r2 => exact forN_rule I hat hs hd n (i + 1) r2 S2 (by omega) k2
      | ct r2 => exact forN_rule I hat hs hd n (i + 1) r2 S2 (by omega) k2
      | bk r2 => exact run_pure.mpr k2
      | rt d => exact run_pure.mpr k2
    refine (run_congr ?_).mpr go
    rw [forN]
    simp only [q]
    try rfl
/-- over a range -/
theorem for_rng {lo : Int} {len : Nat} (I : Nat → Env → Sto → Prop) (h0 : I 0 r S) (hs : ∀ i r S, i < len → I i r S → RunX (g (.int (lo + i)) r) S QE fun r1 S1 => RunX (body r1) S1 QE (onFor (I (i + 1)) QF)) (hd : ∀ r S, I len r S → QF (.nx r) S) :
    RunX (forN g body (.rng lo len) len 0 r) S QE QF := forN_rule (item := fun i => .int (lo + i)) I (fun i r S _ => rfl) hs hd len 0 r S (by omega) h0
theorem get_item {xs : List D} {i : Nat} : xs[i]? = if i < xs.length then some (xs.getD i .non) else none := by
  by_cases h : i < xs.length
  · rw [if_pos h, List.getElem?_eq_getElem h, List.getD_eq_getElem?_getD, List.getElem?_eq_getElem h]
    rfl
  · rw [if_neg h, List.getElem?_eq_none (by omega)]
/-- over a list that stays -/
theorem for_lst {n : Nat} {xs : List D} (I : Nat → Env → Sto → Prop) (h0 : I 0 r S) (hl : ∀ i r S, I i r S → S[n]? = some (.lst xs)) (hs : ∀ i r S d, xs[i]? = some d → I i r S → RunX (g d r) S QE fun r1 S1 => RunX (body r1) S1 QE (onFor (I (i + 1)) QF)) (hd : ∀ r S, I xs.length r S → QF (.nx r) S) :
    RunX (forN g body (.lst n) xs.length 0 r) S QE QF := by
  refine forN_rule (item := fun i => xs.getD i .non) I (fun i r S h => ?_) (fun i r S hi h => hs i r S _ ?_ h) hd xs.length 0 r S (by omega) h0
  · unfold ItD.at
    simp only [hl i r S h]
    rw [get_item]
  · rw [get_item, if_pos hi]
theorem for_tup {xs : List D} (I : Nat → Env → Sto → Prop) (h0 : I 0 r S) (hs : ∀ i r S d, xs[i]? = some d → I i r S → RunX (g d r) S QE fun r1 S1 => RunX (body r1) S1 QE (onFor (I (i + 1)) QF)) (hd : ∀ r S, I xs.length r S → QF (.nx r) S) :
    RunX (forN g body (.tup xs) xs.length 0 r) S QE QF := by
  refine forN_rule (item := fun i => xs.getD i .non) I (fun i r S h => ?_) (fun i r S hi h => hs i r S _ ?_ h) hd xs.length 0 r S (by omega) h0
  · unfold ItD.at
    simp only []
    rw [get_item]
  · rw [get_item, if_pos hi]
def rngOf (ds : List D) : M ItD := match ds with
  | [.int j] => if -(2 ^ 62) ≤ j ∧ j < 2 ^ 62 then pure (.rng 0 j.toNat) else stuck
  | _ => stuck
theorem run_itR {mA : Env → M (List D)} {QI : ItD → Sto → Prop} : RunX (itRng1 mA r) S QE QI ↔ RunX (mA r) S QE fun ds S1 => RunX (rngOf ds) S1 QE QI := by unfold itRng1; exact run_bnd
theorem run_itR1 {j : Int} {QI : ItD → Sto → Prop} (h0 : 0 ≤ j) (h1 : j < 2 ^ 62) (h : QI (.rng 0 j.toNat) S) : RunX (rngOf [.int j]) S QE QI := by
  show RunX (if -(2 ^ 62) ≤ j ∧ j < 2 ^ 62 then pure (.rng 0 j.toNat) else stuck) S QE QI
  exact run_need.mpr ⟨⟨by omega, h1⟩, run_pure.mpr h⟩
theorem run_itA {ma : Env → M D} {QI : ItD → Sto → Prop} : RunX (itAny ma r) S QE QI ↔ RunX (ma r) S QE fun d S1 => RunX (match d with
  | .tup xs => pure (.tup xs)
  | .fl xs => pure (.fl xs)
  | .str x => pure (.str x)
  | .ref n => fun S => match S[n]? with
    | some (.lst _) => .ok (.lst n) S
    | _ => .no
  | _ => stuck : M ItD) S1 QE QI := by unfold itAny; exact run_bnd
theorem run_itAL {n : Nat} {xs : List D} {QI : ItD → Sto → Prop} (hn : S[n]? = some (.lst xs)) (h : QI (.lst n) S) : RunX (match D.ref n with
  | .tup xs => pure (.tup xs)
  | .fl xs => pure (.fl xs)
  | .str x => pure (.str x)
  | .ref n => fun S => match S[n]? with
    | some (.lst _) => .ok (.lst n) S
    | _ => .no
  | _ => stuck : M ItD) S QE QI := (run_ok (by simp only [hn])).mpr h
theorem run_itAT {xs : List D} {QI : ItD → Sto → Prop} (h : QI (.tup xs) S) : RunX (match D.tup xs with
  | .tup xs => pure (.tup xs)
  | .fl xs => pure (.fl xs)
  | .str x => pure (.str x)
  | .ref n => fun S => match S[n]? with
    | some (.lst _) => .ok (.lst n) S
    | _ => .no
  | _ => stuck : M ItD) S QE QI := run_pure.mpr h
theorem size_rng {lo : Int} {k : Nat} : ItD.size (.rng lo k) S = k := rfl
theorem size_lst {n : Nat} {xs : List D} (h : S[n]? = some (.lst xs)) : ItD.size (.lst n) S = xs.length := by unfold ItD.size; simp only [h]
theorem for_lstS {n : Nat} {xs : List D} (I : Nat → Env → Sto → Prop) (h0 : I 0 r S) (hl : ∀ i r S, I i r S → S[n]? = some (.lst xs)) (hs : ∀ i r S d, xs[i]? = some d → I i r S → RunX (g d r) S QE fun r1 S1 => RunX (body r1) S1 QE (onFor (I (i + 1)) QF)) (hd : ∀ r S, I xs.length r S → QF (.nx r) S) :
    RunX (forN g body (.lst n) (ItD.size (.lst n) S) 0 r) S QE QF := by
  rw [size_lst (hl 0 r S h0)]
  exact for_lst I h0 hl hs hd
/-! ### comprehensions -/
theorem run_lc {own : List Nat} {mi : Env → M ItD} {tst : Env → M Bool} {el : Env → M D} : RunX (lcM own mi g tst el r) S QE Q ↔ RunX (mi r) S QE fun J S1 => RunX (compN g tst el J (wipeE r own) (J.size S1) 0 []) S1 QE fun acc S2 => Q (.ref S2.length) (S2 ++ [.lst acc]) := by
  unfold lcM
  rw [run_bnd]
  have key : ∀ J S1, RunX ((fun S => compN g tst el J (wipeE r own) (J.size S) 0 [] S) >>= fun acc => newO (.lst acc)) S1 QE Q ↔ RunX (compN g tst el J (wipeE r own) (J.size S1) 0 []) S1 QE fun acc S2 => Q (.ref S2.length) (S2 ++ [.lst acc]) := fun J S1 => by
    rw [run_bnd]
    have e : ∀ QL : List D → Sto → Prop, RunX (fun S => compN g tst el J (wipeE r own) (J.size S) 0 [] S) S1 QE QL ↔ RunX (compN g tst el J (wipeE r own) (J.size S1) 0 []) S1 QE QL := fun QL => run_congr rfl
    rw [e]
    constructor
    · exact fun h => h.imp fun acc S2 q => run_newO.mp q
    · exact fun h => h.imp fun acc S2 q => run_newO.mpr q
  constructor
  · exact fun h => h.imp fun J S1 q => (key J S1).mp q
  · exact fun h => h.imp fun J S1 q => (key J S1).mpr q
theorem compN_rule {tst : Env → M Bool} {el : Env → M D} {r0 : Env} {len : Nat} {item : Nat → D} {QL : List D → Sto → Prop} (I : Nat → List D → Sto → Prop) (hat : ∀ i acc S, I i acc S → J.at i S = some (if i < len then some (item i) else none))
    (hs : ∀ i acc S, i < len → I i acc S → RunX (g (item i) r0) S QE fun r1 S1 => RunX (tst r1) S1 QE fun c S2 => if c = true then RunX (el r1) S2 QE fun y S3 => acc.length < sizeLine ∧ I (i + 1) (acc ++ [y]) S3 else I (i + 1) acc S2) (hd : ∀ acc S, I len acc S → QL acc S) :
    ∀ (n i : Nat) (acc : List D) (S : Sto), i + n = len → I i acc S → RunX (compN g tst el J r0 n i acc) S QE QL
  | 0, i, acc, S, e, h => by
    have q := hat i acc S h
    rw [if_neg (by omega)] at q
    exact (run_ok (compN_end q)).mpr (hd acc S (by rw [← e]; exact h))
  | n + 1, i, acc, S, e, h => by
    have q := hat i acc S h
    rw [if_pos (by omega)] at q
    have k := hs i acc S (by omega) h
    have go : RunX (compB g tst el J r0 n i acc (item i)) S QE QL := by
      unfold compB
      rw [run_bnd]
      refine k.imp fun r1 S1 k1 => ?_
      rw [run_bnd]
      refine k1.imp fun c S2 k2 => ?_
      cases c with
      | false =>
        rw [if_neg Bool.false_ne_true] at k2 ⊢
        exact compN_rule I hat hs hd n (i + 1) acc S2 (by omega) k2
      | true =>
        rw [if_pos rfl] at k2 ⊢
        rw [run_bnd]
        refine k2.imp fun y S3 ⟨hz, k3⟩ => ?_
        rw [if_pos hz]
        exact compN_rule I hat hs hd n (i + 1) (acc ++ [y]) S3 (by omega) k3
    exact (run_congr (compN_item q)).mpr go
theorem comp_rng {tst : Env → M Bool} {el : Env → M D} {r0 : Env} {lo : Int} {len : Nat} {QL : List D → Sto → Prop} (I : Nat → List D → Sto → Prop) (h0 : I 0 [] S)
    (hs : ∀ i acc S, i < len → I i acc S → RunX (g (.int (lo + i)) r0) S QE fun r1 S1 => RunX (tst r1) S1 QE fun c S2 => if c = true then RunX (el r1) S2 QE fun y S3 => acc.length < sizeLine ∧ I (i + 1) (acc ++ [y]) S3 else I (i + 1) acc S2) (hd : ∀ acc S, I len acc S → QL acc S) :
    RunX (compN g tst el (.rng lo len) r0 len 0 []) S QE QL := compN_rule (item := fun i => .int (lo + i)) I (fun i acc S _ => rfl) hs hd len 0 [] S (by omega) h0
theorem comp_lst {tst : Env → M Bool} {el : Env → M D} {r0 : Env} {n : Nat} {xs : List D} {QL : List D → Sto → Prop} (I : Nat → List D → Sto → Prop) (h0 : I 0 [] S) (hl : ∀ i acc S, I i acc S → S[n]? = some (.lst xs))
    (hs : ∀ i acc S d, xs[i]? = some d → I i acc S → RunX (g d r0) S QE fun r1 S1 => RunX (tst r1) S1 QE fun c S2 => if c = true then RunX (el r1) S2 QE fun y S3 => acc.length < sizeLine ∧ I (i + 1) (acc ++ [y]) S3 else I (i + 1) acc S2) (hd : ∀ acc S, I xs.length acc S → QL acc S) :
    RunX (compN g tst el (.lst n) r0 xs.length 0 []) S QE QL := by
  refine compN_rule (item := fun i => xs.getD i .non) I (fun i r S h => ?_) (fun i acc S hi h => hs i acc S _ ?_ h) hd xs.length 0 [] S (by omega) h0
  · unfold ItD.at
    simp only [hl i r S h]
    rw [get_item]
  · rw [get_item, if_pos hi]
theorem comp_lstS {tst : Env → M Bool} {el : Env → M D} {r0 : Env} {n : Nat} {xs : List D} {QL : List D → Sto → Prop} (I : Nat → List D → Sto → Prop) (h0 : I 0 [] S) (hl : ∀ i acc S, I i acc S → S[n]? = some (.lst xs))
    (hs : ∀ i acc S d, xs[i]? = some d → I i acc S → RunX (g d r0) S QE fun r1 S1 => RunX (tst r1) S1 QE fun c S2 => if c = true then RunX (el r1) S2 QE fun y S3 => acc.length < sizeLine ∧ I (i + 1) (acc ++ [y]) S3 else I (i + 1) acc S2) (hd : ∀ acc S, I xs.length acc S → QL acc S) :
    RunX (compN g tst el (.lst n) r0 (ItD.size (.lst n) S) 0 []) S QE QL := by
  rw [size_lst (hl 0 [] S h0)]
  exact comp_lst I h0 hl hs hd
theorem comp_tup {tst : Env → M Bool} {el : Env → M D} {r0 : Env} {xs : List D} {QL : List D → Sto → Prop} (I : Nat → List D → Sto → Prop) (h0 : I 0 [] S)
    (hs : ∀ i acc S d, xs[i]? = some d → I i acc S → RunX (g d r0) S QE fun r1 S1 => RunX (tst r1) S1 QE fun c S2 => if c = true then RunX (el r1) S2 QE fun y S3 => acc.length < sizeLine ∧ I (i + 1) (acc ++ [y]) S3 else I (i + 1) acc S2) (hd : ∀ acc S, I xs.length acc S → QL acc S) :
    RunX (compN g tst el (.tup xs) r0 xs.length 0 []) S QE QL := by
  refine compN_rule (item := fun i => xs.getD i .non) I (fun i r S h => ?_) (fun i acc S hi h => hs i acc S _ ?_ h) hd xs.length 0 [] S (by omega) h0
  · unfold ItD.at
    simp only []
    rw [get_item]
  · rw [get_item, if_pos hi]
theorem run_yes {QB : Bool → Sto → Prop} : RunX (yesM r) S QE QB ↔ QB true S := run_pure
end
theorem Bag.set {S : Sto} {b m : Nat} {o : O} (h : Bag S b) (hm : b < m) : Bag (S.set m o) b := by
  obtain ⟨x, y, z, l, cells, h1, h2, h3, h4⟩ := h.ex
  exact ⟨x, y, z, l, cells, (List.getElem?_set_ne (by omega)).trans h1, (List.getElem?_set_ne (by omega)).trans h2, h3, h4⟩
theorem small_len {n : Nat} (h : n ≤ 1000) : n < sizeLine := Nat.lt_of_le_of_lt h (by decide)
/-! one step more -/
local macro_rules | `(tactic| walk_at "dm") => `(tactic| with_reducible first
  | refine run_for.mpr ?_ | refine run_lc.mpr ?_ | refine run_itR.mpr ?_ | refine run_itA.mpr ?_ | refine run_yes.mpr ?_ | refine for_nx.mpr ?_)

/-! ### the bag is made -/
theorem cut_map {α : Type} {f : α → D} {ns : List α} {lo hi : Option Int} : ∃ cs : List α, cutL (ns.map f) lo hi = cs.map f ∧ cs.length ≤ ns.length := by
  unfold cutL
  rw [← List.map_drop, ← List.map_take]
  exact ⟨_, rfl, by rw [List.length_take, List.length_drop]; omega⟩
theorem run_slF {xs : List D} {lo hi : Option Int} {S : Sto} {Q : D → Sto → Prop} {QE : Nat → List (Str × D) → Sto → Prop} : RunX (slD (.fl xs) lo hi) S QE Q ↔ Q (.ref S.length) (S ++ [.lst (cutL xs lo hi)]) := run_ok rfl
theorem map_at {α : Type} {f : α → D} {cs : List α} {i : Nat} {d : D} (h : (cs.map f)[i]? = some d) : ∃ c, d = f c := by
  rw [List.getElem?_map] at h
  obtain ⟨c, _, rfl⟩ := Option.map_eq_some_iff.mp h
  exact ⟨c, rfl⟩
def bagM : List D → M D := fnM 2 bagB
theorem bag_run {ns : List Int} {Q : D → Sto → Prop} (hn : ns.length ≤ 1000) (h : ∀ S, Bag S 2 → S.length = 3 → Q (.ref 2) S) : Run (bagM [.fl (ns.map D.int)]) [] Q := by
  unfold bagM bagB
  repeat (first | walk_at "dl" | walk_at "dm" | refine run_slF.mpr ?_)
  obtain ⟨cs, ec, hc⟩ := cut_map (f := D.int) (ns := ns) (lo := none) (hi := some 63)
  rw [ec]
  refine run_itAL (xs := cs.map D.int) rfl ?_
  rw [size_lst (xs := cs.map D.int) rfl]
  refine comp_lst (fun i acc S => S = [.lst (cs.map D.int)] ∧ ∃ as : List Int, acc = as.map D.int ∧ as.length ≤ i ∧ i ≤ cs.length) ⟨rfl, [], rfl, Nat.le_refl _, Nat.zero_le _⟩ (fun i acc S z => by rw [z.1]; rfl) (fun i acc S d hd ⟨e, as, ea, hl, hi⟩ => ?_) (fun acc S ⟨e, as, ea, hl, hi⟩ => ?_)
  · have hi2 := (List.getElem?_eq_some_iff.mp hd).1
    rw [List.length_map] at hi2
    obtain ⟨c, rfl⟩ := map_at hd
    subst e
    repeat (first | walk_at "dl" | walk_at "dm")
    refine ite_t rfl ?_
    repeat (first | walk_at "dl" | walk_at "dm")
    subst ea
    refine ⟨by rw [List.length_map]; exact small_len (by omega), rfl, as ++ [if c < 0 then -c else c], by rw [List.map_append]; rfl, by simp; omega, by omega⟩
  · subst e; subst ea
    repeat (first | walk_at "dl" | walk_at "dm")
    refine ⟨Nat.le_of_ble_eq_true rfl, ?_⟩
    repeat (first | walk_at "dl" | walk_at "dm")
    exact h _ ⟨0, 1234567891, 0, 1, as, rfl, rfl, by decide, by decide, by decide, by decide⟩ rfl

open PySem PySem.Spec PyProof.Rows L2

/-! ### data at rest -/
structure Pg (S : Sto) (h b : Nat) (d : D) (p : PyData) : Prop where
  py : ∀ n, h ≤ n → toPy S n d = some p
  lay : p.canLay0 = true
  sh : p.showable = true
  dep : p.depth ≤ h
  len : p.shown.length ≤ b
structure PgA (S : Sto) (h b : Nat) (ds : List D) (ps : List PyData) : Prop where
  py : ∀ n, h ≤ n → toPys (toPy S n) ds = some ps
  lay : PyData.canLayAll0 ps = true
  sh : PyData.showableAll ps = true
  dep : PyData.depthAll ps ≤ h
  len : piled (PyData.shownAll ps) ≤ ds.length * (b + 2)
  num : ps.length = ds.length
def Pz (h b : Nat) (d : D) : Prop := ∃ p, ∀ S, Pg S h b d p
section
variable {S : Sto} {h b h' b' : Nat} {d x y : D} {p q : PyData} {ds : List D} {ps : List PyData}
theorem Pg.mono (g : Pg S h b d p) (h1 : h ≤ h') (h2 : b ≤ b') : Pg S h' b' d p := ⟨fun n hn => g.py n (Nat.le_trans h1 hn), g.lay, g.sh, Nat.le_trans g.dep h1, Nat.le_trans g.len h2⟩
theorem Pz.mono (g : Pz h b d) (h1 : h ≤ h') (h2 : b ≤ b') : Pz h' b' d := let ⟨p, k⟩ := g; ⟨p, fun S => (k S).mono h1 h2⟩
theorem pga_nil : PgA S h b [] [] := ⟨fun n _ => rfl, rfl, rfl, by simp [PyData.depthAll], by simp [PyData.shownAll, piled], rfl⟩
theorem pga_cons (g : Pg S h b d p) (gs : PgA S h b ds ps) : PgA S h b (d :: ds) (p :: ps) := by
  refine ⟨fun n hn => ?_, ?_, ?_, ?_, ?_, ?_⟩
  · unfold toPys
    rw [g.py n hn, gs.py n hn]
  · simp [PyData.canLayAll0, g.lay, gs.lay]
  · simp [PyData.showableAll, g.sh, gs.sh]
  · simp only [PyData.depthAll]
    exact Nat.max_le.mpr ⟨g.dep, gs.dep⟩
  · have a := g.len
    have c := gs.len
    unfold piled at c ⊢
    simp only [PyData.shownAll, List.map_cons, List.sum_cons, List.length_cons]
    rw [Nat.add_mul]
    omega
  · simp [gs.num]
theorem tupleText_le (ts : List Str) : (tupleText ts).length ≤ piled ts + 3 := by
  unfold tupleText
  rw [strLen_append, strLen_append]
  have e1 : ((("(" : String) : Str)).length = 1 := rfl
  have e3 : (((if ts.length == 1 then ",)" else ")" : String) : Str)).length ≤ 2 := by split <;> decide
  rw [e1]
  by_cases h : ts = []
  · subst h
    have e0 : (Str.join (", " : String) []).length = 0 := rfl
    rw [e0]; omega
  · have := join_length_add ts h
    omega
theorem textFrom_le : ∀ (ts : List Str) (k : Nat) (acc : Str), (textFrom k acc ts).length ≤ acc.length + piled ts
  | [], k, acc => Nat.le_add_right _ _
  | t :: r, k, acc => by
    have ih := textFrom_le r (k + 1) (acc ++ (if k > 0 then ", " else "" : String) ++ t)
    have e : (acc ++ (if k > 0 then ", " else "" : String) ++ t).length = acc.length + (if k > 0 then 2 else 0) + t.length := by
      rw [strLen_append, strLen_append]
      split <;> rfl
    have z : (if k > 0 then 2 else 0 : Nat) ≤ 2 := by split <;> omega
    rw [e] at ih
    show (textFrom (k + 1) _ r).length ≤ _
    rw [piled_cons]
    omega
theorem listText_le (ts : List Str) : (listText ts).length ≤ piled ts + 2 := by
  unfold listText
  rw [strLen_append]
  have := textFrom_le ts 0 ("[" : String)
  have e1 : ((("[" : String) : Str)).length = 1 := rfl
  have e2 : ((("]" : String) : Str)).length = 1 := rfl
  omega
theorem pg_tup (g : PgA S h b ds ps) : Pg S (h + 1) (ds.length * (b + 2) + 3) (.tup ds) (.tuple ps) := by
  refine ⟨fun n hn => ?_, ?_, ?_, ?_, ?_⟩
  · obtain ⟨m, rfl⟩ : ∃ m, n = m + 1 := ⟨n - 1, by omega⟩
    unfold toPy
    rw [g.py m (by omega)]
    rfl
  · simpa [PyData.canLay0] using g.lay
  · simpa [PyData.showable] using g.sh
  · simpa [PyData.depth] using g.dep
  · have a := tupleText_le (PyData.shownAll ps)
    have c := g.len
    simp only [PyData.shown]
    omega
theorem pg_lst {k : Nat} (hk : S[k]? = some (.lst ds)) (g : PgA S h b ds ps) : Pg S (h + 1) (ds.length * (b + 2) + 3) (.ref k) (.list ps) := by
  refine ⟨fun n hn => ?_, ?_, ?_, ?_, ?_⟩
  · obtain ⟨m, rfl⟩ : ∃ m, n = m + 1 := ⟨n - 1, by omega⟩
    unfold toPy
    simp only [hk]
    rw [g.py m (by omega)]
    rfl
  · simpa [PyData.canLay0] using g.lay
  · simpa [PyData.showable] using g.sh
  · simpa [PyData.depth] using g.dep
  · have a := listText_le (PyData.shownAll ps)
    have c := g.len
    simp only [PyData.shown]
    omega
theorem pza : ∀ {ds : List D}, (∀ d ∈ ds, Pz h b d) → ∃ ps, ∀ S, PgA S h b ds ps
  | [], _ => ⟨[], fun S => pga_nil⟩
  | d :: ds, k => by
    obtain ⟨p, hp⟩ := k d (List.mem_cons_self ..)
    obtain ⟨ps, hps⟩ := pza fun x hx => k x (List.mem_cons_of_mem _ hx)
    exact ⟨p :: ps, fun S => pga_cons (hp S) (hps S)⟩
theorem pz_tup {n : Nat} (k : ∀ d ∈ ds, Pz h b d) (hn : ds.length ≤ n) : Pz (h + 1) (n * (b + 2) + 3) (.tup ds) := by
  obtain ⟨ps, g⟩ := pza k
  exact ⟨.tuple ps, fun S => (pg_tup (g S)).mono (Nat.le_refl _) (Nat.add_le_add_right (Nat.mul_le_mul_right _ hn) 3)⟩
theorem pz_lst {k : Nat} (hk : S[k]? = some (.lst ds)) (g : ∀ d ∈ ds, Pz h b d) : ∃ p, Pg S (h + 1) (ds.length * (b + 2) + 3) (.ref k) p := by
  obtain ⟨ps, g⟩ := pza g
  exact ⟨.list ps, pg_lst hk (g S)⟩
theorem pg_non : Pg S 0 4 .non .none := ⟨fun n _ => by cases n <;> rfl, rfl, rfl, by simp [PyData.depth], Nat.le_of_ble_eq_true rfl⟩
theorem pz_non : Pz 0 4 .non := ⟨.none, fun S => pg_non⟩
theorem pz_bl {c : Bool} : Pz 0 5 (.bl c) := ⟨.bool c, fun S => ⟨fun n _ => by cases n <;> rfl, rfl, rfl, by simp [PyData.depth], by cases c <;> exact Nat.le_of_ble_eq_true rfl⟩⟩
theorem pg_int {i : Int} (h0 : 0 ≤ i) (h1 : i < 10 ^ 18) : Pg S 0 18 (.int i) (.int i) := ⟨fun n _ => by cases n <;> rfl, rfl, by
    simp only [PyData.showable]
    refine decide_eq_true ?_
    have e : i.natAbs < 2 ^ 60 := by omega
    by_cases z : i.natAbs = 0
    · rw [z]; decide
    · have := (Nat.log2_lt z).mpr e
      omega, by simp [PyData.depth], by
    simp only [PyData.shown]
    exact toString_length_le h0 (by decide) h1⟩
theorem pz_int {i : Int} (h0 : 0 ≤ i) (h1 : i < 10 ^ 18) : Pz 0 18 (.int i) := ⟨.int i, fun S => pg_int h0 h1⟩
/-- a text that may stand anywhere -/
def txOk (x : Str) : Bool := PyData.strOk x && decide ((reprText x).length ≤ 30) && decide (x.length ≤ 20)
theorem pg_str {x : Str} (hx : txOk x = true) : Pg S 0 30 (.str x) (.str x) := by
  unfold txOk at hx
  rw [Bool.and_eq_true, Bool.and_eq_true] at hx
  exact ⟨fun n _ => by cases n <;> rfl, by simpa [PyData.canLay0] using hx.1.1, rfl, by simp [PyData.depth], of_decide_eq_true hx.1.2⟩
theorem pz_str {x : Str} (hx : txOk x = true) : Pz 0 30 (.str x) := ⟨.str x, fun S => pg_str hx⟩
theorem Pz.tup {xs : List D} (g : Pz h b (.tup xs)) : ∃ ps, ∀ S, Pg S h b (.tup xs) (.tuple ps) := by
  obtain ⟨p, k⟩ := g
  have e := (k []).py (h + 1) (Nat.le_succ _)
  unfold toPy at e
  obtain ⟨ps, _, rfl⟩ := Option.map_eq_some_iff.mp e
  exact ⟨ps, k⟩
theorem Pg.shaped (g : Pg S h b d p) (hh : h ≤ 64) : SeqAt.shaped p = true := by
  unfold SeqAt.shaped
  rw [Bool.and_eq_true]
  exact ⟨g.lay, decide_eq_true (Nat.le_trans g.dep hh)⟩
theorem eqB_pg (gx : Pg S h b x p) (gy : Pg S h' b' y q) (hh : h ≤ 64) (hh' : h' ≤ 64) : eqB S x y = some (PyData.eqv p q) := by
  have ex := gx.py deep (by unfold deep; omega)
  have ey := gy.py deep (by unfold deep; omega)
  unfold eqB
  split
  · rename_i a c e
    cases x <;> cases y <;> first | cases e | skip
    have e1 : p = .str a := (Option.some.inj ex).symm
    have e2 : q = .str c := (Option.some.inj ey).symm
    subst e1; subst e2
    simp [PyData.eqv]
  · have e : eqP S x y = some (PyData.eqv p q) := by
      unfold eqP
      rw [ex, ey]
      simp only []
      rw [if_pos ⟨gx.shaped hh, gy.shaped hh'⟩]
    rw [e]
theorem run_eqG {QE : Nat → List (Str × D) → Sto → Prop} {Q : D → Sto → Prop} (gx : Pg S h b x p) (gy : Pg S h' b' y q) (hh : h ≤ 64) (hh' : h' ≤ 64) : RunX (eqD x y) S QE Q ↔ Q (.bl (PyData.eqv p q)) S := by
  unfold eqD
  exact run_ofB (eqB_pg gx gy hh hh')
theorem run_eqTS {QE : Nat → List (Str × D) → Sto → Prop} {Q : D → Sto → Prop} {xs : List D} {z : Str} (gx : Pz h b (.tup xs)) (hh : h ≤ 64) (hz : txOk z = true) : RunX (eqD (.tup xs) (.str z)) S QE Q ↔ Q (.bl false) S := by
  obtain ⟨ps, k⟩ := gx.tup
  rw [run_eqG (k S) (pg_str hz) hh (by decide)]
  simp [PyData.eqv]
theorem run_neG {QE : Nat → List (Str × D) → Sto → Prop} {Q : D → Sto → Prop} (gx : Pg S h b x p) (gy : Pg S h' b' y q) (hh : h ≤ 64) (hh' : h' ≤ 64) : RunX (neD x y) S QE Q ↔ Q (.bl (!PyData.eqv p q)) S := by
  unfold neD
  exact run_ofB (by rw [eqB_pg gx gy hh hh']; rfl)
theorem inB_pgT {qs : List PyData} (gx : Pg S h b x p) (gy : Pg S h' b' y (.tuple qs)) (hh : h ≤ 64) (hh' : h' ≤ 64) : inB S x y = some (qs.any fun y => PyData.eqv y p) := by
  unfold inB
  rw [gx.py deep (by unfold deep; omega), gy.py deep (by unfold deep; omega)]
  simp only []
  rw [if_pos ⟨gx.shaped hh, gy.shaped hh'⟩]
theorem inB_pgL {qs : List PyData} (gx : Pg S h b x p) (gy : Pg S h' b' y (.list qs)) (hh : h ≤ 64) (hh' : h' ≤ 64) : inB S x y = some (qs.any fun y => PyData.eqv y p) := by
  unfold inB
  rw [gx.py deep (by unfold deep; omega), gy.py deep (by unfold deep; omega)]
  simp only []
  rw [if_pos ⟨gx.shaped hh, gy.shaped hh'⟩]
theorem run_inT {QE : Nat → List (Str × D) → Sto → Prop} {Q : D → Sto → Prop} {cs : List D} {qs : List PyData} (gx : Pg S h b x p) (gy : Pg S h' b' (.tup cs) (.tuple qs)) (hh : h ≤ 64) (hh' : h' ≤ 64) : RunX (memD x (.tup cs)) S QE Q ↔ Q (.bl (qs.any fun y => PyData.eqv y p)) S := by
  unfold memD
  refine run_ofB ?_
  cases x <;> exact inB_pgT gx gy hh hh'
theorem run_reprG {QE : Nat → List (Str × D) → Sto → Prop} {Q : D → Sto → Prop} (gx : Pg S h b x p) (hh : h ≤ 64) (hb : b ≤ sizeLine) : RunX (reprD [x]) S QE Q ↔ Q (.str p.shown) S := by
  have e : showB S x = some p.shown := by
    unfold showB
    rw [gx.py deep (by unfold deep; omega)]
    simp only []
    rw [if_pos ⟨SeqAt.depth_of_shaped (gx.shaped hh), gx.sh, Nat.le_trans gx.len hb⟩]
  refine run_ok ?_
  unfold reprD
  simp only [e]
def alikeB : Env → M Fl := retM (andV (binM eqD (getv 0) (getv 1)) (binM eqD (clM reprD (consA (getv 0) (nilA))) (clM reprD (consA (getv 1) (nilA)))))
def alikeM : List D → M D := fnM 2 alikeB
theorem alike_run {Q : D → Sto → Prop} (gx : Pg S h b x p) (gy : Pg S h b y p) (hh : h ≤ 64) (hb : b ≤ sizeLine) (k : Q (.bl true) S) : Run (alikeM [x, y]) S Q := by
  unfold alikeM alikeB
  repeat walk_at "dl"
  refine (run_eqG gx gy hh hh).mpr ?_
  rw [SeqAt.eqv_refl p gx.lay]
  repeat walk_at "dl"
  refine ite_t rfl ?_
  repeat walk_at "dl"
  refine (run_reprG gx hh hb).mpr ?_
  repeat walk_at "dl"
  refine (run_reprG gy hh hb).mpr (run_eqS.mpr ?_)
  rw [beq_self_eq_true]
  exact k
end

open PySem PySem.Spec PyProof.Rows L2

section
variable {S : Sto} {b : Nat} {Q : D → Sto → Prop}
/-- a list at hand is read at a place drawn -/
theorem ix_run {n : Nat} {xs : List D} {i : Int} (hS : S[n]? = some (.lst xs)) (h0 : 0 ≤ i) (h1 : i < xs.length) (h : ∀ d, d ∈ xs → Q d S) : Run (ixD (.ref n) (.int i)) S Q := by
  have e : (i.toNat : Int) = i := Int.toNat_of_nonneg h0
  have hl : i.toNat < xs.length := by omega
  refine (run_ixL (d := xs[i.toNat]) hS ?_).mpr (h _ (List.getElem_mem _))
  have a := atI_nat (xs := xs) (List.getElem?_eq_getElem hl)
  rwa [e] at a
def textL : List D := [.str "", .str "a", .str "b", .str "one", .str "a b", .str "say \"x\"", .str "back\\slash", .str "two\nlines", .str "$arg", .str "-", .str "a,b", .str (Txt.mul "x" 20)]
def textB : Env → M Fl :=
    seqM (asgM (lstM (consA (cst (.str "")) (consA (cst (.str "a")) (consA (cst (.str "b")) (consA (cst (.str "one")) (consA (cst (.str "a b")) (consA (cst (.str "say \"x\"")) (consA (cst (.str "back\\slash")) (consA (cst (.str "two\nlines")) (consA (cst (.str "$arg")) (consA (cst (.str "-")) (consA (cst (.str "a,b")) (consA (binM mulD (cst (.str "x")) (cst (.int 20))) (nilA)))))))))))))) (gNm 1))
    (retM (binM ixD (getv 1) (clM (takeM) (consA (getv 0) (consA (cst (.int 12)) (nilA))))))
def textM : List D → M D := fnM 2 textB
theorem text_tx : ∀ d ∈ textL, ∃ x, d = .str x ∧ txOk x = true := by
  intro d hd
  have a : textL.all (fun d => match d with | .str x => txOk x | _ => false) = true := by decide +kernel
  have c := List.all_eq_true.mp a d hd
  cases d <;> first | exact ⟨_, rfl, c⟩ | cases c
theorem text_run (hb : Bag S b) (h : ∀ x S', txOk x = true → Bag S' b → Fr b S S' → Q (.str x) S') : Run (textM [.ref b]) S Q := by
  unfold textM textB
  repeat (first | walk_at "dl" | walk_at "dm" | refine run_mulS.mpr ⟨by decide, ?_⟩)
  refine ⟨Nat.le_of_ble_eq_true rfl, ?_⟩
  repeat (first | walk_at "dl" | walk_at "dm")
  refine take_run ((Gw.one (o := .lst textL)).bag hb) (by decide) (by decide) fun n S' h0 h1 hB fr => ?_
  have hl : S'[S.length]? = some (.lst textL) := fr.get (Nat.ne_of_gt hb.lt) last_get
  refine ix_run hl h0 h1 fun d hd => ?_
  obtain ⟨x, rfl, hx⟩ := text_tx d hd
  repeat (first | walk_at "dl" | walk_at "dm")
  exact h x S' hx hB ((Gw.one.fr).trans fr)
/-! ### contents -/
theorem none_of {d : D} (h : isNone d = true) : d = .non := by cases d <;> first | rfl | cases h
inductive Cont : Nat → D → Prop
  | str {n : Nat} {x : Str} : txOk x = true → Cont n (.str x)
  | made {n : Nat} {x : Str} {ps : List D} : txOk x = true → ps.length ≤ 3 → (∀ p ∈ ps, isNone p = false → Cont n p) → Cont (n + 1) (.tup [.str "made", .str x, .tup ps])
def contentB (rec_ : List D → M D) : Env → M Fl :=
    seqM (ifS (orT (tstM (binM eqD (getv 1) (cst (.int 0)))) (tstM (binM gtD (clM (takeM) (consA (getv 0) (consA (cst (.int 3)) (nilA)))) (cst (.int 0))))) (retM (clM (textM) (consA (getv 0) (nilA)))) (nxM))
    (seqM (asgM (lcM [3] (itRng1 (consA (clM (takeM) (consA (getv 0) (consA (cst (.int 4)) (nilA)))) (nilA))) (gNm 3) (yesM) (clM rec_ (consA (getv 0) (consA (binM subD (getv 1) (cst (.int 1))) (nilA))))) (gNm 2))
    (retM (tupM (consA (cst (.str "made")) (consA (binM ixD (lstM (consA (cst (.str "zip")) (consA (cst (.str "cc")) (consA (cst (.str "a")) (nilA))))) (clM (takeM) (consA (getv 0) (consA (cst (.int 3)) (nilA))))) (consA (clM tupleD (consA (lcM [4] (itAny (getv 2)) (gNm 4) (yesM) (binM ixD (lstM (consA (getv 4) (consA (cst .non) (nilA)))) (clM (takeM) (consA (getv 0) (consA (cst (.int 2)) (nilA)))))) (nilA))) (nilA)))))))
def contentM : Nat → List D → M D
  | 0 => fun _ => stuck
  | n + 1 => fnM 5 (contentB (contentM n))
theorem content_run : ∀ (n f : Nat) (S : Sto) (Q : D → Sto → Prop), n < f → Bag S b → (∀ d S', Cont n d → Bag S' b → Fr b S S' → Q d S') → Run (contentM f [.ref b, .int (n : Int)]) S Q
  | n, 0, S, Q, hf, _, _ => absurd hf (Nat.not_lt_zero _)
  | 0, f + 1, S, Q, hf, hb, h => by
    unfold contentM contentB
    repeat (first | walk_at "dl" | walk_at "dm")
    refine ite_t (by decide) ?_
    refine ite_t rfl ?_
    repeat (first | walk_at "dl" | walk_at "dm")
    refine text_run hb fun x S' hx hB fr => ?_
    repeat (first | walk_at "dl" | walk_at "dm")
    exact h _ _ (.str hx) hB fr
  | n + 1, f + 1, S, Q, hf, hb, h => by
    unfold contentM contentB
    repeat (first | walk_at "dl" | walk_at "dm")
    refine ite_f (by simp; omega) ?_
    repeat (first | walk_at "dl" | walk_at "dm")
    refine take_run hb (by decide) (by decide) fun k S1 h0 h1 hB fr => ?_
    repeat (first | walk_at "dl" | walk_at "dm")
    refine ite_b (fun hk => ?_) (fun hk => ?_)
    · repeat (first | walk_at "dl" | walk_at "dm")
      refine text_run hB fun x S' hx hB fr' => ?_
      repeat (first | walk_at "dl" | walk_at "dm")
      exact h _ _ (.str hx) hB (fr.trans fr')
    · repeat (first | walk_at "dl" | walk_at "dm")
      refine take_run hB (by decide) (by decide) fun k S2 h0 h1 hB fr2 => ?_
      repeat (first | walk_at "dl" | walk_at "dm")
      refine run_itR1 h0 (by omega) ?_
      rw [size_rng]
      refine comp_rng (fun i acc S' => Bag S' b ∧ Fr b S S' ∧ acc.length = i ∧ ∀ d ∈ acc, Cont n d) ⟨hB, fr.trans fr2, rfl, fun d hd => absurd hd (List.not_mem_nil)⟩ (fun i acc S3 hi ⟨hB, fr3, hl, hc⟩ => ?_) (fun acc S3 ⟨hB, fr3, hl, hc⟩ => ?_)
      · repeat (first | walk_at "dl" | walk_at "dm")
        refine ite_t rfl ?_
        repeat (first | walk_at "dl" | walk_at "dm")
        have e : ((n + 1 : Nat) : Int) - 1 = (n : Int) := by omega
        rw [e]
        refine content_run n f S3 _ (by omega) hB fun d S4 hd hB fr4 => ?_
        refine ⟨small_len (by omega), hB, fr3.trans fr4, by simp [hl], fun x hx => ?_⟩
        rcases List.mem_append.mp hx with hx | hx
        · exact hc x hx
        · rw [List.mem_singleton.mp hx]; exact hd
      · repeat (first | walk_at "dl" | walk_at "dm")
        refine ⟨Nat.le_of_ble_eq_true rfl, ?_⟩
        repeat (first | walk_at "dl" | walk_at "dm")
        have hlt := hB.lt
        have hacc : ((S3 ++ [O.lst acc]) ++ [O.lst [.str "zip", .str "cc", .str "a"]])[S3.length]? = some (O.lst acc) := Gw.one.get last_get
        refine take_run (Gw.one.bag (Gw.one.bag hB)) (by decide) (by decide) fun k S4 h0 h1 hB fr4 => ?_
        have hacc4 := fr4.get (Nat.ne_of_gt hlt) hacc
        have hl4 : S4[(S3 ++ [O.lst acc]).length]? = some (O.lst [.str "zip", .str "cc", .str "a"]) := fr4.get (by simp; omega) last_get
        refine ix_run hl4 h0 h1 fun d hd => ?_
        have hx : ∃ x, d = .str x ∧ txOk x = true := by
          rcases List.mem_cons.mp hd with rfl | hd
          · exact ⟨_, rfl, by decide +kernel⟩
          rcases List.mem_cons.mp hd with rfl | hd
          · exact ⟨_, rfl, by decide +kernel⟩
          rcases List.mem_cons.mp hd with rfl | hd
          · exact ⟨_, rfl, by decide +kernel⟩
          · exact absurd hd (List.not_mem_nil)
        obtain ⟨x, rfl, hx⟩ := hx
        repeat (first | walk_at "dl" | walk_at "dm")
        refine run_itAL hacc4 ?_
        rw [size_lst hacc4]
        have fr4' : Fr b S S4 := fr3.trans ((Gw.one.trans Gw.one).fr.trans fr4)
        refine comp_lst (fun i acc' S' => Bag S' b ∧ Fr b S S' ∧ S'[S3.length]? = some (O.lst acc) ∧ acc'.length = i ∧ ∀ d ∈ acc', d = .non ∨ Cont n d) ⟨hB, fr4', hacc4, rfl, fun d hd => absurd hd (List.not_mem_nil)⟩ (fun i acc S' z => z.2.2.1) (fun i acc' S5 d hd ⟨hB, fr5, ha5, hl5, hc5⟩ => ?_) (fun acc' S5 ⟨hB, fr5, ha5, hl5, hc5⟩ => ?_)
        · have hdm : d ∈ acc := List.mem_of_getElem? hd
          have hi5 := (List.getElem?_eq_some_iff.mp hd).1
          repeat (first | walk_at "dl" | walk_at "dm")
          refine ite_t rfl ?_
          repeat (first | walk_at "dl" | walk_at "dm")
          refine ⟨Nat.le_of_ble_eq_true rfl, ?_⟩
          repeat (first | walk_at "dl" | walk_at "dm")
          have hlt5 := hB.lt
          have hs5 : S3.length < S5.length := (List.getElem?_eq_some_iff.mp ha5).1
          refine take_run (Gw.one.bag hB) (by decide) (by decide) fun k S6 h0 h1 hB fr6 => ?_
          refine ix_run (fr6.get (Nat.ne_of_gt hlt5) last_get) h0 h1 fun y hy => ?_
          refine ⟨small_len (by omega), hB, fr5.trans (Gw.one.fr.trans fr6), fr6.get (Nat.ne_of_gt hlt) (Gw.one.get ha5), by simp [hl5], fun z hz => ?_⟩
          rcases List.mem_append.mp hz with hz | hz
          · exact hc5 z hz
          · rw [List.mem_singleton.mp hz]
            rcases List.mem_cons.mp hy with rfl | hy
            · exact .inr (hc _ hdm)
            · rw [List.mem_singleton.mp hy]; exact .inl rfl
        · repeat (first | walk_at "dl" | walk_at "dm")
          refine (run_tupL last_get).mpr ?_
          repeat (first | walk_at "dl" | walk_at "dm")
          refine ⟨Nat.le_of_ble_eq_true rfl, ?_⟩
          repeat (first | walk_at "dl" | walk_at "dm")
          exact h _ _ (.made hx (by omega) fun p hp hz => (hc5 p hp).resolve_left (by rintro rfl; cases hz)) (Gw.one.bag hB) (fr5.trans Gw.one.fr)
/-! ### nodes -/
inductive Node : Nat → D → Prop
  | link {n : Nat} {x : Str} : txOk x = true → Node n (.tup [.str "link", .str x])
  | file {n : Nat} {c : D} {i : Int} : Cont n c → 0 ≤ i → i < 8 → Node n (.tup [.str "file", c, .int i])
  | folder {n : Nat} {i : Int} : 0 ≤ i → i < 8 → Node n (.tup [.str "folder", .int i])
def nodeB : Env → M Fl :=
    seqM (parM 2 3 (consA (clM (takeM) (consA (getv 0) (consA (cst (.int 6)) (nilA)))) (consA (clM (takeM) (consA (getv 0) (consA (cst (.int 8)) (nilA)))) (nilA))))
    (seqM (ifS (tstM (binM eqD (getv 2) (cst (.int 0)))) (retM (tupM (consA (cst (.str "link")) (consA (clM (textM) (consA (getv 0) (nilA))) (nilA))))) (nxM))
    (retM (ifM (tstM (binM ltD (getv 2) (cst (.int 3)))) (tupM (consA (cst (.str "file")) (consA (clM (contentM 40) (consA (getv 0) (consA (getv 1) (nilA)))) (consA (getv 3) (nilA))))) (tupM (consA (cst (.str "folder")) (consA (getv 3) (nilA)))))))
def nodeM : List D → M D := fnM 4 nodeB
theorem node_run {n : Nat} (hn : n < 40) (hb : Bag S b) (h : ∀ d S', Node n d → Bag S' b → Fr b S S' → Q d S') : Run (nodeM [.ref b, .int (n : Int)]) S Q := by
  unfold nodeM nodeB
  repeat (first | walk_at "dl" | walk_at "dm")
  refine take_run hb (by decide) (by decide) fun w S1 w0 w1 hB fr => ?_
  repeat (first | walk_at "dl" | walk_at "dm")
  refine take_run hB (by decide) (by decide) fun k S2 k0 k1 hB fr2 => ?_
  repeat (first | walk_at "dl" | walk_at "dm")
  refine ite_eq (fun hw => ?_) (fun hw => ?_)
  · repeat (first | walk_at "dl" | walk_at "dm")
    refine text_run hB fun x S' hx hB fr' => ?_
    repeat (first | walk_at "dl" | walk_at "dm")
    refine ⟨Nat.le_of_ble_eq_true rfl, ?_⟩
    repeat (first | walk_at "dl" | walk_at "dm")
    exact h _ _ (.link hx) hB ((fr.trans fr2).trans fr')
  · repeat (first | walk_at "dl" | walk_at "dm")
    refine ite_b (fun hw => ?_) (fun hw => ?_)
    · repeat (first | walk_at "dl" | walk_at "dm")
      refine content_run n 40 S2 _ hn hB fun c S' hc hB fr' => ?_
      repeat (first | walk_at "dl" | walk_at "dm")
      refine ⟨Nat.le_of_ble_eq_true rfl, ?_⟩
      repeat (first | walk_at "dl" | walk_at "dm")
      exact h _ _ (.file hc k0 k1) hB ((fr.trans fr2).trans fr')
    · repeat (first | walk_at "dl" | walk_at "dm")
      refine ⟨Nat.le_of_ble_eq_true rfl, ?_⟩
      repeat (first | walk_at "dl" | walk_at "dm")
      exact h _ _ (.folder k0 k1) hB (fr.trans fr2)
end
/-! ### how they are shown -/
def bC : Nat → Nat
  | 0 => 30
  | n + 1 => 3 * ((3 * (bC n + 2) + 3) + 2) + 3
theorem bC_ge : ∀ n, 30 ≤ bC n
  | 0 => Nat.le_refl _
  | n + 1 => by
    have := bC_ge n
    show 30 ≤ 3 * ((3 * (bC n + 2) + 3) + 2) + 3
    omega
theorem cont_pz : ∀ (n : Nat) (d : D), Cont n d → Pz (2 * n) (bC n) d
  | n, _, .str hx => (pz_str hx).mono (Nat.zero_le _) (bC_ge n)
  | _, _, .made (n := n) (x := x) (ps := ps) hx hl hp => by
    have hb := bC_ge n
    have inner : Pz (2 * n + 1) (3 * (bC n + 2) + 3) (.tup ps) := pz_tup (fun d hd => by
      by_cases hz : isNone d = true
      · rw [none_of hz]
        exact pz_non.mono (Nat.zero_le _) (by omega)
      · exact cont_pz n d (hp d hd (by simpa using hz))) hl
    refine pz_tup (h := 2 * n + 1) (n := 3) (fun d hd => ?_) (Nat.le_refl _)
    rcases List.mem_cons.mp hd with rfl | hd
    · exact (pz_str (x := "made") (by decide +kernel)).mono (Nat.zero_le _) (by omega)
    rcases List.mem_cons.mp hd with rfl | hd
    · exact (pz_str hx).mono (Nat.zero_le _) (by omega)
    rw [List.mem_singleton.mp hd]
    exact inner
theorem node_pz {n : Nat} {d : D} (k : Node n d) : Pz (2 * n + 1) (3 * (bC n + 2) + 3) d := by
  have hb := bC_ge n
  cases k with
  | link hx =>
    refine (pz_tup (h := 2 * n) (b := bC n) (n := 3) (fun d hd => ?_) (by decide : 2 ≤ 3))
    rcases List.mem_cons.mp hd with rfl | hd
    · exact (pz_str (x := "link") (by decide +kernel)).mono (Nat.zero_le _) (by omega)
    rw [List.mem_singleton.mp hd]
    exact (pz_str hx).mono (Nat.zero_le _) (by omega)
  | file hc h0 h1 =>
    refine (pz_tup (h := 2 * n) (b := bC n) (n := 3) (fun d hd => ?_) (by decide : 3 ≤ 3))
    rcases List.mem_cons.mp hd with rfl | hd
    · exact (pz_str (x := "file") (by decide +kernel)).mono (Nat.zero_le _) (by omega)
    rcases List.mem_cons.mp hd with rfl | hd
    · exact cont_pz n _ hc
    rw [List.mem_singleton.mp hd]
    exact (pz_int h0 (by omega)).mono (Nat.zero_le _) (by omega)
  | folder h0 h1 =>
    refine (pz_tup (h := 2 * n) (b := bC n) (n := 3) (fun d hd => ?_) (by decide : 2 ≤ 3))
    rcases List.mem_cons.mp hd with rfl | hd
    · exact (pz_str (x := "folder") (by decide +kernel)).mono (Nat.zero_le _) (by omega)
    rw [List.mem_singleton.mp hd]
    exact (pz_int h0 (by omega)).mono (Nat.zero_le _) (by omega)

open PySem PySem.Spec PyProof.Rows L2

/-! ### sizes -/
theorem allOf_int : ∀ ks : List Int, allOf unInt (ks.map D.int) = some ks
  | [] => rfl
  | k :: ks => by
    show allOf unInt (.int k :: ks.map D.int) = _
    unfold allOf
    rw [allOf_int ks]
    rfl
theorem run_sumI {QE : Nat → List (Str × D) → Sto → Prop} {S : Sto} {Q : D → Sto → Prop} {n : Nat} {ks : List Int} (h : S[n]? = some (.lst (ks.map D.int))) : RunX (sumD [.ref n]) S QE Q ↔ Q (.int ks.sum) S := run_ok (by
  unfold sumD seqL
  simp only [h]
  rw [allOf_int])
def szB (rec_ : List D → M D) : Env → M Fl :=
    seqM (ifS (tstM (isiM .tStr (getv 0))) (retM (cst (.int 1))) (nxM))
    (retM (binM addD (cst (.int 1)) (clM sumD (consA (lcM [1] (itAny (binM ixD (getv 0) (cst (.int 2)))) (gNm 1) (tstM (binM notNoneD (getv 1) (cst .non))) (clM rec_ (consA (getv 1) (nilA)))) (nilA)))))
def szM : Nat → List D → M D
  | 0 => fun _ => stuck
  | n + 1 => fnM 2 (szB (szM n))
def SzIs (n : Nat) (d : D) (k : Int) : Prop := ∀ (f : Nat) (S : Sto) (Q : D → Sto → Prop), n < f → (∀ S', Gw S S' → Q (.int k) S') → Run (szM f [d]) S Q
inductive SzA (n : Nat) : List D → List Int → Prop
  | nil : SzA n [] []
  | non {ps : List D} {ks : List Int} : SzA n ps ks → SzA n (.non :: ps) ks
  | cons {p : D} {ps : List D} {k : Int} {ks : List Int} : isNone p = false → SzIs n p k → SzA n ps ks → SzA n (p :: ps) (k :: ks)
theorem sz_str {x : Str} {n : Nat} : SzIs n (.str x) 1 := fun f S Q hf h => by
  obtain ⟨f, rfl⟩ : ∃ g, f = g + 1 := ⟨f - 1, by omega⟩
  unfold szM szB
  repeat (first | walk_at "dl" | walk_at "dm")
  refine run_isi.mpr ?_
  repeat (first | walk_at "dl" | walk_at "dm")
  refine ⟨.tStr, rfl, ?_⟩
  repeat (first | walk_at "dl" | walk_at "dm")
  refine ite_t rfl ?_
  repeat (first | walk_at "dl" | walk_at "dm")
  exact h S Gw.refl
theorem sz_made {n : Nat} {a c : D} {ps : List D} {ks : List Int} (hl : ps.length ≤ 1000) (k : SzA n ps ks) : SzIs (n + 1) (.tup [a, c, .tup ps]) (1 + ks.sum) := fun f S Q hf h => by
  obtain ⟨f, rfl⟩ : ∃ g, f = g + 1 := ⟨f - 1, by omega⟩
  unfold szM szB
  repeat (first | walk_at "dl" | walk_at "dm")
  refine run_isi.mpr ?_
  repeat (first | walk_at "dl" | walk_at "dm")
  refine ⟨.tTuple, rfl, ?_⟩
  repeat (first | walk_at "dl" | walk_at "dm")
  refine ite_f (by decide) ?_
  repeat (first | walk_at "dl" | walk_at "dm")
  refine comp_tup (xs := ps) (fun i acc S' => Gw S S' ∧ ∃ ks1 ks2, acc = ks1.map D.int ∧ SzA n (ps.drop i) ks2 ∧ ks = ks1 ++ ks2 ∧ ks1.length ≤ i) ⟨Gw.refl, [], ks, rfl, k, rfl, Nat.le_refl _⟩ (fun i acc S1 d hd ⟨g, ks1, ks2, ea, hs, ek, el⟩ => ?_) (fun acc S1 ⟨g, ks1, ks2, ea, hs, ek, el⟩ => ?_)
  · obtain ⟨hi, rfl⟩ := List.getElem?_eq_some_iff.mp hd
    rw [List.drop_eq_getElem_cons hi] at hs
    generalize ps[i] = p at *
    repeat (first | walk_at "dl" | walk_at "dm")
    cases hs with
    | non hs =>
      refine ite_f (by decide) ?_
      exact ⟨g, ks1, _, ea, hs, ek, by omega⟩
    | cons hp hz hs =>
      rename_i k' ks'
      refine ite_t (by rw [hp]; rfl) ?_
      repeat (first | walk_at "dl" | walk_at "dm")
      refine hz f S1 _ (by omega) fun S2 g2 => ?_
      refine ⟨small_len (by rw [ea, List.length_map]; omega), g.trans g2, ks1 ++ [k'], ks', by rw [ea, List.map_append]; rfl, hs, by rw [ek]; simp, by simp; omega⟩
  · rw [List.drop_length] at hs
    cases hs
    rw [List.append_nil] at ek
    subst ek; subst ea
    repeat (first | walk_at "dl" | walk_at "dm")
    refine (run_sumI last_get).mpr ?_
    repeat (first | walk_at "dl" | walk_at "dm")
    exact h _ (g.trans Gw.one)
def kC : Nat → Int
  | 0 => 1
  | n + 1 => 1 + 3 * kC n
theorem kC_ge : ∀ n, 1 ≤ kC n
  | 0 => Int.le_refl _
  | n + 1 => by
    have := kC_ge n
    show 1 ≤ 1 + 3 * kC n
    omega
theorem sza_of {n : Nat} {B : Int} (hB : 0 ≤ B) : ∀ {ps : List D}, (∀ p ∈ ps, isNone p = false → ∃ k, 0 ≤ k ∧ k ≤ B ∧ SzIs n p k) → ∃ ks, SzA n ps ks ∧ 0 ≤ ks.sum ∧ ks.sum ≤ (ps.length : Int) * B
  | [], _ => ⟨[], .nil, Int.le_refl _, by simp⟩
  | p :: ps, h => by
    obtain ⟨ks, a, s0, s1⟩ := sza_of hB (ps := ps) fun q hq => h q (List.mem_cons_of_mem _ hq)
    have e : ((p :: ps).length : Int) * B = (ps.length : Int) * B + B := by
      rw [List.length_cons, Int.natCast_add, Int.add_mul]
      simp
    rw [e]
    by_cases hz : isNone p = true
    · rw [none_of hz]
      exact ⟨ks, .non a, s0, by omega⟩
    · have hz' : isNone p = false := by simpa using hz
      obtain ⟨k, k0, k1, hk⟩ := h p (List.mem_cons_self ..) hz'
      exact ⟨k :: ks, .cons hz' hk a, by rw [List.sum_cons]; omega, by rw [List.sum_cons]; omega⟩
theorem cont_sz : ∀ (n : Nat) (d : D), Cont n d → ∃ k, 0 ≤ k ∧ k ≤ kC n ∧ SzIs n d k
  | n, _, .str hx => ⟨1, by decide, kC_ge n, sz_str⟩
  | _, _, .made (n := n) (x := x) (ps := ps) hx hl hp => by
    have g := kC_ge n
    obtain ⟨ks, a, s0, s1⟩ := sza_of (n := n) (B := kC n) (by omega) fun p hp' hz => cont_sz n p (hp p hp' hz)
    have s2 : (ps.length : Int) * kC n ≤ 3 * kC n := Int.mul_le_mul_of_nonneg_right (by omega) (by omega)
    exact ⟨1 + ks.sum, by omega, by show _ ≤ 1 + 3 * kC n; omega, sz_made (by omega) a⟩
theorem SzIs.mono {n m : Nat} {d : D} {k : Int} (h : SzIs n d k) (hm : n ≤ m) : SzIs m d k := fun f S Q hf q => h f S Q (by omega) q

open PySem PySem.Spec PyProof.Rows L2

/-! ### more runs -/
section
variable {S : Sto} {r : Env} {Q : D → Sto → Prop} {ma mb mc mo : Env → M D} {mA : Env → M (List D)}
theorem run_needM {QE : Nat → List (Str × D) → Sto → Prop} {f : Sto → Bool} {QU : Unit → Sto → Prop} : RunX (needM f) S QE QU ↔ f S = true ∧ QU () S := by
  by_cases h : f S = true
  · rw [run_ok (a := ()) (S' := S) (by unfold needM; rw [if_pos h])]
    exact ⟨fun q => ⟨h, q⟩, fun q => q.2⟩
  · rw [run_nope (by unfold needM; rw [if_neg h])]
    exact ⟨fun q => q.elim, fun q => h q.1⟩
theorem run_mt {QE : Nat → List (Str × D) → Sto → Prop} {T : String} {op : D → List D → M D} : RunX (mtM T op mo mA r) S QE Q ↔ RunX (mo r) S QE fun d S1 => tyD T S1 d = true ∧ RunX (mA r) S1 QE fun ds S2 => RunX (op d ds) S2 QE Q := by
  unfold mtM
  simp only [run_bnd, run_needM]
theorem run_split {QE : Nat → List (Str × D) → Sto → Prop} {a b : Str} : RunX (splitD (.str a) [.str b]) S QE Q ↔ ((b.length == 0) = false ∧ a.length + 2 ≤ sizeLine) ∧ Q (.ref S.length) (S ++ [.lst ((Txt.split a b).map D.str)]) := by unfold splitD; rw [run_need, run_newO]
theorem allOf_str : ∀ ks : List Str, allOf unStr (ks.map D.str) = some ks
  | [] => rfl
  | k :: ks => by
    show allOf unStr (.str k :: ks.map D.str) = _
    unfold allOf
    rw [allOf_str ks]
    rfl
theorem run_join {QE : Nat → List (Str × D) → Sto → Prop} {a : Str} {n : Nat} {ys : List Str} (h : S[n]? = some (.lst (ys.map D.str))) (hz : (ys.map (·.length)).sum + ys.length * a.length ≤ 16777216) : RunX (joinD (.str a) [.ref n]) S QE Q ↔ Q (.str (Txt.join a ys)) S := run_ok (by
  unfold joinD itemsD seqL
  simp only [h, allOf_str]
  rw [if_pos hz])
theorem run_insert {QE : Nat → List (Str × D) → Sto → Prop} {n : Nat} {i : Int} {d : D} {xs : List D} (h : S[n]? = some (.lst xs)) (hz : xs.length < sizeLine) (h0 : 0 ≤ i) (h1 : i < 2 ^ 63) : RunX (insertD (.ref n) [.int i, d]) S QE Q ↔ Q .non (S.set n (.lst (xs.take i.toNat ++ [d] ++ xs.drop i.toNat))) := run_ok (by
  unfold insertD
  simp only [h]
  rw [if_pos ⟨hz, h0, h1⟩])
theorem run_addS {QE : Nat → List (Str × D) → Sto → Prop} {a b : Str} : RunX (addD (.str a) (.str b)) S QE Q ↔ a.length + b.length ≤ sizeLine ∧ Q (.str (a ++ b)) S := by unfold addD; rw [run_need, run_pure]
theorem run_addT {QE : Nat → List (Str × D) → Sto → Prop} {a b : List D} : RunX (addD (.tup a) (.tup b)) S QE Q ↔ a.length + b.length ≤ sizeLine ∧ Q (.tup (a ++ b)) S := by unfold addD; rw [run_need, run_pure]
theorem run_addL {QE : Nat → List (Str × D) → Sto → Prop} {n m : Nat} {a b : List D} (hn : S[n]? = some (.lst a)) (hm : S[m]? = some (.lst b)) (hz : a.length + b.length ≤ sizeLine) : RunX (addD (.ref n) (.ref m)) S QE Q ↔ Q (.ref S.length) (S ++ [.lst (a ++ b)]) := run_ok (by
  unfold addD
  simp only [hn, hm]
  rw [if_pos hz]
  rfl)
theorem run_mulL {QE : Nat → List (Str × D) → Sto → Prop} {n : Nat} {a : List D} {k : Int} (hn : S[n]? = some (.lst a)) (h0 : 0 ≤ k) (h1 : k < 2 ^ 63) (hz : a.length * k.toNat ≤ sizeLine) : RunX (mulD (.ref n) (.int k)) S QE Q ↔ Q (.ref S.length) (S ++ [.lst (List.replicate k.toNat a).flatten]) := run_ok (by
  unfold mulD
  simp only [hn]
  rw [if_pos ⟨by omega, h1, hz⟩]
  rfl)
theorem run_slT {QE : Nat → List (Str × D) → Sto → Prop} {xs : List D} {lo hi : Option Int} : RunX (slD (.tup xs) lo hi) S QE Q ↔ Q (.tup (cutL xs lo hi)) S := run_ok rfl
theorem run_slS {QE : Nat → List (Str × D) → Sto → Prop} {z : Str} {lo hi : Option Int} (hz : z.length ≤ sizeLine) : RunX (slD (.str z) lo hi) S QE Q ↔ Q (.str (cutS z lo hi)) S := run_ok (by unfold slD; simp only []; rw [if_pos hz])
theorem run_slL {QE : Nat → List (Str × D) → Sto → Prop} {n : Nat} {xs : List D} {lo hi : Option Int} (h : S[n]? = some (.lst xs)) : RunX (slD (.ref n) lo hi) S QE Q ↔ Q (.ref S.length) (S ++ [.lst (cutL xs lo hi)]) := run_ok (by
  unfold slD seqL
  simp only [h]
  rfl)
theorem run_ixS {QE : Nat → List (Str × D) → Sto → Prop} {z : Str} {i : Int} {c : Nat} (hz : z.length ≤ sizeLine) (hi : atI z.cps.toList i = some c) : RunX (ixD (.str z) (.int i)) S QE Q ↔ Q (.str ⟨#[c]⟩) S := run_ok (by
  unfold ixD
  simp only [hi]
  rw [if_pos hz])
theorem run_gTp {is : List Nat} {ds : List D} {QE : Nat → List (Str × D) → Sto → Prop} {QN : Env → Sto → Prop} (h : ds.length = is.length) : RunX (gTp is (.tup ds) r) S QE QN ↔ QN (setAll r is ds) S := by
  unfold gTp
  simp only [if_pos h]
  exact run_pure
theorem run_st {QE : Nat → List (Str × D) → Sto → Prop} {ms : Env → M D} : RunX (stM ma ms r) S QE Q ↔ RunX (ma r) S QE fun d S1 => RunX (ms r) S1 QE fun i S2 => RunX (stepD d i) S2 QE Q := by unfold stM; simp only [run_bnd]
theorem run_step1 {QE : Nat → List (Str × D) → Sto → Prop} {n : Nat} {xs : List D} (h : S[n]? = some (.lst xs)) : RunX (stepD (.ref n) (.int 1)) S QE Q ↔ Q (.ref S.length) (S ++ [.lst xs]) := run_ok (by
  unfold stepD seqL
  simp only [h]
  rfl)
theorem run_stepB {QE : Nat → List (Str × D) → Sto → Prop} {n : Nat} {xs : List D} (h : S[n]? = some (.lst xs)) : RunX (stepD (.ref n) (.int (-1))) S QE Q ↔ Q (.ref S.length) (S ++ [.lst xs.reverse]) := run_ok (by
  unfold stepD seqL
  simp only [h]
  rfl)
theorem run_negI {QE : Nat → List (Str × D) → Sto → Prop} {i : Int} : RunX (negD (.int i)) S QE Q ↔ Q (.int (-i)) S := run_pure
theorem run_dnew {QE : Nat → List (Str × D) → Sto → Prop} : RunX (dnewM r) S QE Q ↔ Q (.ref S.length) (S ++ [.dK []]) := run_newO
theorem run_dictC {QE : Nat → List (Str × D) → Sto → Prop} {n : Nat} {kvs : List (Key × D)} (h : S[n]? = some (.dK kvs)) : RunX (dictD [.ref n]) S QE Q ↔ Q (.ref S.length) (S ++ [.dK kvs]) := run_ok (by
  unfold dictD
  simp only [h]
  rfl)
theorem run_dictP {QE : Nat → List (Str × D) → Sto → Prop} {n : Nat} {xs : List D} {kvs : List (Key × D)} (h : S[n]? = some (.lst xs)) (hk : allOf unPair xs = some kvs) : RunX (dictD [.ref n]) S QE Q ↔ Q (.ref S.length) (S ++ [.dK (mergeKD [] kvs)]) := run_ok (by
  unfold dictD
  simp only [h, hk]
  rfl)
theorem run_dget2 {QE : Nat → List (Str × D) → Sto → Prop} {md mk mx : Env → M D} : RunX (dget2M md mk mx r) S QE Q ↔ RunX (md r) S QE fun d S1 => tyD "dict" S1 d = true ∧ RunX (mk r) S1 QE fun k S2 => RunX (mx r) S2 QE fun x S3 => RunX (dgetD d k x) S3 QE Q := by
  unfold dget2M
  simp only [run_bnd, run_needM]
theorem run_dget {QE : Nat → List (Str × D) → Sto → Prop} {n : Nat} {kvs : List (Key × D)} {x : D} {k : D} {kk : Key} (h : S[n]? = some (.dK kvs)) (hk : unKey k = some kk) : RunX (dgetD (.ref n) k x) S QE Q ↔ Q ((valD kvs kk).getD x) S := run_ok (by unfold dgetD; simp only [hk, h])
theorem run_chM {QE : Nat → List (Str × D) → Sto → Prop} {f g : D → D → M D} : RunX (chM f g ma mb mc r) S QE Q ↔ RunX (ma r) S QE fun x S1 => RunX (mb r) S1 QE fun y S2 => RunX (f x y) S2 QE fun z S3 => RunX (asB z) S3 QE fun k S4 => if k = true then RunX (mc r) S4 QE fun w S5 => RunX (g y w) S5 QE Q else Q (.bl false) S4 := by
  unfold chM
  simp only [run_bnd, run_ite, run_pure]
theorem allOf_bl : ∀ ks : List Bool, allOf unBl (ks.map D.bl) = some ks
  | [] => rfl
  | k :: ks => by
    show allOf unBl (.bl k :: ks.map D.bl) = _
    unfold allOf
    rw [allOf_bl ks]
    rfl
theorem run_allB {QE : Nat → List (Str × D) → Sto → Prop} {n : Nat} {ks : List Bool} (h : S[n]? = some (.lst (ks.map D.bl))) : RunX (allD [.ref n]) S QE Q ↔ Q (.bl (ks.all id)) S := run_ok (by
  unfold allD seqL
  simp only [h]
  rw [allOf_bl])
theorem run_isBl {QE : Nat → List (Str × D) → Sto → Prop} {a b : Bool} : RunX (isBlD (.bl a) (.bl b)) S QE Q ↔ Q (.bl (decide (a = b))) S := run_pure
theorem run_notBl {QE : Nat → List (Str × D) → Sto → Prop} {a b : Bool} : RunX (notBlD (.bl a) (.bl b)) S QE Q ↔ Q (.bl (!decide (a = b))) S := run_pure
theorem run_inS {QE : Nat → List (Str × D) → Sto → Prop} {x z : Str} : RunX (memD (.str x) (.str z)) S QE Q ↔ Q (.bl (!(Builtin.Str.occurrences z x 0 z.length 1).isEmpty)) S := by unfold memD; exact run_ofB rfl
/-! cuts -/
theorem cut_to {α : Type} {xs : List α} {i : Int} (h : 0 ≤ i) : cutL xs none (some i) = xs.take i.toNat := by
  unfold cutL HT.sIx
  simp only []
  rw [if_neg (by omega)]
  simp
theorem cut_from {α : Type} {xs : List α} {i : Int} (h : 0 ≤ i) : cutL xs (some i) none = xs.drop i.toNat := by
  unfold cutL HT.sIx
  simp only []
  rw [if_neg (by omega)]
  by_cases hl : i.toNat ≤ xs.length
  · rw [Nat.min_eq_left hl]
    exact List.take_of_length_le (by rw [List.length_drop]; exact Nat.le_refl _)
  · rw [Nat.min_eq_right (by omega), List.drop_length, List.drop_eq_nil_of_le (by omega)]
    simp
theorem cutS_list (z : Str) (lo hi : Option Int) : (cutS z lo hi).cps.toList = cutL z.cps.toList lo hi := by
  unfold cutS cutL Str.length
  simp
end
/-- a name -/
def lw (c : Nat) : Bool := decide (97 ≤ c) && decide (c ≤ 122)
def nmOk (x : Str) : Bool := decide (1 ≤ x.length) && decide (x.length ≤ 8) && x.cps.toList.all lw
def low : Str := "abcdefghijklmnopqrstuvwxyz"
theorem low_ok : low.cps.toList.all lw = true ∧ low.cps.toList.length = 26 ∧ low.length = 26 := by decide +kernel
theorem low_in : ∀ c, lw c = true → (!(Builtin.Str.occurrences low ⟨#[c]⟩ 0 low.length 1).isEmpty) = true := by
  intro c h
  unfold lw at h
  rw [Bool.and_eq_true] at h
  have h1 := of_decide_eq_true h.1
  have h2 := of_decide_eq_true h.2
  have k : ∀ j : Fin 26, (!(Builtin.Str.occurrences low ⟨#[97 + j.val]⟩ 0 low.length 1).isEmpty) = true := by decide +kernel
  have := k ⟨c - 97, by omega⟩
  have e : 97 + (c - 97) = c := by omega
  simpa [e] using this
theorem low_at {i : Int} (h0 : 0 ≤ i) (h1 : i < 26) : ∃ c, atI low.cps.toList i = some c ∧ lw c = true := by
  have e : (i.toNat : Int) = i := Int.toNat_of_nonneg h0
  have hl : i.toNat < low.cps.toList.length := by rw [low_ok.2.1]; omega
  refine ⟨low.cps.toList[i.toNat], ?_, List.all_eq_true.mp low_ok.1 _ (List.getElem_mem _)⟩
  have a := atI_nat (xs := low.cps.toList) (List.getElem?_eq_getElem hl)
  rwa [e] at a

open PySem PySem.Spec PyProof.Rows L2

theorem join_cs : ∀ cs : List Nat, (Str.join (Str.ofString "") (cs.map fun c => (⟨#[c]⟩ : Str))).cps.toList = cs
  | [] => rfl
  | [c] => rfl
  | c :: d :: r => by
    have ih := join_cs (d :: r)
    show ((⟨#[c]⟩ : Str) ++ Str.ofString "" ++ Str.join (Str.ofString "") ((d :: r).map fun c => (⟨#[c]⟩ : Str))).cps.toList = _
    rw [Str.cps_append, Str.cps_append, Array.toList_append, Array.toList_append, ih]
    rfl
theorem txt_join_cs (cs : List Nat) : (Txt.join (Str.ofString "") (cs.map fun c => (⟨#[c]⟩ : Str))).cps.toList = cs := by
  unfold Txt.join
  rw [StrLaws.glued_eq_join]
  exact join_cs cs
theorem len_list (x : Str) : x.length = x.cps.toList.length := by unfold Str.length; simp
def wds : List Str := Txt.split ((Str.ofString "file link folder gone cleared opaque keep made write delete clear copy rights run path arg text stage") ++ (Str.ofString " a b ab zz all content")) (Str.ofString " ")
theorem wds_ok : wds.length = 24 ∧ wds.all nmOk = true := by decide +kernel
def namesB : Env → M Fl :=
    seqM (asgM (cst (.str "abcdefghijklmnopqrstuvwxyz")) (gNm 2))
    (seqM (asgM (cst (.str "file link folder gone cleared opaque keep made write delete clear copy rights run path arg text stage")) (gNm 3))
    (seqM (asgM (mtM "str" splitD (binM addD (getv 3) (cst (.str " a b ab zz all content"))) (consA (cst (.str " ")) (nilA))) (gNm 3))
    (seqM (asgM (tupM (consA (clM (takeM) (consA (getv 0) (consA (cst (.int 4)) (nilA)))) (consA (clM (takeM) (consA (getv 0) (consA (cst (.int 24)) (nilA)))) (nilA)))) (gTp [4, 5]))
    (seqM (asgM (mtM "str" joinD (cst (.str "")) (consA (lcM [8] (itRng1 (consA (binM addD (cst (.int 1)) (clM (takeM) (consA (getv 0) (consA (cst (.int 7)) (nilA))))) (nilA))) (gNm 8) (yesM) (binM ixD (getv 2) (clM (takeM) (consA (getv 0) (consA (cst (.int 26)) (nilA)))))) (nilA))) (gNm 6))
    (seqM (asgM (clM (takeM) (consA (getv 0) (consA (binM addD (clM lenD (consA (getv 6) (nilA))) (cst (.int 1))) (nilA)))) (gNm 7))
    (seqM (ifS (tstM (binM eqD (getv 4) (cst (.int 0)))) (retM (slM (binM addD (slM (getv 3) (someP (getv 5)) (noP)) (slM (getv 3) (noP) (someP (getv 5)))) (noP) (someP (getv 1)))) (nxM))
    (seqM (ifS (tstM (binM eqD (getv 4) (cst (.int 1)))) (retM (lcM [8] (itRng1 (consA (getv 1) (nilA))) (gNm 8) (yesM) (binM ixD (getv 2) (binM modD (binM addD (getv 5) (binM mulD (cst (.int 3)) (getv 8))) (cst (.int 26)))))) (nxM))
    (retM (lcM [8] (itRng1 (consA (getv 1) (nilA))) (gNm 8) (yesM) (binM addD (binM addD (slM (getv 6) (noP) (someP (getv 7))) (binM ixD (getv 2) (binM modD (binM addD (getv 5) (binM mulD (cst (.int 3)) (getv 8))) (cst (.int 26))))) (slM (getv 6) (someP (getv 7)) (noP))))))))))))
def namesM : List D → M D := fnM 9 namesB
/-- a list of names -/
def Nms (k : Nat) (xs : List D) : Prop := xs.length = k ∧ ∀ d ∈ xs, ∃ x, d = .str x ∧ nmOk x = true
theorem small_eq {n k : Nat} (h : n ≤ k) (hk : k ≤ 1000) : n < sizeLine := small_len (Nat.le_trans h hk)
theorem names_run {S : Sto} {b : Nat} {k : Nat} {Q : D → Sto → Prop} (hk : 0 < k) (hk2 : k ≤ 24) (hb : Bag S b) (h : ∀ n xs S', S'[n]? = some (.lst xs) → n ≠ b → S.length ≤ n → Nms k xs → Bag S' b → Fr b S S' → Q (.ref n) S') : Run (namesM [.ref b, .int (k : Int)]) S Q := by
  unfold namesM namesB
  repeat (first | walk_at "dl" | walk_at "dm")
  refine run_mt.mpr ?_
  repeat (first | walk_at "dl" | walk_at "dm")
  refine run_addS.mpr ⟨Nat.le_of_ble_eq_true rfl, ⟨rfl, ?_⟩⟩
  repeat (first | walk_at "dl" | walk_at "dm")
  refine run_split.mpr ⟨⟨by decide +kernel, Nat.le_of_ble_eq_true rfl⟩, ?_⟩
  show Run _ (S ++ [.lst (wds.map D.str)]) _
  have fr0 : Fr b S (S ++ [.lst (wds.map D.str)]) := Gw.one.fr
  have hw0 : (S ++ [O.lst (wds.map D.str)])[S.length]? = some (.lst (wds.map D.str)) := last_get
  have hB0 : Bag (S ++ [.lst (wds.map D.str)]) b := Gw.one.bag hb
  have hbs : S.length ≠ b := Nat.ne_of_gt hb.lt
  have hle : S.length < (S ++ [O.lst (wds.map D.str)]).length := by simp
  generalize S ++ [O.lst (wds.map D.str)] = S0 at fr0 hw0 hB0 hle
  repeat (first | walk_at "dl" | walk_at "dm")
  refine take_run hB0 (by decide) (by decide) fun way S1 w0 w1 hB1 fr1 => ?_
  repeat (first | walk_at "dl" | walk_at "dm")
  refine take_run hB1 (by decide) (by decide) fun tn S2 t0 t1 hB2 fr2 => ?_
  repeat (first | walk_at "dl" | walk_at "dm")
  refine ⟨Nat.le_of_ble_eq_true rfl, (run_gTp rfl).mpr ?_⟩
  repeat (first | walk_at "dl" | walk_at "dm")
  refine run_mt.mpr ?_
  repeat (first | walk_at "dl" | walk_at "dm")
  refine ⟨rfl, ?_⟩
  repeat (first | walk_at "dl" | walk_at "dm")
  refine take_run hB2 (by decide) (by decide) fun m S3 m0 m1 hB3 fr3 => ?_
  repeat (first | walk_at "dl" | walk_at "dm")
  refine run_itR1 (by omega) (by omega) ?_
  rw [size_rng]
  have fr13 := (fr1.trans fr2).trans fr3
  refine comp_rng (fun i acc S' => Bag S' b ∧ Fr b S0 S' ∧ ∃ cs : List Nat, acc = (cs.map fun c => (⟨#[c]⟩ : Str)).map D.str ∧ cs.length = i ∧ cs.all lw = true) ⟨hB3, fr13, [], rfl, rfl, rfl⟩ (fun i acc S4 hi ⟨hB, fr, cs, ea, hl, hc⟩ => ?_) (fun acc S4 ⟨hB4, fr4, cs, ea, hl, hc⟩ => ?_)
  · repeat (first | walk_at "dl" | walk_at "dm")
    refine ite_t rfl ?_
    repeat (first | walk_at "dl" | walk_at "dm")
    refine take_run hB (by decide) (by decide) fun n S5 n0 n1 hB5 fr5 => ?_
    obtain ⟨c, hc1, hc2⟩ := low_at n0 n1
    refine (run_ixS (z := low) (Nat.le_of_ble_eq_true rfl) hc1).mpr ?_
    subst ea
    refine ⟨small_len (by simp; omega), hB5, fr.trans fr5, cs ++ [c], by simp, by simp [hl], by simp [hc, hc2]⟩
  · subst ea
    repeat (first | walk_at "dl" | walk_at "dm")
    have hsum : ((cs.map fun c => (⟨#[c]⟩ : Str)).map (·.length)).sum + (cs.map fun c => (⟨#[c]⟩ : Str)).length * (Str.ofString "").length ≤ 16777216 := by
      have e1 : (cs.map fun c => (⟨#[c]⟩ : Str)).map (·.length) = cs.map fun _ => 1 := by rw [List.map_map]; rfl
      have e2 : (Str.ofString "").length = 0 := rfl
      have e3 : ∀ l : List Nat, (l.map fun _ => 1).sum = l.length := by
        intro l
        induction l with
        | nil => rfl
        | cons a l ih => simp [ih]; omega
      rw [e1, e2, e3]
      omega
    refine (run_join last_get hsum).mpr ?_
    have hbase := txt_join_cs cs
    generalize Txt.join (Str.ofString "") (cs.map fun c => (⟨#[c]⟩ : Str)) = base at hbase
    have hbl : base.length = cs.length := by rw [len_list, hbase]
    have hB4' : Bag (S4 ++ [.lst ((cs.map fun c => (⟨#[c]⟩ : Str)).map D.str)]) b := Gw.one.bag hB4
    have fr4' : Fr b S0 (S4 ++ [.lst ((cs.map fun c => (⟨#[c]⟩ : Str)).map D.str)]) := fr4.trans Gw.one.fr
    generalize S4 ++ [O.lst ((cs.map fun c => (⟨#[c]⟩ : Str)).map D.str)] = S5 at hB4' fr4'
    repeat (first | walk_at "dl" | walk_at "dm")
    refine (run_lenS (by rw [hbl]; exact Nat.le_of_lt (small_len (by omega)))).mpr ?_
    repeat (first | walk_at "dl" | walk_at "dm")
    refine take_run hB4' (by omega) (by omega) fun at_ S6 a0 a1 hB6 fr6 => ?_
    have frA := fr0.trans (fr4'.trans fr6)
    have hw6 : S6[S.length]? = some (.lst (wds.map D.str)) := (fr4'.trans fr6).get hbs hw0
    have hb6 := hB6.lt
    have hl6 : S.length < S6.length := (List.getElem?_eq_some_iff.mp hw6).1
    repeat (first | walk_at "dl" | walk_at "dm")
    refine ite_eq (fun hz => ?_) (fun hz => ?_)
    · repeat (first | walk_at "dl" | walk_at "dm")
      refine (run_slL hw6).mpr ?_
      repeat (first | walk_at "dl" | walk_at "dm")
      refine (run_slL (Gw.one.get hw6)).mpr ?_
      have hlen : (wds.map D.str).length = 24 := by rw [List.length_map]; exact wds_ok.1
      rw [cut_from t0, cut_to t0]
      refine (run_addL (Gw.one.get last_get) last_get (by rw [List.length_drop, List.length_take, hlen]; exact Nat.le_of_lt (small_len (by omega)))).mpr ?_
      repeat (first | walk_at "dl" | walk_at "dm")
      refine (run_slL last_get).mpr ?_
      repeat (first | walk_at "dl" | walk_at "dm")
      rw [cut_to (by omega)]
      refine h _ _ _ last_get (by simp; omega) (by simp; omega) ⟨?_, fun d hd => ?_⟩ (Gw.one.bag (Gw.one.bag (Gw.one.bag (Gw.one.bag hB6)))) (frA.trans (((Gw.one.trans Gw.one).trans Gw.one).trans Gw.one).fr)
      · rw [List.length_take, List.length_append, List.length_drop, List.length_take, hlen]
        omega
      · have hd := List.mem_of_mem_take hd
        have hm : d ∈ wds.map D.str := by
          rcases List.mem_append.mp hd with hd | hd
          · exact List.mem_of_mem_drop hd
          · exact List.mem_of_mem_take hd
        obtain ⟨x, hx, rfl⟩ := List.mem_map.mp hm
        exact ⟨x, rfl, List.all_eq_true.mp wds_ok.2 x hx⟩
    · repeat (first | walk_at "dl" | walk_at "dm")
      have letter : ∀ (i : Int) (S : Sto) (Q : D → Sto → Prop), 0 ≤ i → (∀ c, lw c = true → Q (.str ⟨#[c]⟩) S) → Run (ixD (.str "abcdefghijklmnopqrstuvwxyz") (.int (i % 26))) S Q := fun i S Q hi q => by
        obtain ⟨c, hc1, hc2⟩ := low_at (Int.emod_nonneg i (by omega)) (Int.emod_lt_of_pos i (by omega))
        exact (run_ixS (z := low) (Nat.le_of_ble_eq_true rfl) hc1).mpr (q c hc2)
      have s3 : small64 3 = true := by decide
      refine ite_eq (fun hz => ?_) (fun hz => ?_)
      · repeat (first | walk_at "dl" | walk_at "dm")
        refine run_itR1 (by omega) (by omega) ?_
        rw [size_rng]
        refine comp_rng (fun i acc S' => S' = S6 ∧ Nms i acc) ⟨rfl, rfl, fun d hd => absurd hd (List.not_mem_nil)⟩ (fun i acc S7 hi ⟨e, hn⟩ => ?_) (fun acc S7 ⟨e, hn⟩ => ?_)
        · subst e
          repeat (first | walk_at "dl" | walk_at "dm")
          refine ite_t rfl ?_
          repeat (first | walk_at "dl" | walk_at "dm" | refine run_mulI.mpr ⟨by rw [s3]; rfl, ?_⟩ | refine run_modI.mpr ⟨by decide, ?_⟩)
          refine letter _ _ _ (by omega) fun c hc => ?_
          have hn1 := hn.1
          refine ⟨small_len (by omega), rfl, by simp [hn1], fun d hd => ?_⟩
          rcases List.mem_append.mp hd with hd | hd
          · exact hn.2 d hd
          · rw [List.mem_singleton.mp hd]
            exact ⟨_, rfl, by unfold nmOk; simp [Str.length, hc]⟩
        · subst e
          have e : ((k : Int).toNat) = k := by omega
          rw [e] at hn
          repeat (first | walk_at "dl" | walk_at "dm")
          exact h _ _ _ last_get (by omega) (by omega) hn (Gw.one.bag hB6) (frA.trans Gw.one.fr)
      · repeat (first | walk_at "dl" | walk_at "dm")
        refine run_itR1 (by omega) (by omega) ?_
        rw [size_rng]
        refine comp_rng (fun i acc S' => S' = S6 ∧ Nms i acc) ⟨rfl, rfl, fun d hd => absurd hd (List.not_mem_nil)⟩ (fun i acc S7 hi ⟨e, hn⟩ => ?_) (fun acc S7 ⟨e, hn⟩ => ?_)
        · subst e
          have hbz : base.length ≤ sizeLine := by rw [hbl]; exact Nat.le_of_lt (small_len (by omega))
          repeat (first | walk_at "dl" | walk_at "dm")
          refine ite_t rfl ?_
          repeat (first | walk_at "dl" | walk_at "dm")
          refine (run_slS hbz).mpr ?_
          repeat (first | walk_at "dl" | walk_at "dm" | refine run_mulI.mpr ⟨by rw [s3]; rfl, ?_⟩ | refine run_modI.mpr ⟨by decide, ?_⟩)
          refine letter _ _ _ (by omega) fun c hc2 => ?_
          have l1 : (cutS base none (some at_)).cps.toList = cs.take at_.toNat := by rw [cutS_list, hbase, cut_to a0]
          have l2 : (cutS base (some at_) none).cps.toList = cs.drop at_.toNat := by rw [cutS_list, hbase, cut_from a0]
          have n1 : (cutS base none (some at_)).length ≤ 7 := by rw [len_list, l1, List.length_take]; omega
          have n2 : (cutS base (some at_) none).length ≤ 7 := by rw [len_list, l2, List.length_drop]; omega
          refine run_addS.mpr ⟨?_, ?_⟩
          · have : (⟨#[c]⟩ : Str).length = 1 := rfl
            exact Nat.le_of_lt (small_len (by omega))
          repeat (first | walk_at "dl" | walk_at "dm")
          refine (run_slS hbz).mpr ?_
          have l3 : (cutS base none (some at_) ++ (⟨#[c]⟩ : Str)).length ≤ 8 := by
            rw [Str.length_append]
            have : (⟨#[c]⟩ : Str).length = 1 := rfl
            omega
          refine run_addS.mpr ⟨Nat.le_of_lt (small_len (by omega)), ?_⟩
          have hn1 := hn.1
          refine ⟨small_len (by omega), rfl, by simp [hn1], fun d hd => ?_⟩
          rcases List.mem_append.mp hd with hd | hd
          · exact hn.2 d hd
          · rw [List.mem_singleton.mp hd]
            refine ⟨_, rfl, ?_⟩
            have el : (cutS base none (some at_) ++ (⟨#[c]⟩ : Str) ++ cutS base (some at_) none).cps.toList = cs.take at_.toNat ++ [c] ++ cs.drop at_.toNat := by
              rw [Str.cps_append, Str.cps_append, Array.toList_append, Array.toList_append, l1, l2]
            unfold nmOk
            rw [len_list, el]
            have ha : (cs.take at_.toNat ++ [c] ++ cs.drop at_.toNat).all lw = true := by
              rw [List.all_append, List.all_append]
              simp only [Bool.and_eq_true]
              refine ⟨⟨?_, by simp [hc2]⟩, ?_⟩
              · exact List.all_eq_true.mpr fun x hx => List.all_eq_true.mp hc x (List.mem_of_mem_take hx)
              · exact List.all_eq_true.mpr fun x hx => List.all_eq_true.mp hc x (List.mem_of_mem_drop hx)
            rw [ha]
            have hl2 : (cs.take at_.toNat ++ [c] ++ cs.drop at_.toNat).length = cs.length + 1 := by
              simp only [List.length_append, List.length_take, List.length_drop, List.length_singleton]
              omega
            rw [hl2]
            have hc7 : cs.length ≤ 7 := by omega
            simp
            omega
        · subst e
          have e : ((k : Int).toNat) = k := by omega
          rw [e] at hn
          repeat (first | walk_at "dl" | walk_at "dm")
          exact h _ _ _ last_get (by omega) (by omega) hn (Gw.one.bag hB6) (frA.trans Gw.one.fr)

open PySem PySem.Spec PyProof.Rows L2

/-! ### a list in another order -/
def mixedB : Env → M Fl :=
    seqM (asgM (lstM (nilA)) (gNm 2))
    (seqM (forM_ (itAny (getv 1)) (gNm 3) (dropM (mtM "list" insertD (getv 2) (consA (clM (takeM) (consA (getv 0) (consA (binM addD (clM lenD (consA (getv 2) (nilA))) (cst (.int 1))) (nilA)))) (consA (getv 3) (nilA))))))
    (retM (getv 2)))
def mixedM : List D → M D := fnM 4 mixedB
theorem mixed_run {S : Sto} {b n : Nat} {xs : List D} {Q : D → Sto → Prop} (hb : Bag S b) (hn : S[n]? = some (.lst xs)) (hnb : n ≠ b) (hx : xs.length ≤ 1000)
    (h : ∀ m ys S', S'[m]? = some (.lst ys) → S.length ≤ m → ys.length = xs.length → (∀ d ∈ ys, d ∈ xs) → Bag S' b → Fr b S S' → Q (.ref m) S') : Run (mixedM [.ref b, .ref n]) S Q := by
  have hnl := (List.getElem?_eq_some_iff.mp hn).1
  have hbl := hb.lt
  unfold mixedM mixedB
  repeat (first | walk_at "dl" | walk_at "dm")
  refine ⟨Nat.le_of_ble_eq_true rfl, ?_⟩
  repeat (first | walk_at "dl" | walk_at "dm")
  refine run_itAL (xs := xs) (Gw.one.get hn) ?_
  refine for_lstS (xs := xs) (fun i r S' => Bag S' b ∧ Fr b S S' ∧ i ≤ xs.length ∧ ∃ ys v, S'[S.length]? = some (.lst ys) ∧ ys.length = i ∧ (∀ d ∈ ys, d ∈ xs) ∧ r = [some (.ref b), some (.ref n), some (.ref S.length), v])
    ⟨Gw.one.bag hb, Gw.one.fr, Nat.zero_le _, [], _, last_get, rfl, fun d hd => absurd hd (List.not_mem_nil), rfl⟩ (fun i r S' z => z.2.1.get hnb hn) (fun i r S' d hd ⟨hB, fr, hi, ys, v, hy, hl, hm, er⟩ => ?_) (fun r S' ⟨hB, fr, hi, ys, v, hy, hl, hm, er⟩ => ?_)
  · subst er
    have hi2 := (List.getElem?_eq_some_iff.mp hd).1
    repeat (first | walk_at "dl" | walk_at "dm")
    refine run_mt.mpr ?_
    repeat (first | walk_at "dl" | walk_at "dm")
    refine ⟨by unfold tyD; simp only [hy]; rfl, ?_⟩
    repeat (first | walk_at "dl" | walk_at "dm" | refine (run_lenL hy).mpr ?_)
    refine take_run hB (by omega) (by omega) fun k S1 k0 k1 hB1 fr1 => ?_
    have hy1 := fr1.get (Nat.ne_of_gt hbl) hy
    repeat (first | walk_at "dl" | walk_at "dm")
    refine (run_insert hy1 (small_len (by omega)) k0 (by omega)).mpr ?_
    repeat (first | walk_at "dl" | walk_at "dm")
    have frs : Fr b S (S1.set S.length (.lst (ys.take k.toNat ++ [d] ++ ys.drop k.toNat))) := ⟨by rw [List.length_set]; exact (fr.trans fr1).len, fun j hj hj2 => by
      rw [List.getElem?_set_ne (by omega)]
      exact (fr.trans fr1).at_ j hj hj2⟩
    refine ⟨hB1.set hbl, frs, by omega, _, _, List.getElem?_set_self (List.getElem?_eq_some_iff.mp hy1).1, ?_, fun e he => ?_, rfl⟩
    · simp only [List.length_append, List.length_take, List.length_drop, List.length_singleton]
      omega
    · rcases List.mem_append.mp he with he | he
      · rcases List.mem_append.mp he with he | he
        · exact hm e (List.mem_of_mem_take he)
        · rw [List.mem_singleton.mp he]
          exact List.mem_of_getElem? hd
      · exact hm e (List.mem_of_mem_drop he)
  · subst er
    repeat (first | walk_at "dl" | walk_at "dm")
    exact h _ ys S' hy (Nat.le_refl _) hl hm hB fr
/-! ### paths -/
def Pth (lo hi : Nat) (d : D) : Prop := ∃ xs, d = .tup xs ∧ lo ≤ xs.length ∧ xs.length ≤ hi ∧ ∀ d ∈ xs, ∃ x, d = .str x ∧ nmOk x = true
def pathB : Env → M Fl :=
    retM (clM tupleD (consA (lcM [3] (itRng1 (consA (binM addD (getv 2) (clM (takeM) (consA (getv 0) (consA (cst (.int 3)) (nilA))))) (nilA))) (gNm 3) (yesM) (binM ixD (getv 1) (clM (takeM) (consA (getv 0) (consA (clM lenD (consA (getv 1) (nilA))) (nilA)))))) (nilA)))
def pathM : List D → M D := fnM 4 pathB
theorem path_run {S : Sto} {b n k lo : Nat} {xs : List D} {Q : D → Sto → Prop} (hb : Bag S b) (hn : S[n]? = some (.lst xs)) (hnb : n ≠ b) (hx : Nms k xs) (hk : 0 < k) (hk2 : k ≤ 1000) (hlo : lo ≤ 10)
    (h : ∀ d S', Pth lo (lo + 2) d → Bag S' b → Fr b S S' → Q d S') : Run (pathM [.ref b, .ref n, .int (lo : Int)]) S Q := by
  have hxl := hx.1
  unfold pathM pathB
  repeat (first | walk_at "dl" | walk_at "dm")
  refine take_run hb (by decide) (by decide) fun m S1 m0 m1 hB1 fr1 => ?_
  repeat (first | walk_at "dl" | walk_at "dm")
  refine run_itR1 (by omega) (by omega) ?_
  rw [size_rng]
  refine comp_rng (fun i acc S' => Bag S' b ∧ Fr b S S' ∧ acc.length = i ∧ ∀ d ∈ acc, ∃ x, d = .str x ∧ nmOk x = true) ⟨hB1, fr1, rfl, fun d hd => absurd hd (List.not_mem_nil)⟩ (fun i acc S2 hi ⟨hB, fr, hl, hc⟩ => ?_) (fun acc S2 ⟨hB, fr, hl, hc⟩ => ?_)
  · repeat (first | walk_at "dl" | walk_at "dm")
    refine ite_t rfl ?_
    repeat (first | walk_at "dl" | walk_at "dm" | refine (run_lenL (fr.get hnb hn)).mpr ?_)
    refine take_run hB (by omega) (by omega) fun j S3 j0 j1 hB3 fr3 => ?_
    refine ix_run ((fr.trans fr3).get hnb hn) j0 (by omega) fun d hd => ?_
    refine ⟨small_len (by omega), hB3, fr.trans fr3, by simp [hl], fun e he => ?_⟩
    rcases List.mem_append.mp he with he | he
    · exact hc e he
    · rw [List.mem_singleton.mp he]
      exact hx.2 d hd
  · repeat (first | walk_at "dl" | walk_at "dm")
    refine (run_tupL last_get).mpr ?_
    repeat (first | walk_at "dl" | walk_at "dm")
    exact h _ _ ⟨acc, rfl, by omega, by omega, hc⟩ (Gw.one.bag hB) (fr.trans Gw.one.fr)
/-! ### what is said -/
def Arg (d : D) : Prop := ∃ x, d = .tup [.str "arg", .str x] ∧ nmOk x = true
/-- a text of at most twenty signs -/
def tx2 (x : Str) : Bool := PyData.strOk x && decide (x.length ≤ 20)
theorem tx2_of {x : Str} (h : txOk x = true) : tx2 x = true := by
  unfold txOk at h
  unfold tx2
  rw [Bool.and_eq_true, Bool.and_eq_true] at h
  rw [Bool.and_eq_true]
  exact ⟨h.1.1, h.2⟩
theorem nmOk_len {x : Str} (h : nmOk x = true) : 1 ≤ x.length ∧ x.length ≤ 8 ∧ x.cps.toList.all lw = true := by
  unfold nmOk at h
  rw [Bool.and_eq_true, Bool.and_eq_true] at h
  exact ⟨of_decide_eq_true h.1.1, of_decide_eq_true h.1.2, h.2⟩
theorem tx2_nm {x : Str} (h : nmOk x = true) : tx2 x = true := by
  obtain ⟨h1, h2, h3⟩ := nmOk_len h
  unfold tx2 PyData.strOk
  rw [Bool.and_eq_true]
  refine ⟨?_, decide_eq_true (by omega)⟩
  rw [← Array.all_toList]
  refine List.all_eq_true.mpr fun c hc => ?_
  have := List.all_eq_true.mp h3 c hc
  unfold lw at this
  rw [Bool.and_eq_true] at this
  have := of_decide_eq_true this.2
  exact decide_eq_true (by omega)
theorem pg_tx {S : Sto} {x : Str} (h : tx2 x = true) : Pg S 0 202 (.str x) (.str x) := by
  unfold tx2 at h
  rw [Bool.and_eq_true] at h
  have h1 := h.1
  have h2 := of_decide_eq_true h.2
  refine ⟨fun n _ => by cases n <;> rfl, by simpa [PyData.canLay0] using h1, rfl, by simp [PyData.depth], ?_⟩
  have := StrLaws.reprText_len x fun c hc => by
    unfold PyData.strOk at h1
    rw [← Array.all_toList] at h1
    have := of_decide_eq_true (List.all_eq_true.mp h1 c hc)
    omega
  show (reprText x).length ≤ 202
  omega
def Said (d : D) : Prop := (∃ x, d = .str x ∧ tx2 x = true) ∨ Arg d
def saidB : Env → M Fl :=
    retM (binM ixD (lstM (consA (clM (textM) (consA (getv 0) (nilA))) (consA (tupM (consA (cst (.str "arg")) (consA (binM ixD (getv 1) (clM (takeM) (consA (getv 0) (consA (clM lenD (consA (getv 1) (nilA))) (nilA))))) (nilA)))) (nilA)))) (clM intD (consA (binM eqD (clM (takeM) (consA (getv 0) (consA (cst (.int 4)) (nilA)))) (cst (.int 0))) (nilA))))
def saidM : List D → M D := fnM 2 saidB
theorem said_run {S : Sto} {b n k : Nat} {xs : List D} {Q : D → Sto → Prop} (hb : Bag S b) (hn : S[n]? = some (.lst xs)) (hnb : n ≠ b) (hx : Nms k xs) (hk : 0 < k) (hk2 : k ≤ 1000)
    (h : ∀ d S', Said d → Bag S' b → Fr b S S' → Q d S') : Run (saidM [.ref b, .ref n]) S Q := by
  have hxl := hx.1
  unfold saidM saidB
  repeat (first | walk_at "dl" | walk_at "dm")
  refine text_run hb fun x S1 hx1 hB1 fr1 => ?_
  repeat (first | walk_at "dl" | walk_at "dm" | refine (run_lenL (fr1.get hnb hn)).mpr ?_)
  refine take_run hB1 (by omega) (by omega) fun j S2 j0 j1 hB2 fr2 => ?_
  refine ix_run ((fr1.trans fr2).get hnb hn) j0 (by omega) fun d hd => ?_
  obtain ⟨y, rfl, hy⟩ := hx.2 d hd
  repeat (first | walk_at "dl" | walk_at "dm")
  refine ⟨Nat.le_of_ble_eq_true rfl, ?_⟩
  repeat (first | walk_at "dl" | walk_at "dm")
  refine ⟨Nat.le_of_ble_eq_true rfl, ?_⟩
  repeat (first | walk_at "dl" | walk_at "dm")
  have hlt := hB2.lt
  refine take_run (Gw.one.bag hB2) (by decide) (by decide) fun q S3 q0 q1 hB3 fr3 => ?_
  repeat (first | walk_at "dl" | walk_at "dm")
  refine ix_run (fr3.get (Nat.ne_of_gt hlt) last_get) (by split <;> omega) (by show _ < (2 : Int); split <;> omega) fun d hd => ?_
  repeat (first | walk_at "dl" | walk_at "dm")
  refine h d S3 ?_ hB3 ((fr1.trans fr2).trans (Gw.one.fr.trans fr3))
  rcases List.mem_cons.mp hd with rfl | hd
  · exact .inl ⟨x, rfl, tx2_of hx1⟩
  · rw [List.mem_singleton.mp hd]
    exact .inr ⟨y, rfl, hy⟩
/-! ### steps -/
def Rd1 (d : D) : Prop := Arg d ∨ (∃ x, d = .tup [.str "text", .str x] ∧ tx2 x = true) ∨ ∃ p, d = .tup [.str "path", p] ∧ Pth 1 3 p
inductive Stp : D → Prop
  | write {p t : D} {i : Int} : Pth 1 3 p → Said t → 0 ≤ i → i < 8 → Stp (.tup [.str "write", p, t, .int i])
  | folder {p : D} {i : Int} : Pth 1 3 p → 0 ≤ i → i < 8 → Stp (.tup [.str "folder", p, .int i])
  | link {p t : D} : Pth 1 3 p → Said t → Stp (.tup [.str "link", p, t])
  | delete {p : D} : Pth 1 3 p → Stp (.tup [.str "delete", p])
  | clear {p : D} : Pth 1 3 p → Stp (.tup [.str "clear", p])
  | rights {p : D} {i : Int} : Pth 1 3 p → 0 ≤ i → i < 8 → Stp (.tup [.str "rights", p, .int i])
  | run {c : Str} {rs : List D} {p : D} : nmOk c = true → rs.length ≤ 3 → (∀ d ∈ rs, Rd1 d) → Pth 1 3 p → Stp (.tup [.str "run", .str c, .tup rs, p])
  | copy {c : Str} {p q : D} : nmOk c = true → Pth 0 3 p → Pth 0 3 q → Stp (.tup [.str "copy", .str c, p, q])
def stepB : Env → M Fl :=
    seqM (par3M 4 5 6 (consA (clM (takeM) (consA (getv 0) (consA (cst (.int 12)) (nilA)))) (consA (clM (pathM) (consA (getv 0) (consA (getv 1) (consA (cst (.int 1)) (nilA))))) (consA (clM (takeM) (consA (getv 0) (consA (cst (.int 8)) (nilA)))) (nilA)))))
    (seqM (ifS (tstM (binM eqD (getv 4) (cst (.int 0)))) (retM (tupM (consA (cst (.str "write")) (consA (getv 5) (consA (clM (saidM) (consA (getv 0) (consA (getv 1) (nilA)))) (consA (getv 6) (nilA))))))) (nxM))
    (seqM (ifS (tstM (binM eqD (getv 4) (cst (.int 1)))) (retM (tupM (consA (cst (.str "folder")) (consA (getv 5) (consA (getv 6) (nilA)))))) (nxM))
    (seqM (ifS (tstM (binM eqD (getv 4) (cst (.int 2)))) (retM (tupM (consA (cst (.str "link")) (consA (getv 5) (consA (clM (saidM) (consA (getv 0) (consA (getv 1) (nilA)))) (nilA)))))) (nxM))
    (seqM (ifS (tstM (binM ltD (getv 4) (cst (.int 5)))) (retM (tupM (consA (binM ixD (lstM (consA (cst (.str "delete")) (consA (cst (.str "clear")) (nilA)))) (binM subD (getv 4) (cst (.int 3)))) (consA (getv 5) (nilA))))) (nxM))
    (seqM (ifS (tstM (binM eqD (getv 4) (cst (.int 5)))) (retM (tupM (consA (cst (.str "rights")) (consA (getv 5) (consA (getv 6) (nilA)))))) (nxM))
    (seqM (ifS (andT (tstM (binM ltD (getv 4) (cst (.int 8)))) (tstM (binM gtD (getv 3) (cst (.int 0))))) (seqM (asgM (lcM [9] (itRng1 (consA (clM (takeM) (consA (getv 0) (consA (cst (.int 3)) (nilA)))) (nilA))) (gNm 9) (yesM) (tupM (consA (cst (.str "path")) (consA (clM (pathM) (consA (getv 0) (consA (getv 1) (consA (cst (.int 1)) (nilA))))) (nilA))))) (gNm 7))
    (seqM (asgM (binM addD (getv 7) (binM mulD (lstM (consA (binM ixD (lstM (consA (tupM (consA (cst (.str "arg")) (consA (binM ixD (getv 1) (cst (.int 0))) (nilA)))) (consA (tupM (consA (cst (.str "text")) (consA (clM (textM) (consA (getv 0) (nilA))) (nilA)))) (nilA)))) (clM (takeM) (consA (getv 0) (consA (cst (.int 2)) (nilA))))) (nilA))) (clM (takeM) (consA (getv 0) (consA (cst (.int 2)) (nilA)))))) (gNm 7))
    (retM (tupM (consA (cst (.str "run")) (consA (binM ixD (lstM (consA (cst (.str "zip")) (consA (cst (.str "cc")) (nilA)))) (clM (takeM) (consA (getv 0) (consA (cst (.int 2)) (nilA))))) (consA (clM tupleD (consA (stM (getv 7) (binM ixD (lstM (consA (cst (.int 1)) (consA (unM negD (cst (.int 1))) (nilA)))) (clM (takeM) (consA (getv 0) (consA (cst (.int 2)) (nilA)))))) (nilA))) (consA (getv 5) (nilA))))))))) (nxM))
    (seqM (asgM (clM (pathM) (consA (getv 0) (consA (getv 1) (consA (clM intD (consA (binM gtD (clM (takeM) (consA (getv 0) (consA (cst (.int 6)) (nilA)))) (cst (.int 0))) (nilA))) (nilA))))) (gNm 8))
    (retM (tupM (consA (cst (.str "copy")) (consA (binM ixD (getv 2) (clM (takeM) (consA (getv 0) (consA (clM lenD (consA (getv 2) (nilA))) (nilA))))) (consA (getv 8) (consA (slM (getv 5) (noP) (someP (binM mulD (clM lenD (consA (getv 5) (nilA))) (clM intD (consA (binM gtD (clM (takeM) (consA (getv 0) (consA (cst (.int 8)) (nilA)))) (cst (.int 0))) (nilA)))))) (nilA))))))))))))))
def stepM : List D → M D := fnM 10 stepB
theorem Pth.mono {lo hi lo' hi' : Nat} {d : D} (h : Pth lo hi d) (h1 : lo' ≤ lo) (h2 : hi ≤ hi') : Pth lo' hi' d := by
  obtain ⟨xs, e, a, c, k⟩ := h
  exact ⟨xs, e, by omega, by omega, k⟩
/-- what a step is -/
def isRun : D → Bool
  | .tup (.str w :: _) => w == "run"
  | _ => false
def isCopy : D → Bool
  | .tup (.str w :: _) => w == "copy"
  | _ => false
def srcD : D → D
  | .tup (_ :: s :: _) => s
  | _ => .non
theorem notC {w : Str} {l : List D} {P : Prop} (h : (w == "copy") = false) : isCopy (.tup (.str w :: l)) = true → P := fun z => by
  have e : (w == "copy") = true := z
  rw [h] at e
  cases e
theorem notR {w : Str} {l : List D} (h : (w == "run") = false) : isRun (.tup (.str w :: l)) = false := h
theorem step_runX {S : Sto} {b n n2 k k2 : Nat} {xs xs2 : List D} {w : Int} {Q : D → Sto → Prop} (hb : Bag S b) (hn : S[n]? = some (.lst xs)) (hnb : n ≠ b) (hx : Nms k xs) (hk : 0 < k) (hk2 : k ≤ 1000)
    (hn2 : S[n2]? = some (.lst xs2)) (hnb2 : n2 ≠ b) (hx2 : Nms k2 xs2) (hk20 : 0 < k2) (hk22 : k2 ≤ 1000)
    (h : ∀ d S', Stp d → (isCopy d = true → srcD d ∈ xs2) → (w ≤ 0 → isRun d = false) → Bag S' b → Fr b S S' → Q d S') : Run (stepM [.ref b, .ref n, .ref n2, .int w]) S Q := by
  have hxl := hx.1
  have hxl2 := hx2.1
  have hbl := hb.lt
  unfold stepM stepB
  refine run_fn.mpr (run_seq.mpr (run_par3.mpr ?_))
  repeat (first | walk_at "dl" | walk_at "dm")
  refine take_run hb (by decide) (by decide) fun way S1 w0 w1 hB1 fr1 => ?_
  repeat (first | walk_at "dl" | walk_at "dm")
  refine path_run (lo := 1) hB1 (fr1.get hnb hn) hnb hx hk hk2 (by decide) fun p S2 hp hB2 fr2 => ?_
  repeat (first | walk_at "dl" | walk_at "dm")
  refine take_run hB2 (by decide) (by decide) fun i S3 i0 i1 hB3 fr3 => ?_
  have fr := (fr1.trans fr2).trans fr3
  have hN := fr.get hnb hn
  have hN2 := fr.get hnb2 hn2
  repeat (first | walk_at "dl" | walk_at "dm")
  refine ite_eq (fun hz0 => ?_) (fun hz0 => ?_)
  · repeat (first | walk_at "dl" | walk_at "dm")
    refine said_run hB3 hN hnb hx hk hk2 fun t S4 ht hB4 fr4 => ?_
    repeat (first | walk_at "dl" | walk_at "dm")
    refine ⟨Nat.le_of_ble_eq_true rfl, ?_⟩
    repeat (first | walk_at "dl" | walk_at "dm")
    exact h _ _ (.write hp ht i0 i1) (notC (by decide +kernel)) (fun _ => notR (by decide +kernel)) hB4 (fr.trans fr4)
  repeat (first | walk_at "dl" | walk_at "dm")
  refine ite_eq (fun hz1 => ?_) (fun hz1 => ?_)
  · repeat (first | walk_at "dl" | walk_at "dm")
    refine ⟨Nat.le_of_ble_eq_true rfl, ?_⟩
    repeat (first | walk_at "dl" | walk_at "dm")
    exact h _ _ (.folder hp i0 i1) (notC (by decide +kernel)) (fun _ => notR (by decide +kernel)) hB3 fr
  repeat (first | walk_at "dl" | walk_at "dm")
  refine ite_eq (fun hz2 => ?_) (fun hz2 => ?_)
  · repeat (first | walk_at "dl" | walk_at "dm")
    refine said_run hB3 hN hnb hx hk hk2 fun t S4 ht hB4 fr4 => ?_
    repeat (first | walk_at "dl" | walk_at "dm")
    refine ⟨Nat.le_of_ble_eq_true rfl, ?_⟩
    repeat (first | walk_at "dl" | walk_at "dm")
    exact h _ _ (.link hp ht) (notC (by decide +kernel)) (fun _ => notR (by decide +kernel)) hB4 (fr.trans fr4)
  repeat (first | walk_at "dl" | walk_at "dm")
  refine ite_b (fun hz3 => ?_) (fun hz3 => ?_)
  · repeat (first | walk_at "dl" | walk_at "dm")
    refine ⟨Nat.le_of_ble_eq_true rfl, ?_⟩
    repeat (first | walk_at "dl" | walk_at "dm")
    refine ix_run last_get (by omega) (by show _ < (2 : Int); omega) fun d hd => ?_
    repeat (first | walk_at "dl" | walk_at "dm")
    refine ⟨Nat.le_of_ble_eq_true rfl, ?_⟩
    repeat (first | walk_at "dl" | walk_at "dm")
    rcases List.mem_cons.mp hd with rfl | hd
    · exact h _ _ (.delete hp) (notC (by decide +kernel)) (fun _ => notR (by decide +kernel)) (Gw.one.bag hB3) (fr.trans Gw.one.fr)
    · rw [List.mem_singleton.mp hd]
      exact h _ _ (.clear hp) (notC (by decide +kernel)) (fun _ => notR (by decide +kernel)) (Gw.one.bag hB3) (fr.trans Gw.one.fr)
  repeat (first | walk_at "dl" | walk_at "dm")
  refine ite_eq (fun hz4 => ?_) (fun hz4 => ?_)
  · repeat (first | walk_at "dl" | walk_at "dm")
    refine ⟨Nat.le_of_ble_eq_true rfl, ?_⟩
    repeat (first | walk_at "dl" | walk_at "dm")
    exact h _ _ (.rights hp i0 i1) (notC (by decide +kernel)) (fun _ => notR (by decide +kernel)) hB3 fr
  repeat (first | walk_at "dl" | walk_at "dm")
  have rest : ∀ (a7 a9 : Option D), Run (seqM (asgM (clM (pathM) (consA (getv 0) (consA (getv 1) (consA (clM intD (consA (binM gtD (clM (takeM) (consA (getv 0) (consA (cst (.int 6)) (nilA)))) (cst (.int 0))) (nilA))) (nilA))))) (gNm 8))
    (retM (tupM (consA (cst (.str "copy")) (consA (binM ixD (getv 2) (clM (takeM) (consA (getv 0) (consA (clM lenD (consA (getv 2) (nilA))) (nilA))))) (consA (getv 8) (consA (slM (getv 5) (noP) (someP (binM mulD (clM lenD (consA (getv 5) (nilA))) (clM intD (consA (binM gtD (clM (takeM) (consA (getv 0) (consA (cst (.int 8)) (nilA)))) (cst (.int 0))) (nilA)))))) (nilA))))))) [some (.ref b), some (.ref n), some (.ref n2), some (.int w), some (.int way), some p, some (.int i), a7, none, a9]) S3 (onRet Q) := fun a7 a9 => by
    obtain ⟨ps, rfl, hp1, hp2, hp3⟩ := hp
    repeat (first | walk_at "dl" | walk_at "dm")
    refine take_run hB3 (by decide) (by decide) fun m S4 m0 m1 hB4 fr4 => ?_
    repeat (first | walk_at "dl" | walk_at "dm")
    have back : ∀ (lo : Nat) (e : (if decide (0 < m) = true then (1 : Int) else 0) = (lo : Int)), lo ≤ 1 → True := fun _ _ _ => trivial
    obtain ⟨lo, elo, hlo⟩ : ∃ lo : Nat, (if decide (0 < m) = true then (1 : Int) else 0) = (lo : Int) ∧ lo ≤ 1 := by
      by_cases hm : 0 < m
      · exact ⟨1, by rw [if_pos (decide_eq_true hm)]; rfl, Nat.le_refl _⟩
      · exact ⟨0, by rw [if_neg (by simp [hm])]; rfl, by decide⟩
    rw [elo]
    refine path_run (lo := lo) hB4 (fr4.get hnb hN) hnb hx hk hk2 (by omega) fun q S5 hq hB5 fr5 => ?_
    have hN5 := (fr4.trans fr5).get hnb2 hN2
    repeat (first | walk_at "dl" | walk_at "dm" | refine (run_lenL hN5).mpr ?_)
    refine take_run hB5 (by omega) (by omega) fun j S6 j0 j1 hB6 fr6 => ?_
    refine ix_run (fr6.get hnb2 hN5) j0 (by omega) fun d hdm => ?_
    obtain ⟨c, rfl, hc⟩ := hx2.2 d hdm
    repeat (first | walk_at "dl" | walk_at "dm")
    refine take_run hB6 (by decide) (by decide) fun z S7 z0 z1 hB7 fr7 => ?_
    repeat (first | walk_at "dl" | walk_at "dm")
    refine run_mulI.mpr ⟨by rw [Bool.or_eq_true]; right; split <;> decide, ?_⟩
    repeat (first | walk_at "dl" | walk_at "dm")
    have h0 : (0 : Int) ≤ (ps.length : Int) * (if decide (0 < z) = true then 1 else 0) := by split <;> omega
    refine run_slT.mpr ?_
    rw [cut_to h0]
    repeat (first | walk_at "dl" | walk_at "dm")
    refine ⟨Nat.le_of_ble_eq_true rfl, ?_⟩
    repeat (first | walk_at "dl" | walk_at "dm")
    exact h _ _ (.copy hc (hq.mono (by omega) (by omega)) ⟨_, rfl, by omega, by rw [List.length_take]; omega, fun e he => hp3 e (List.mem_of_mem_take he)⟩) (fun _ => hdm) (fun _ => notR (by decide +kernel)) hB7 (fr.trans (fr4.trans (fr5.trans (fr6.trans fr7))))
  refine ite_b (fun hz5 => ?_) (fun hz5 => ?_)
  · repeat (first | walk_at "dl" | walk_at "dm")
    refine ite_b (fun hz6 => ?_) (fun hz6 => ?_)
    · repeat (first | walk_at "dl" | walk_at "dm")
      refine take_run hB3 (by decide) (by decide) fun m S4 m0 m1 hB4 fr4 => ?_
      repeat (first | walk_at "dl" | walk_at "dm")
      refine run_itR1 m0 (by omega) ?_
      rw [size_rng]
      refine comp_rng (fun i acc S' => Bag S' b ∧ Fr b S3 S' ∧ acc.length = i ∧ ∀ d ∈ acc, Rd1 d) ⟨hB4, fr4, rfl, fun d hd => absurd hd (List.not_mem_nil)⟩ (fun i acc S5 hi ⟨hB, fr5, hl, hc⟩ => ?_) (fun acc S5 ⟨hB, fr5, hl, hc⟩ => ?_)
      · repeat (first | walk_at "dl" | walk_at "dm")
        refine ite_t rfl ?_
        repeat (first | walk_at "dl" | walk_at "dm")
        refine path_run (lo := 1) hB (fr5.get hnb hN) hnb hx hk hk2 (by decide) fun q S6 hq hB6 fr6 => ?_
        repeat (first | walk_at "dl" | walk_at "dm")
        refine ⟨Nat.le_of_ble_eq_true rfl, ?_⟩
        refine ⟨small_len (by omega), hB6, fr5.trans fr6, by simp [hl], fun e he => ?_⟩
        rcases List.mem_append.mp he with he | he
        · exact hc e he
        · rw [List.mem_singleton.mp he]
          exact .inr (.inr ⟨q, rfl, hq⟩)
      · have hbl5 := hB.lt
        have hN5 := fr5.get hnb hN
        repeat (first | walk_at "dl" | walk_at "dm")
        obtain ⟨y, hy, hyo⟩ : ∃ y, xs[0]? = some (.str y) ∧ nmOk y = true := by
          have h0 : 0 < xs.length := by omega
          obtain ⟨y, e, hy⟩ := hx.2 _ (List.getElem_mem h0)
          exact ⟨y, by rw [List.getElem?_eq_getElem h0, e], hy⟩
        refine (run_ixL (Gw.one.get hN5) (atI_nat hy)).mpr ?_
        repeat (first | walk_at "dl" | walk_at "dm")
        refine ⟨Nat.le_of_ble_eq_true rfl, ?_⟩
        repeat (first | walk_at "dl" | walk_at "dm")
        refine text_run (Gw.one.bag hB) fun x S6 hx6 hB6 fr6 => ?_
        repeat (first | walk_at "dl" | walk_at "dm")
        refine ⟨Nat.le_of_ble_eq_true rfl, ?_⟩
        repeat (first | walk_at "dl" | walk_at "dm")
        refine ⟨Nat.le_of_ble_eq_true rfl, ?_⟩
        repeat (first | walk_at "dl" | walk_at "dm")
        have hlt6 := hB6.lt
        have hacc6 := fr6.get (Nat.ne_of_gt hbl5) (last_get (S := S5) (o := .lst acc))
        refine take_run (Gw.one.bag hB6) (by decide) (by decide) fun j S7 j0 j1 hB7 fr7 => ?_
        have hacc7 := fr7.get (Nat.ne_of_gt hbl5) (Gw.one.get hacc6)
        refine ix_run (fr7.get (Nat.ne_of_gt hlt6) last_get) j0 j1 fun d hd => ?_
        have hrd : Rd1 d := by
          rcases List.mem_cons.mp hd with rfl | hd
          · exact .inl ⟨y, rfl, hyo⟩
          · rw [List.mem_singleton.mp hd]
            exact .inr (.inl ⟨x, rfl, tx2_of hx6⟩)
        repeat (first | walk_at "dl" | walk_at "dm")
        refine ⟨Nat.le_of_ble_eq_true rfl, ?_⟩
        repeat (first | walk_at "dl" | walk_at "dm")
        have hlt7 := hB7.lt
        refine take_run (Gw.one.bag hB7) (by decide) (by decide) fun l S8 l0 l1 hB8 fr8 => ?_
        have hacc8 := fr8.get (Nat.ne_of_gt hbl5) (Gw.one.get hacc7)
        have hone : S8[S7.length]? = some (.lst [d]) := fr8.get (Nat.ne_of_gt hlt7) last_get
        have hlen1 : [d].length * l.toNat ≤ sizeLine := by
          have : [d].length = 1 := rfl
          rw [this]
          exact Nat.le_of_lt (small_len (by omega))
        refine (run_mulL hone l0 (by omega) hlen1).mpr ?_
        have hrl : (List.replicate l.toNat [d]).flatten.length ≤ 1 ∧ ∀ e ∈ (List.replicate l.toNat [d]).flatten, Rd1 e := by
          have : l.toNat = 0 ∨ l.toNat = 1 := by omega
          rcases this with e | e
          · rw [e]; exact ⟨Nat.zero_le _, fun e he => absurd he (by simp)⟩
          · rw [e]; exact ⟨by simp, fun e he => by
              have : e = d := by simpa using he
              rw [this]; exact hrd⟩
        have hml : m.toNat ≤ 2 := by omega
        refine (run_addL (Gw.one.get hacc8) last_get (Nat.le_of_lt (small_len (by omega)))).mpr ?_
        repeat (first | walk_at "dl" | walk_at "dm")
        have hB9 := (Gw.one (o := O.lst (acc ++ (List.replicate l.toNat [d]).flatten))).bag ((Gw.one (o := O.lst (List.replicate l.toNat [d]).flatten)).bag hB8)
        have hreads : ((S8 ++ [O.lst (List.replicate l.toNat [d]).flatten]) ++ [O.lst (acc ++ (List.replicate l.toNat [d]).flatten)])[(S8 ++ [O.lst (List.replicate l.toNat [d]).flatten]).length]? = some (.lst (acc ++ (List.replicate l.toNat [d]).flatten)) := last_get
        have hrn : b < (S8 ++ [O.lst (List.replicate l.toNat [d]).flatten]).length := by
          have := hB8.lt
          simp
          omega
        have frR : Fr b S3 ((S8 ++ [O.lst (List.replicate l.toNat [d]).flatten]) ++ [O.lst (acc ++ (List.replicate l.toNat [d]).flatten)]) :=
          fr5.trans ((Gw.one.fr.trans fr6).trans ((Gw.one.fr.trans fr7).trans ((Gw.one.fr.trans fr8).trans (Gw.one.trans Gw.one).fr)))
        generalize (S8 ++ [O.lst (List.replicate l.toNat [d]).flatten]) ++ [O.lst (acc ++ (List.replicate l.toNat [d]).flatten)] = S9 at hB9 hreads frR
        generalize (S8 ++ [O.lst (List.replicate l.toNat [d]).flatten]).length = nr at hreads hrn
        have hrall : ∀ e ∈ acc ++ (List.replicate l.toNat [d]).flatten, Rd1 e := fun e he => by
          rcases List.mem_append.mp he with he | he
          · exact hc e he
          · exact hrl.2 e he
        have hrlen : (acc ++ (List.replicate l.toNat [d]).flatten).length ≤ 3 := by rw [List.length_append]; omega
        generalize acc ++ (List.replicate l.toNat [d]).flatten = reads at hreads hrall hrlen
        repeat (first | walk_at "dl" | walk_at "dm")
        refine ⟨Nat.le_of_ble_eq_true rfl, ?_⟩
        repeat (first | walk_at "dl" | walk_at "dm")
        have hlt9 := hB9.lt
        refine take_run (Gw.one.bag hB9) (by decide) (by decide) fun u S10 u0 u1 hB10 fr10 => ?_
        refine ix_run (fr10.get (Nat.ne_of_gt hlt9) last_get) u0 u1 fun c hcm => ?_
        have hcc : ∃ x, c = .str x ∧ nmOk x = true := by
          rcases List.mem_cons.mp hcm with rfl | hcm
          · exact ⟨_, rfl, by decide +kernel⟩
          · rw [List.mem_singleton.mp hcm]
            exact ⟨_, rfl, by decide +kernel⟩
        obtain ⟨c, rfl, hcc⟩ := hcc
        have hreads10 := fr10.get (Nat.ne_of_gt hrn) (Gw.one.get hreads)
        have hlt10 := hB10.lt
        repeat (first | walk_at "dl" | walk_at "dm")
        refine run_st.mpr ?_
        repeat (first | walk_at "dl" | walk_at "dm" | refine run_negI.mpr ?_)
        refine ⟨Nat.le_of_ble_eq_true rfl, ?_⟩
        repeat (first | walk_at "dl" | walk_at "dm")
        refine take_run (Gw.one.bag hB10) (by decide) (by decide) fun v S11 v0 v1 hB11 fr11 => ?_
        have hreads11 := fr11.get (Nat.ne_of_gt hrn) (Gw.one.get hreads10)
        refine ix_run (fr11.get (Nat.ne_of_gt hlt10) last_get) v0 v1 fun st hst => ?_
        have frZ := fr.trans (frR.trans ((Gw.one.fr.trans fr10).trans (Gw.one.fr.trans fr11)))
        rcases List.mem_cons.mp hst with rfl | hst
        · refine (run_step1 hreads11).mpr ?_
          repeat (first | walk_at "dl" | walk_at "dm")
          refine (run_tupL last_get).mpr ?_
          repeat (first | walk_at "dl" | walk_at "dm")
          refine ⟨Nat.le_of_ble_eq_true rfl, ?_⟩
          repeat (first | walk_at "dl" | walk_at "dm")
          exact h _ _ (.run hcc hrlen hrall hp) (notC (by decide +kernel)) (fun z => absurd z (by omega)) (Gw.one.bag hB11) (frZ.trans Gw.one.fr)
        · rw [List.mem_singleton.mp hst]
          refine (run_stepB hreads11).mpr ?_
          repeat (first | walk_at "dl" | walk_at "dm")
          refine (run_tupL last_get).mpr ?_
          repeat (first | walk_at "dl" | walk_at "dm")
          refine ⟨Nat.le_of_ble_eq_true rfl, ?_⟩
          repeat (first | walk_at "dl" | walk_at "dm")
          exact h _ _ (.run hcc (by rw [List.length_reverse]; exact hrlen) (fun e he => hrall e (List.mem_reverse.mp he)) hp) (notC (by decide +kernel)) (fun z => absurd z (by omega)) (Gw.one.bag hB11) (frZ.trans Gw.one.fr)
    · refine run_nx.mpr (on_nx.mpr ?_)
      exact rest _ _
  · refine ite_f (by decide) ?_
    refine run_nx.mpr (on_nx.mpr ?_)
    exact rest _ _
theorem step_run {S : Sto} {b n n2 k k2 : Nat} {xs xs2 : List D} {w : Int} {Q : D → Sto → Prop} (hb : Bag S b) (hn : S[n]? = some (.lst xs)) (hnb : n ≠ b) (hx : Nms k xs) (hk : 0 < k) (hk2 : k ≤ 1000)
    (hn2 : S[n2]? = some (.lst xs2)) (hnb2 : n2 ≠ b) (hx2 : Nms k2 xs2) (hk20 : 0 < k2) (hk22 : k2 ≤ 1000)
    (h : ∀ d S', Stp d → Bag S' b → Fr b S S' → Q d S') : Run (stepM [.ref b, .ref n, .ref n2, .int w]) S Q :=
  step_runX hb hn hnb hx hk hk2 hn2 hnb2 hx2 hk20 hk22 fun d S' a _ _ => h d S' a

open PySem PySem.Spec PyProof.Rows L2
/-! ### branches -/
theorem ite_tr {a b : Prop} {c : Bool} (h : c = true) (q : a) : if c = true then a else b := by rw [if_pos h]; exact q
theorem ite_fr {a b : Prop} {c : Bool} (h : c = false) (q : b) : if c = true then a else b := by rw [if_neg (by rw [h]; exact Bool.false_ne_true)]; exact q
theorem ite_bo {a b : Prop} {c : Bool} (h1 : c = true → a) (h2 : c = false → b) : if c = true then a else b := by
  cases c with
  | true => exact ite_tr rfl (h1 rfl)
  | false => exact ite_fr rfl (h2 rfl)
theorem run_neI {QE : Nat → List (Str × D) → Sto → Prop} {S : Sto} {i j : Int} {Q : D → Sto → Prop} : RunX (neD (.int i) (.int j)) S QE Q ↔ Q (.bl (!(i == j))) S := by unfold neD; exact run_ofB (by rw [eqB_int]; rfl)
theorem run_neS {QE : Nat → List (Str × D) → Sto → Prop} {S : Sto} {x y : Str} {Q : D → Sto → Prop} : RunX (neD (.str x) (.str y)) S QE Q ↔ Q (.bl (!(x == y))) S := by unfold neD; exact run_ofB rfl
/-- over the signs of a text -/
theorem comp_str {g : D → DL.Env → M DL.Env} {tst : DL.Env → M Bool} {el : DL.Env → M D} {r0 : DL.Env} {x : Str} {S : Sto} {QL : List D → Sto → Prop} (I : Nat → List D → Sto → Prop) (h0 : I 0 [] S)
    (hs : ∀ i acc S c, x.cps.toList[i]? = some c → I i acc S → Run (g (.str ⟨#[c]⟩) r0) S fun r1 S1 => Run (tst r1) S1 fun c S2 => if c = true then Run (el r1) S2 fun y S3 => acc.length < sizeLine ∧ I (i + 1) (acc ++ [y]) S3 else I (i + 1) acc S2) (hd : ∀ acc S, I x.cps.toList.length acc S → QL acc S) :
    Run (compN g tst el (.str x) r0 (ItD.size (.str x) S) 0 []) S QL := by
  have e : ItD.size (.str x) S = x.cps.toList.length := by simp [ItD.size]
  rw [e]
  refine compN_rule (item := fun i => .str ⟨#[x.cps.toList.getD i 0]⟩) I (fun i acc S h => ?_) (fun i acc S hi h => hs i acc S _ ?_ h) hd x.cps.toList.length 0 [] S (by omega) h0
  · unfold ItD.at
    simp only []
    by_cases hi : i < x.cps.toList.length
    · rw [if_pos hi, ← Array.getElem?_toList, List.getElem?_eq_getElem hi, List.getD_eq_getElem?_getD, List.getElem?_eq_getElem hi]
      rfl
    · rw [if_neg hi, ← Array.getElem?_toList, List.getElem?_eq_none (by omega)]
      rfl
  · rw [List.getElem?_eq_getElem hi, List.getD_eq_getElem?_getD, List.getElem?_eq_getElem hi]
    rfl
/-- beside nothing -/
theorem toPys_len {f : D → Option PyData} : ∀ {xs : List D} {ps : List PyData}, toPys f xs = some ps → ps.length = xs.length
  | [], _, h => by unfold toPys at h; cases h; rfl
  | x :: xs, _, h => by
    obtain ⟨p, r, rfl, _, h2⟩ := toPys_cons h
    simp [toPys_len h2]
theorem eqvAll_emp (ps : List PyData) : PyData.eqvAll ps [] = ps.isEmpty := by cases ps <;> simp [PyData.eqvAll]
theorem eqP_emp {S : Sto} {a b : D} {xs : List D} {c : Bool} (h : eqP S a b = some c)
    (ha : ∀ p, toPy S deep a = some p → ∃ ps, ps.length = xs.length ∧ ((p = .list ps ∧ ∀ q, toPy S deep b = some q → q = .list []) ∨ (p = .tuple ps ∧ ∀ q, toPy S deep b = some q → q = .tuple []))) : c = xs.isEmpty := by
  obtain ⟨p, q, h1, h2, _, _, rfl⟩ := eqB_of h
  obtain ⟨ps, hl, ⟨rfl, k⟩ | ⟨rfl, k⟩⟩ := ha p h1
  · rw [k q h2]
    simp only [PyData.eqv, eqvAll_emp]
    cases ps <;> cases xs <;> simp_all
  · rw [k q h2]
    simp only [PyData.eqv, eqvAll_emp]
    cases ps <;> cases xs <;> simp_all
theorem eqB_empT {S : Sto} {xs : List D} : eqB S (.tup xs) (.tup []) = some xs.isEmpty := by
  unfold eqB
  simp only [twoStr]
  cases e : eqP S (.tup xs) (.tup []) with
  | none => rfl
  | some c =>
    refine congrArg some (eqP_emp e fun p hp => ?_)
    unfold deep toPy at hp
    obtain ⟨ps, h1, rfl⟩ := Option.map_eq_some_iff.mp hp
    exact ⟨ps, toPys_len h1, .inr ⟨rfl, fun q hq => by unfold deep toPy at hq; simpa [toPys] using hq.symm⟩⟩
theorem eqB_empL {S : Sto} {n m : Nat} {xs : List D} (hn : S[n]? = some (.lst xs)) (hm : S[m]? = some (.lst [])) : eqB S (.ref n) (.ref m) = some xs.isEmpty := by
  unfold eqB
  simp only [twoStr]
  cases e : eqP S (.ref n) (.ref m) with
  | none =>
    have : dictSame S (.ref n) (.ref m) = false := by unfold dictSame; simp only [hn]
    simp only [this]
    unfold empB
    simp only [hn, hm]
    rfl
  | some c =>
    refine congrArg some (eqP_emp e fun p hp => ?_)
    unfold deep toPy at hp
    simp only [hn] at hp
    obtain ⟨ps, h1, rfl⟩ := Option.map_eq_some_iff.mp hp
    exact ⟨ps, toPys_len h1, .inl ⟨rfl, fun q hq => by unfold deep toPy at hq; simp only [hm] at hq; simpa [toPys] using hq.symm⟩⟩
theorem run_eqET {QE : Nat → List (Str × D) → Sto → Prop} {S : Sto} {xs : List D} {Q : D → Sto → Prop} : RunX (eqD (.tup xs) (.tup [])) S QE Q ↔ Q (.bl xs.isEmpty) S := by unfold eqD; exact run_ofB eqB_empT
theorem run_neET {QE : Nat → List (Str × D) → Sto → Prop} {S : Sto} {xs : List D} {Q : D → Sto → Prop} : RunX (neD (.tup xs) (.tup [])) S QE Q ↔ Q (.bl (!xs.isEmpty)) S := by unfold neD; exact run_ofB (by rw [eqB_empT]; rfl)
theorem run_eqEL {QE : Nat → List (Str × D) → Sto → Prop} {S : Sto} {n m : Nat} {xs : List D} {Q : D → Sto → Prop} (hn : S[n]? = some (.lst xs)) (hm : S[m]? = some (.lst [])) : RunX (eqD (.ref n) (.ref m)) S QE Q ↔ Q (.bl xs.isEmpty) S := by unfold eqD; exact run_ofB (eqB_empL hn hm)

/-! ### data that may lie in the store -/
def flatPy : D → Option PyData
  | .non => some .none
  | .bl b => some (.bool b)
  | .int i => some (.int i)
  | .str x => some (.str x)
  | _ => none
theorem flatPy_py {S : Sto} {n : Nat} {d : D} {p : PyData} (h : flatPy d = some p) : toPy S n d = some p := by
  cases d <;> first | (cases (show none = some p from h); done) | (cases n <;> exact h)
theorem flatPyK {S : Sto} {n : Nat} : ∀ {kvs : List (Key × D)} {ps : List (PyData × PyData)}, toPyK flatPy kvs = some ps → toPyK (toPy S n) kvs = some ps
  | [], _, h => h
  | (k, x) :: xs, ps, h => by
    unfold toPyK at h
    split at h
    · rename_i p r h1 h2
      cases h
      unfold toPyK
      rw [flatPy_py h1, flatPyK h2]
    · cases h
/-- what stood stands, but where A says -/
structure FrA (A : Nat → Prop) (S S' : Sto) : Prop where
  len : S.length ≤ S'.length
  at_ : ∀ i, i < S.length → ¬ A i → S'[i]? = S[i]?
theorem FrA.get {A : Nat → Prop} {S S' : Sto} (a : FrA A S S') {i : Nat} {o : O} (n : ¬ A i) (h : S[i]? = some o) : S'[i]? = some o := by
  rw [a.at_ i (List.getElem?_eq_some_iff.mp h).1 n]; exact h
theorem Fr.fa {A : Nat → Prop} {b : Nat} {S S' : Sto} (h : A b) (f : Fr b S S') : FrA A S S' := ⟨f.len, fun i hi n => f.at_ i hi (fun e => n (e ▸ h))⟩
theorem Gw.fa {A : Nat → Prop} {S S' : Sto} (a : Gw S S') : FrA A S S' := by
  obtain ⟨t, rfl⟩ := a
  exact ⟨by simp, fun i h _ => List.getElem?_append_left h⟩
mutual
inductive Gd (b0 : Nat → Prop) (S : Sto) : Nat → Nat → D → PyData → Prop
  | non {h b : Nat} : 4 ≤ b → Gd b0 S h b .non .none
  | bl {h b : Nat} {c : Bool} : 5 ≤ b → Gd b0 S h b (.bl c) (.bool c)
  | int {h b : Nat} {i : Int} : (PyData.int i).showable = true → (PyData.int i).shown.length ≤ b → Gd b0 S h b (.int i) (.int i)
  | str {h b : Nat} {x : Str} : PyData.strOk x = true → 10 * x.length + 2 ≤ b → Gd b0 S h b (.str x) (.str x)
  | tup {h b B : Nat} {xs : List D} {ps : List PyData} : GdA b0 S h B xs ps → B + 3 ≤ b → Gd b0 S (h + 1) b (.tup xs) (.tuple ps)
  | lst {h b B n : Nat} {xs : List D} {ps : List PyData} : ¬ b0 n → S[n]? = some (.lst xs) → GdA b0 S h B xs ps → B + 3 ≤ b → Gd b0 S (h + 1) b (.ref n) (.list ps)
  | dic {h b n : Nat} {kvs : List (Key × D)} {ps : List (PyData × PyData)} : ¬ b0 n → S[n]? = some (.dK kvs) → toPyK flatPy kvs = some ps → (PyData.dict ps).showable = true → (PyData.dict ps).depth ≤ h + 1 → (PyData.dict ps).shown.length ≤ b → Gd b0 S (h + 1) b (.ref n) (.dict ps)
inductive GdA (b0 : Nat → Prop) (S : Sto) : Nat → Nat → List D → List PyData → Prop
  | nil {h B : Nat} : GdA b0 S h B [] []
  | cons {h b B B' : Nat} {d : D} {p : PyData} {ds : List D} {ps : List PyData} : Gd b0 S h b d p → GdA b0 S h B ds ps → b + 2 + B ≤ B' → GdA b0 S h B' (d :: ds) (p :: ps)
end
section
variable {b0 : Nat → Prop} {S S' : Sto}
mutual
theorem Gd.mono : ∀ {p : PyData} {h h' b b' : Nat} {d : D}, Gd b0 S h b d p → h ≤ h' → b ≤ b' → Gd b0 S h' b' d p
  | .none, _, _, _, _, _, .non k, _, hb => .non (Nat.le_trans k hb)
  | .bool _, _, _, _, _, _, .bl k, _, hb => .bl (Nat.le_trans k hb)
  | .int _, _, _, _, _, _, .int k1 k2, _, hb => .int k1 (Nat.le_trans k2 hb)
  | .str _, _, _, _, _, _, .str k1 k2, _, hb => .str k1 (Nat.le_trans k2 hb)
  | .tuple ps, _, 0, _, _, _, .tup k1 k2, hh, hb => absurd hh (Nat.not_succ_le_zero _)
  | .list ps, _, 0, _, _, _, .lst k1 k2 k3 k4, hh, hb => absurd hh (Nat.not_succ_le_zero _)
  | .dict ps, _, 0, _, _, _, .dic k1 k2 k3 k4 k5 k6, hh, hb => absurd hh (Nat.not_succ_le_zero _)
  | .tuple ps, _, h' + 1, _, _, _, .tup k1 k2, hh, hb => .tup (GdA.mono k1 (Nat.le_of_succ_le_succ hh) (Nat.le_refl _)) (Nat.le_trans k2 hb)
  | .list ps, _, h' + 1, _, _, _, .lst k1 k2 k3 k4, hh, hb => .lst k1 k2 (GdA.mono k3 (Nat.le_of_succ_le_succ hh) (Nat.le_refl _)) (Nat.le_trans k4 hb)
  | .dict ps, _, h' + 1, _, _, _, .dic k1 k2 k3 k4 k5 k6, hh, hb => .dic k1 k2 k3 k4 (Nat.le_trans k5 hh) (Nat.le_trans k6 hb)
theorem GdA.mono : ∀ {ps : List PyData} {h h' B B' : Nat} {ds : List D}, GdA b0 S h B ds ps → h ≤ h' → B ≤ B' → GdA b0 S h' B' ds ps
  | [], _, _, _, _, _, .nil, _, _ => .nil
  | p :: ps, _, _, _, _, _, .cons k1 k2 k3, hh, hb => .cons (Gd.mono k1 hh (Nat.le_refl _)) (GdA.mono k2 hh (Nat.le_refl _)) (Nat.le_trans k3 hb)
end
mutual
theorem Gd.fr (f : FrA b0 S S') : ∀ {p : PyData} {h b : Nat} {d : D}, Gd b0 S h b d p → Gd b0 S' h b d p
  | .none, _, _, _, .non k => .non k
  | .bool _, _, _, _, .bl k => .bl k
  | .int _, _, _, _, .int k1 k2 => .int k1 k2
  | .str _, _, _, _, .str k1 k2 => .str k1 k2
  | .tuple ps, _, _, _, .tup k1 k2 => .tup (GdA.fr f k1) k2
  | .list ps, _, _, _, .lst k1 k2 k3 k4 => .lst k1 (f.get k1 k2) (GdA.fr f k3) k4
  | .dict ps, _, _, _, .dic k1 k2 k3 k4 k5 k6 => .dic k1 (f.get k1 k2) k3 k4 k5 k6
theorem GdA.fr (f : FrA b0 S S') : ∀ {ps : List PyData} {h B : Nat} {ds : List D}, GdA b0 S h B ds ps → GdA b0 S' h B ds ps
  | [], _, _, _, .nil => .nil
  | p :: ps, _, _, _, .cons k1 k2 k3 => .cons (Gd.fr f k1) (GdA.fr f k2) k3
end
mutual
/-- places yet to come are none of its -/
theorem Gd.wide {A : Nat → Prop} (hA : ∀ i, i < S.length → A i → b0 i) : ∀ {p : PyData} {h b : Nat} {d : D}, Gd b0 S h b d p → Gd A S h b d p
  | .none, _, _, _, .non k => .non k
  | .bool _, _, _, _, .bl k => .bl k
  | .int _, _, _, _, .int k1 k2 => .int k1 k2
  | .str _, _, _, _, .str k1 k2 => .str k1 k2
  | .tuple ps, _, _, _, .tup k1 k2 => .tup (GdA.wide hA k1) k2
  | .list ps, _, _, _, .lst k1 k2 k3 k4 => .lst (fun z => k1 (hA _ (List.getElem?_eq_some_iff.mp k2).1 z)) k2 (GdA.wide hA k3) k4
  | .dict ps, _, _, _, .dic k1 k2 k3 k4 k5 k6 => .dic (fun z => k1 (hA _ (List.getElem?_eq_some_iff.mp k2).1 z)) k2 k3 k4 k5 k6
theorem GdA.wide {A : Nat → Prop} (hA : ∀ i, i < S.length → A i → b0 i) : ∀ {ps : List PyData} {h B : Nat} {ds : List D}, GdA b0 S h B ds ps → GdA A S h B ds ps
  | [], _, _, _, .nil => .nil
  | p :: ps, _, _, _, .cons k1 k2 k3 => .cons (Gd.wide hA k1) (GdA.wide hA k2) k3
end
theorem GdA.cut3 : ∀ {ps : List PyData} {h B : Nat} {ds : List D} {x : D} (n : Nat), GdA b0 S h B ds ps → ds[n]? = some x → ∃ B1 b1 B2 p ps1 ps2, B1 + (b1 + 2) + B2 ≤ B ∧ GdA b0 S h B1 (ds.take n) ps1 ∧ Gd b0 S h b1 x p ∧ GdA b0 S h B2 (ds.drop (n + 1)) ps2
  | [], _, _, _, _, n, .nil, e => by simp at e
  | p :: ps, _, _, _, x, 0, .cons (d := d') (b := b) (B := B) k1 k2 k3, e => by
    have e' : d' = x := by simpa using e
    subst e'
    exact ⟨0, b, B, p, [], ps, by omega, .nil, k1, k2⟩
  | p :: ps, _, _, _, x, n + 1, .cons (b := b) k1 k2 k3, e => by
    obtain ⟨B1, b1, B2, q, ps1, ps2, hb, g1, g2, g3⟩ := GdA.cut3 n k2 (by simpa using e)
    exact ⟨b + 2 + B1, b1, B2, q, p :: ps1, ps2, by omega, .cons k1 g1 (Nat.le_refl _), g2, g3⟩
theorem repr_le {x : Str} (h : PyData.strOk x = true) : (reprText x).length ≤ 10 * x.length + 2 := by
  have := StrLaws.reprText_len x fun c hc => by
    unfold PyData.strOk at h
    rw [← Array.all_toList] at h
    have := of_decide_eq_true (List.all_eq_true.mp h c hc)
    omega
  omega
theorem listText_nil_le : (listText []).length ≤ 3 := by decide
mutual
theorem Gd.all : ∀ {p : PyData} {h b : Nat} {d : D}, Gd b0 S h b d p → (∀ n, h ≤ n → toPy S n d = some p) ∧ p.showable = true ∧ p.depth ≤ h ∧ p.shown.length ≤ b
  | .none, _, _, _, .non k => ⟨fun n _ => by cases n <;> rfl, rfl, Nat.zero_le _, k⟩
  | .bool c, _, _, _, .bl k => ⟨fun n _ => by cases n <;> rfl, rfl, Nat.zero_le _, Nat.le_trans (by cases c <;> exact Nat.le_of_ble_eq_true rfl) k⟩
  | .int _, _, _, _, .int k1 k2 => ⟨fun n _ => by cases n <;> rfl, k1, Nat.zero_le _, k2⟩
  | .str _, _, _, _, .str k1 k2 => ⟨fun n _ => by cases n <;> rfl, rfl, Nat.zero_le _, Nat.le_trans (repr_le k1) k2⟩
  | .tuple ps, h + 1, _, _, .tup k1 k2 => by
    obtain ⟨a1, a2, a3, a4⟩ := GdA.all k1
    refine ⟨fun n hn => ?_, a2, ?_, ?_⟩
    · obtain ⟨m, rfl⟩ : ∃ m, n = m + 1 := ⟨n - 1, by omega⟩
      unfold toPy
      rw [a1 m (by omega)]
      rfl
    · simp only [PyData.depth]; omega
    · have := tupleText_le (PyData.shownAll ps)
      simp only [PyData.shown]; omega
  | .list ps, h + 1, _, _, .lst k1 k2 k3 k4 => by
    obtain ⟨a1, a2, a3, a4⟩ := GdA.all k3
    refine ⟨fun n hn => ?_, a2, ?_, ?_⟩
    · obtain ⟨m, rfl⟩ : ∃ m, n = m + 1 := ⟨n - 1, by omega⟩
      unfold toPy
      simp only [k2]
      rw [a1 m (by omega)]
      rfl
    · simp only [PyData.depth]; omega
    · have := listText_le (PyData.shownAll ps)
      simp only [PyData.shown]; omega
  | .dict ps, h + 1, _, _, .dic k1 k2 k3 k4 k5 k6 => by
    refine ⟨fun n hn => ?_, k4, k5, k6⟩
    obtain ⟨m, rfl⟩ : ∃ m, n = m + 1 := ⟨n - 1, by omega⟩
    unfold toPy
    simp only [k2]
    rw [flatPyK k3]
    rfl
theorem GdA.all : ∀ {ps : List PyData} {h B : Nat} {ds : List D}, GdA b0 S h B ds ps → (∀ n, h ≤ n → toPys (toPy S n) ds = some ps) ∧ PyData.showableAll ps = true ∧ PyData.depthAll ps ≤ h ∧ piled (PyData.shownAll ps) ≤ B
  | [], _, _, _, .nil => ⟨fun _ _ => rfl, rfl, Nat.zero_le _, by simp [PyData.shownAll, piled]⟩
  | p :: ps, _, _, _, .cons k1 k2 k3 => by
    obtain ⟨a1, a2, a3, a4⟩ := Gd.all k1
    obtain ⟨c1, c2, c3, c4⟩ := GdA.all k2
    refine ⟨fun n hn => ?_, ?_, ?_, ?_⟩
    · unfold toPys
      rw [a1 n hn, c1 n hn]
    · simp [PyData.showableAll, a2, c2]
    · simp only [PyData.depthAll]
      exact Nat.max_le.mpr ⟨a3, c3⟩
    · simp only [PyData.shownAll, piled_cons]
      omega
end
theorem GdA.len : ∀ {ps : List PyData} {h B : Nat} {ds : List D}, GdA b0 S h B ds ps → 2 * ds.length ≤ B
  | [], _, _, _, .nil => by simp
  | p :: ps, _, _, _, .cons k1 k2 k3 => by
    have := GdA.len k2
    simp only [List.length_cons]
    omega
theorem GdA.app : ∀ {ps qs : List PyData} {h B B' : Nat} {ds es : List D}, GdA b0 S h B ds ps → GdA b0 S h B' es qs → GdA b0 S h (B + B') (ds ++ es) (ps ++ qs)
  | [], _, _, _, _, _, _, .nil, q => q.mono (Nat.le_refl _) (by omega)
  | p :: ps, _, _, _, _, _, _, .cons k1 k2 k3, q => .cons k1 (GdA.app k2 q) (by omega)
theorem GdA.take : ∀ {ps : List PyData} {h B : Nat} {ds : List D} (n : Nat), GdA b0 S h B ds ps → GdA b0 S h B (ds.take n) (ps.take n)
  | _, _, _, _, 0, _ => by simpa using GdA.nil
  | [], _, _, _, n + 1, .nil => .nil
  | p :: ps, _, _, _, n + 1, .cons k1 k2 k3 => .cons k1 (GdA.take n k2) k3
theorem GdA.drop : ∀ {ps : List PyData} {h B : Nat} {ds : List D} (n : Nat), GdA b0 S h B ds ps → GdA b0 S h B (ds.drop n) (ps.drop n)
  | _, _, _, _, 0, q => q
  | [], _, _, _, n + 1, .nil => .nil
  | p :: ps, _, _, _, n + 1, .cons k1 k2 k3 => (GdA.drop n k2).mono (Nat.le_refl _) (by omega)
theorem GdA.get : ∀ {ps : List PyData} {h B : Nat} {ds : List D} {i : Nat} {d : D}, GdA b0 S h B ds ps → ds[i]? = some d → ∃ p, Gd b0 S h B d p
  | [], _, _, _, i, d, .nil, e => by simp at e
  | p :: ps, _, _, _, 0, d, .cons (d := d') k1 k2 k3, e => by
    have e' : d' = d := by simpa using e
    subst e'
    exact ⟨p, k1.mono (Nat.le_refl _) (by omega)⟩
  | p :: ps, _, _, _, i + 1, d, .cons k1 k2 k3, e => by
    obtain ⟨q, hq⟩ := GdA.get (i := i) (d := d) k2 (by simpa using e)
    exact ⟨q, hq.mono (Nat.le_refl _) (by omega)⟩
theorem GdA.mem {ps : List PyData} {h B : Nat} {ds : List D} {d : D} (g : GdA b0 S h B ds ps) (e : d ∈ ds) : ∃ p, Gd b0 S h B d p := by
  obtain ⟨i, hi⟩ := List.getElem?_of_mem e
  exact g.get hi
theorem GdA.one {h b : Nat} {d : D} {p : PyData} (g : Gd b0 S h b d p) : GdA b0 S h (b + 2) [d] [p] := .cons g .nil (Nat.le_refl (b + 2 + 0))
theorem gda_of {h b : Nat} : ∀ {ds : List D}, (∀ d ∈ ds, ∃ p, Gd b0 S h b d p) → ∃ ps, GdA b0 S h (ds.length * (b + 2)) ds ps
  | [], _ => ⟨[], .nil⟩
  | d :: ds, k => by
    obtain ⟨p, hp⟩ := k d (List.mem_cons_self ..)
    obtain ⟨ps, hps⟩ := gda_of fun x hx => k x (List.mem_cons_of_mem _ hx)
    exact ⟨p :: ps, .cons hp hps (by rw [List.length_cons, Nat.add_mul]; omega)⟩
/-- printed -/
theorem run_reprGd {QE : Nat → List (Str × D) → Sto → Prop} {h b : Nat} {d : D} {p : PyData} {Q : D → Sto → Prop} (g : Gd b0 S h b d p) (hh : h ≤ 64) (hb : b ≤ sizeLine) : RunX (reprD [d]) S QE Q ↔ Q (.str p.shown) S := by
  obtain ⟨a1, a2, a3, a4⟩ := g.all
  have e : showB S d = some p.shown := by
    unfold showB
    rw [a1 deep (by unfold deep; omega)]
    simp only []
    rw [if_pos ⟨by omega, a2, by omega⟩]
  refine run_ok ?_
  unfold reprD
  simp only [e]
/-- of what type -/
def kStr : D → Bool
  | .str _ => true
  | _ => false
def kTup : D → Bool
  | .tup _ => true
  | _ => false
def kBl : D → Bool
  | .bl _ => true
  | _ => false
def kInt : D → Bool
  | .int _ => true
  | .bl _ => true
  | _ => false
theorem Gd.ty {h b : Nat} {d : D} {p : PyData} (g : Gd b0 S h b d p) : ∃ t, tyTn S d = some t ∧ t.sub .tStr = kStr d ∧ t.sub .tTuple = kTup d ∧ t.sub .tInt = kInt d ∧ t.sub .tBool = kBl d := by
  cases g with
  | non => exact ⟨_, rfl, rfl, rfl, rfl, rfl⟩
  | bl => exact ⟨_, rfl, rfl, rfl, rfl, rfl⟩
  | int => exact ⟨_, rfl, rfl, rfl, rfl, rfl⟩
  | str => exact ⟨_, rfl, rfl, rfl, rfl, rfl⟩
  | tup => exact ⟨_, rfl, rfl, rfl, rfl, rfl⟩
  | lst k1 k2 => exact ⟨.tList, by simp only [tyTn, k2], rfl, rfl, rfl, rfl⟩
  | dic k1 k2 => exact ⟨.tDict, by simp only [tyTn, k2], rfl, rfl, rfl, rfl⟩
variable {r : Env} {ma : Env → M D} {Q : D → Sto → Prop}
theorem isi_str {h b : Nat} {d : D} {p : PyData} (g : Gd b0 S h b d p) (k : Q (.bl (kStr d)) S) : ∃ t, tyTn S d = some t ∧ Q (.bl (t.sub .tStr)) S := by
  obtain ⟨t, h1, h2, h3, h4, h5⟩ := g.ty
  exact ⟨t, h1, by rw [h2]; exact k⟩
theorem isi_tup {h b : Nat} {d : D} {p : PyData} (g : Gd b0 S h b d p) (k : Q (.bl (kTup d)) S) : ∃ t, tyTn S d = some t ∧ Q (.bl (t.sub .tTuple)) S := by
  obtain ⟨t, h1, h2, h3, h4, h5⟩ := g.ty
  exact ⟨t, h1, by rw [h3]; exact k⟩
theorem isi_int {h b : Nat} {d : D} {p : PyData} (g : Gd b0 S h b d p) (k : Q (.bl (kInt d)) S) : ∃ t, tyTn S d = some t ∧ Q (.bl (t.sub .tInt)) S := by
  obtain ⟨t, h1, h2, h3, h4, h5⟩ := g.ty
  exact ⟨t, h1, by rw [h4]; exact k⟩
theorem isi_bl {h b : Nat} {d : D} {p : PyData} (g : Gd b0 S h b d p) (k : Q (.bl (kBl d)) S) : ∃ t, tyTn S d = some t ∧ Q (.bl (t.sub .tBool)) S := by
  obtain ⟨t, h1, h2, h3, h4, h5⟩ := g.ty
  exact ⟨t, h1, by rw [h5]; exact k⟩
theorem kStr_of {d : D} (h : kStr d = true) : ∃ x, d = .str x := by cases d <;> first | exact ⟨_, rfl⟩ | cases h
theorem kTup_of {d : D} (h : kTup d = true) : ∃ x, d = .tup x := by cases d <;> first | exact ⟨_, rfl⟩ | cases h
theorem Gd.strI {h b : Nat} {x : Str} {p : PyData} (g : Gd b0 S h b (.str x) p) : PyData.strOk x = true ∧ 10 * x.length + 2 ≤ b := by
  cases g with
  | str k1 k2 => exact ⟨k1, k2⟩
theorem Gd.tupI {h b : Nat} {xs : List D} {p : PyData} (g : Gd b0 S h b (.tup xs) p) : ∃ h' B ps, h = h' + 1 ∧ p = .tuple ps ∧ GdA b0 S h' B xs ps ∧ B + 3 ≤ b := by
  cases g with
  | tup k1 k2 => exact ⟨_, _, _, rfl, rfl, k1, k2⟩
end
theorem low_list : low.cps.toList = (List.range 26).map (· + 97) := by decide +kernel
theorem low_is (c : Nat) : (!(Builtin.Str.occurrences low ⟨#[c]⟩ 0 low.length 1).isEmpty) = lw c := by
  rw [StrLaws.found_one, low_list]
  unfold lw
  rw [Bool.eq_iff_iff, Bool.and_eq_true, decide_eq_true_iff, decide_eq_true_iff, decide_eq_true_iff, List.mem_map]
  constructor
  · rintro ⟨a, h, rfl⟩
    have := List.mem_range.mp h
    omega
  · rintro ⟨h1, h2⟩
    exact ⟨c - 97, List.mem_range.mpr (by omega), by omega⟩
theorem run_ninS {QE : Nat → List (Str × D) → Sto → Prop} {S : Sto} {x z : Str} {Q : D → Sto → Prop} : RunX (nmemD (.str x) (.str z)) S QE Q ↔ Q (.bl (!(!(Builtin.Str.occurrences z x 0 z.length 1).isEmpty))) S := by unfold nmemD; exact run_ofB rfl

open PySem PySem.Spec PyProof.Rows L2
local macro_rules | `(tactic| walk_at "dw") => `(tactic| repeat (first | walk_at "dl" | walk_at "dm" | refine run_isi.mpr ?_ | refine run_chM.mpr ?_ | refine run_eqS.mpr ?_ | refine run_neI.mpr ?_ | refine ⟨Nat.le_of_ble_eq_true rfl, ?_⟩ | (with_reducible refine ite_tr rfl ?_) | (with_reducible refine ite_fr rfl ?_)))
theorem fin_b {Q : D → Sto → Prop} {S : Sto} {c c' : Bool} (q : Q (.bl c) S) (e : c = c') : Q (.bl c') S := e ▸ q
theorem fin_f {Q : D → Sto → Prop} {S : Sto} {c : Bool} (q : Q (.bl c) S) (e : c = false) : Q (.bl false) S := e ▸ q
theorem not_t {c : Bool} (h : (!c) = true) : c = false := by cases c <;> simp_all
theorem not_f {c : Bool} (h : (!c) = false) : c = true := by cases c <;> simp_all
/-! ### the kinds, of any value -/
def nameB : D → Bool
  | .str x => nmOk x
  | _ => false
def isNameB : Env → M Fl :=
    seqM (ifS (orT (notT (tstM (isiM .tStr (getv 0)))) (notT (tstM (chM leD leD (cst (.int 1)) (clM lenD (consA (getv 0) (nilA))) (cst (.int 8)))))) (retM (cst (.bl false))) (nxM))
    (retM (clM allD (consA (lcM [1] (itAny (getv 0)) (gNm 1) (yesM) (binM memD (getv 1) (cst (.str low)))) (nilA))))
def isNameM : List D → M D := fnM 2 isNameB
section
variable {b0 : Nat → Prop} {S : Sto} {h b : Nat} {d : D} {p : PyData} {Q : D → Sto → Prop}
theorem nm_len {x : Str} : nmOk x = (decide (1 ≤ x.length) && decide (x.length ≤ 8) && x.cps.toList.all lw) := rfl
theorem isName_any (g : Gd b0 S h b d p) (hb : b ≤ sizeLine) (k : ∀ S', Gw S S' → Q (.bl (nameB d)) S') : Run (isNameM [d]) S Q := by
  unfold isNameM isNameB
  walk_at "dw"
  obtain ⟨t, t1, t2, t3, t4, t5⟩ := g.ty
  refine ⟨t, t1, ?_⟩
  rw [t2]
  walk_at "dw"
  refine ite_bo (fun hs => ?_) (fun hs => ?_)
  · walk_at "dw"
    exact fin_f (k _ Gw.refl) (by cases d <;> first | rfl | cases hs)
  · obtain ⟨x, rfl⟩ := kStr_of (not_f hs)
    obtain ⟨h1, h2⟩ := g.strI
    walk_at "dw"
    refine (run_lenS (by omega)).mpr ?_
    walk_at "dw"
    refine ite_bo (fun hl => ?_) (fun hl => ?_)
    · walk_at "dw"
      refine ite_bo (fun hl2 => ?_) (fun hl2 => ?_)
      · walk_at "dw"
        refine fin_f (k _ Gw.refl) ?_
        have hl3 := of_decide_eq_false (not_t hl2)
        show nmOk x = false
        rw [nm_len, decide_eq_false (show ¬ x.length ≤ 8 by omega)]
        simp
      · walk_at "dw"
        refine comp_str (fun i acc S' => S' = S ∧ acc = (x.cps.toList.take i).map (fun c => D.bl (lw c))) ⟨rfl, rfl⟩ (fun i acc S' c hc ⟨e, ea⟩ => ?_) (fun acc S' ⟨e, ea⟩ => ?_)
        · subst e
          have hi2 := (List.getElem?_eq_some_iff.mp hc).1
          have hl3 := of_decide_eq_true (not_f hl2)
          rw [DL.len_list] at hl3
          walk_at "dw"
          refine run_inS.mpr ?_
          rw [low_is]
          refine ⟨by rw [ea, List.length_map, List.length_take]; exact small_len (by omega), rfl, ?_⟩
          rw [ea, List.take_add_one, hc]
          simp
        · subst e; subst ea
          walk_at "dw"
          rw [List.take_length]
          refine (run_allB (ks := x.cps.toList.map lw) (by rw [last_get, List.map_map]; rfl)).mpr ?_
          refine fin_b (k _ Gw.one) ?_
          have hl3 := of_decide_eq_true (not_f hl2)
          have hl4 := of_decide_eq_true hl
          show nmOk x = _
          rw [nm_len, decide_eq_true (show x.length ≤ 8 by omega), decide_eq_true (show 1 ≤ x.length by omega)]
          simp
    · walk_at "dw"
      refine fin_f (k _ Gw.refl) ?_
      have hl3 := of_decide_eq_false hl
      show nmOk x = false
      rw [nm_len, decide_eq_false (show ¬ 1 ≤ x.length by omega)]
      simp
def wordB (w : Str) : D → Bool
  | .str x => x == w
  | _ => false
def isWordB : Env → M Fl :=
    retM (andV (isiM .tStr (getv 0)) (binM eqD (getv 0) (getv 1)))
def isWordM : List D → M D := fnM 2 isWordB
theorem isWord_any {w : Str} (g : Gd b0 S h b d p) (k : Q (.bl (wordB w d)) S) : Run (isWordM [d, .str w]) S Q := by
  unfold isWordM isWordB
  walk_at "dw"
  obtain ⟨t, t1, t2, t3, t4, t5⟩ := g.ty
  refine ⟨t, t1, ?_⟩
  rw [t2]
  walk_at "dw"
  refine ite_bo (fun hs => ?_) (fun hs => ?_)
  · obtain ⟨x, rfl⟩ := kStr_of hs
    walk_at "dw"
    exact k
  · exact fin_f k (by cases d <;> first | rfl | cases hs)
def pathB' : D → Bool
  | .tup xs => xs.all nameB
  | _ => false
def isPathB : Env → M Fl :=
    retM (andV (isiM .tTuple (getv 0)) (clM allD (consA (lcM [1] (itAny (getv 0)) (gNm 1) (yesM) (clM (isNameM) (consA (getv 1) (nilA)))) (nilA))))
def isPathM : List D → M D := fnM 2 isPathB
theorem isPath_any (g : Gd b0 S h b d p) (hb : b ≤ sizeLine) (k : ∀ S', Gw S S' → Q (.bl (pathB' d)) S') : Run (isPathM [d]) S Q := by
  unfold isPathM isPathB
  walk_at "dw"
  obtain ⟨t, t1, t2, t3, t4, t5⟩ := g.ty
  refine ⟨t, t1, ?_⟩
  rw [t3]
  walk_at "dw"
  refine ite_bo (fun hs => ?_) (fun hs => ?_)
  · obtain ⟨xs, rfl⟩ := kTup_of hs
    obtain ⟨h', B, ps, rfl, rfl, gs, hB⟩ := g.tupI
    have hl := gs.len
    walk_at "dw"
    refine comp_tup (fun i acc S' => Gw S S' ∧ acc = (xs.take i).map (fun c => D.bl (nameB c))) ⟨Gw.refl, rfl⟩ (fun i acc S1 d hd ⟨g1, ea⟩ => ?_) (fun acc S1 ⟨g1, ea⟩ => ?_)
    · have hi2 := (List.getElem?_eq_some_iff.mp hd).1
      obtain ⟨q, hq⟩ := (gs.fr g1.fa).get hd
      walk_at "dw"
      refine isName_any hq (by omega) fun S2 g2 => ?_
      refine ⟨by rw [ea, List.length_map, List.length_take]; omega, g1.trans g2, ?_⟩
      rw [ea, List.take_add_one, hd]
      simp
    · subst ea
      walk_at "dw"
      rw [List.take_length]
      refine (run_allB (ks := xs.map nameB) (by rw [last_get, List.map_map]; rfl)).mpr ?_
      refine fin_b (k _ (g1.trans Gw.one)) ?_
      show xs.all nameB = _
      simp
  · exact fin_f (k _ Gw.refl) (by cases d <;> first | rfl | cases hs)
def shortB (lo hi : Nat) : D → Bool
  | .tup xs => decide (lo ≤ xs.length) && decide (xs.length ≤ hi) && xs.all nameB
  | _ => false
def isShortB : Env → M Fl :=
    retM (andV (clM (isPathM) (consA (getv 0) (nilA))) (binM leD (clM lenD (consA (getv 0) (nilA))) (cst (.int 4))))
def isShortM : List D → M D := fnM 1 isShortB
theorem pathB'_tup (h : pathB' d = true) : ∃ xs, d = .tup xs ∧ xs.all nameB = true := by
  cases d <;> first | exact ⟨_, rfl, h⟩ | cases h
theorem isShort_any (g : Gd b0 S h b d p) (hb : b ≤ sizeLine) (k : ∀ S', Gw S S' → Q (.bl (shortB 0 4 d)) S') : Run (isShortM [d]) S Q := by
  unfold isShortM isShortB
  walk_at "dw"
  refine isPath_any g hb fun S1 g1 => ?_
  walk_at "dw"
  refine ite_bo (fun hs => ?_) (fun hs => ?_)
  · obtain ⟨xs, rfl, hx⟩ := pathB'_tup hs
    walk_at "dw"
    refine fin_b (k _ g1) ?_
    simp only [shortB, hx]
    simp
    omega
  · refine fin_f (k _ g1) ?_
    cases d <;> first | rfl | skip
    have hs' : List.all _ nameB = false := hs
    simp [shortB, hs']
def isTargetB : Env → M Fl :=
    retM (andV (clM (isShortM) (consA (getv 0) (nilA))) (binM neD (getv 0) (tupM (nilA))))
def isTargetM : List D → M D := fnM 1 isTargetB
theorem isTarget_any (g : Gd b0 S h b d p) (hb : b ≤ sizeLine) (k : ∀ S', Gw S S' → Q (.bl (shortB 1 4 d)) S') : Run (isTargetM [d]) S Q := by
  unfold isTargetM isTargetB
  walk_at "dw"
  refine isShort_any g hb fun S1 g1 => ?_
  walk_at "dw"
  refine ite_bo (fun hs => ?_) (fun hs => ?_)
  · obtain ⟨xs, rfl⟩ : ∃ xs, d = .tup xs := by cases d <;> first | exact ⟨_, rfl⟩ | cases hs
    walk_at "dw"
    refine run_neET.mpr ?_
    refine fin_b (k _ g1) ?_
    simp only [shortB] at hs ⊢
    rw [Bool.and_eq_true, Bool.and_eq_true] at hs
    rw [hs.1.2, hs.2]
    cases xs <;> simp
  · refine fin_f (k _ g1) ?_
    cases d <;> first | rfl | skip
    simp only [shortB] at hs ⊢
    simp only [Nat.zero_le, decide_true, Bool.true_and] at hs
    rw [Bool.and_assoc, hs, Bool.and_false]
def textB' : D → Bool
  | .str x => decide (x.length ≤ 20)
  | _ => false
def isTextB : Env → M Fl :=
    retM (andV (isiM .tStr (getv 0)) (binM leD (clM lenD (consA (getv 0) (nilA))) (cst (.int 20))))
def isTextM : List D → M D := fnM 1 isTextB
theorem isText_any (g : Gd b0 S h b d p) (hb : b ≤ sizeLine) (k : Q (.bl (textB' d)) S) : Run (isTextM [d]) S Q := by
  unfold isTextM isTextB
  walk_at "dw"
  obtain ⟨t, t1, t2, t3, t4, t5⟩ := g.ty
  refine ⟨t, t1, ?_⟩
  rw [t2]
  walk_at "dw"
  refine ite_bo (fun hs => ?_) (fun hs => ?_)
  · obtain ⟨x, rfl⟩ := kStr_of hs
    obtain ⟨h1, h2⟩ := g.strI
    walk_at "dw"
    refine (run_lenS (by omega)).mpr ?_
    walk_at "dw"
    refine fin_b k ?_
    simp only [textB']
    rw [Bool.eq_iff_iff, decide_eq_true_iff, decide_eq_true_iff]
    omega
  · exact fin_f k (by cases d <;> first | rfl | cases hs)
def intB' : D → Bool
  | .int _ => true
  | _ => false
def isIntegerB : Env → M Fl :=
    retM (andV (isiM .tInt (getv 0)) (notV (isiM .tBool (getv 0))))
def isIntegerM : List D → M D := fnM 1 isIntegerB
theorem isInteger_any (g : Gd b0 S h b d p) (k : Q (.bl (intB' d)) S) : Run (isIntegerM [d]) S Q := by
  unfold isIntegerM isIntegerB
  walk_at "dw"
  obtain ⟨t, t1, t2, t3, t4, t5⟩ := g.ty
  refine ⟨t, t1, ?_⟩
  rw [t4]
  walk_at "dw"
  refine ite_bo (fun hs => ?_) (fun hs => ?_)
  · walk_at "dw"
    refine ⟨t, t1, ?_⟩
    rw [t5]
    walk_at "dw"
    refine fin_b k ?_
    cases d <;> first | rfl | cases hs
  · exact fin_f k (by cases d <;> first | rfl | cases hs)
def rightsB' : D → Bool
  | .int i => decide (0 ≤ i) && decide (i ≤ 7)
  | _ => false
def isRightsB : Env → M Fl :=
    retM (andV (clM (isIntegerM) (consA (getv 0) (nilA))) (chM leD leD (cst (.int 0)) (getv 0) (cst (.int 7))))
def isRightsM : List D → M D := fnM 1 isRightsB
theorem isRights_any (g : Gd b0 S h b d p) (k : Q (.bl (rightsB' d)) S) : Run (isRightsM [d]) S Q := by
  unfold isRightsM isRightsB
  walk_at "dw"
  refine isInteger_any g ?_
  walk_at "dw"
  refine ite_bo (fun hs => ?_) (fun hs => ?_)
  · obtain ⟨i, rfl⟩ : ∃ i, d = .int i := by cases d <;> first | exact ⟨_, rfl⟩ | cases hs
    walk_at "dw"
    refine ite_bo (fun h0 => ?_) (fun h0 => ?_)
    · walk_at "dw"
      refine fin_b k ?_
      simp only [rightsB', h0, Bool.true_and]
    · refine fin_f k ?_
      simp only [rightsB', h0, Bool.false_and]
  · exact fin_f k (by cases d <;> first | rfl | cases hs)
end

open PySem PySem.Spec PyProof.Rows L2
local macro_rules | `(tactic| walk_at "dw") => `(tactic| repeat (first | walk_at "dl" | walk_at "dm" | refine run_isi.mpr ?_ | refine run_chM.mpr ?_ | refine run_eqS.mpr ?_ | refine run_neI.mpr ?_ | refine ⟨Nat.le_of_ble_eq_true rfl, ?_⟩ | (with_reducible refine ite_tr rfl ?_) | (with_reducible refine ite_fr rfl ?_)))
/-! ### the kinds of steps, of any value -/
theorem len2 {xs : List D} (h : (((xs.length : Nat) : Int) == 2) = true) : ∃ a c, xs = [a, c] := by
  have e : ((xs.length : Nat) : Int) = 2 := beq_iff_eq.mp h
  have e' : xs.length = 2 := by omega
  match xs, e' with
  | [a, c], _ => exact ⟨a, c, rfl⟩
def argB : D → Bool
  | .tup [a, c] => wordB "arg" a && nameB c
  | _ => false
theorem argB_len {xs : List D} (h : (((xs.length : Nat) : Int) == 2) = false) : argB (.tup xs) = false := by
  match xs, h with
  | [a, c], h => cases h
  | [], _ => rfl
  | [_], _ => rfl
  | _ :: _ :: _ :: _, _ => rfl
def isArgB : Env → M Fl :=
    retM (andV (isiM .tTuple (getv 0)) (andV (binM eqD (clM lenD (consA (getv 0) (nilA))) (cst (.int 2))) (andV (clM (isWordM) (consA (binM ixD (getv 0) (cst (.int 0))) (consA (cst (.str "arg")) (nilA)))) (clM (isNameM) (consA (binM ixD (getv 0) (cst (.int 1))) (nilA))))))
def isArgM : List D → M D := fnM 1 isArgB
section
variable {b0 : Nat → Prop} {S : Sto} {h b : Nat} {d : D} {p : PyData} {Q : D → Sto → Prop}
theorem Gd.two {a c : D} (g : Gd b0 S h b (.tup [a, c]) p) : (∃ q, Gd b0 S h b a q) ∧ ∃ q, Gd b0 S h b c q := by
  obtain ⟨h', B, ps, rfl, rfl, gs, hB⟩ := g.tupI
  obtain ⟨q1, k1⟩ := gs.get (i := 0) (d := a) rfl
  obtain ⟨q2, k2⟩ := gs.get (i := 1) (d := c) rfl
  exact ⟨⟨q1, k1.mono (Nat.le_succ _) (by omega)⟩, ⟨q2, k2.mono (Nat.le_succ _) (by omega)⟩⟩
theorem isArg_any (g : Gd b0 S h b d p) (hb : b ≤ sizeLine) (k : ∀ S', Gw S S' → Q (.bl (argB d)) S') : Run (isArgM [d]) S Q := by
  unfold isArgM isArgB
  walk_at "dw"
  obtain ⟨t, t1, t2, t3, t4, t5⟩ := g.ty
  refine ⟨t, t1, ?_⟩
  rw [t3]
  walk_at "dw"
  refine ite_bo (fun hs => ?_) (fun hs => ?_)
  · obtain ⟨xs, rfl⟩ := kTup_of hs
    walk_at "dw"
    refine ite_bo (fun hl => ?_) (fun hl => ?_)
    · obtain ⟨a, c, rfl⟩ := len2 hl
      obtain ⟨⟨q1, g1⟩, q2, g2⟩ := g.two
      walk_at "dw"
      refine isWord_any g1 ?_
      walk_at "dw"
      refine ite_bo (fun hw => ?_) (fun hw => ?_)
      · walk_at "dw"
        refine isName_any g2 hb fun S1 w1 => ?_
        exact fin_b (k _ w1) (by simp only [argB, hw, Bool.true_and])
      · exact fin_f (k _ Gw.refl) (by simp only [argB, hw, Bool.false_and])
    · exact fin_f (k _ Gw.refl) (argB_len hl)
  · exact fin_f (k _ Gw.refl) (by cases d <;> first | rfl | cases hs)
def toldB (d : D) : Bool := textB' d || argB d
def isToldB : Env → M Fl :=
    retM (orV (clM (isTextM) (consA (getv 0) (nilA))) (clM (isArgM) (consA (getv 0) (nilA))))
def isToldM : List D → M D := fnM 1 isToldB
theorem isTold_any (g : Gd b0 S h b d p) (hb : b ≤ sizeLine) (k : ∀ S', Gw S S' → Q (.bl (toldB d)) S') : Run (isToldM [d]) S Q := by
  unfold isToldM isToldB
  walk_at "dw"
  refine isText_any g hb ?_
  walk_at "dw"
  refine ite_bo (fun hs => ?_) (fun hs => ?_)
  · exact fin_b (k _ Gw.refl) (by simp only [toldB, hs, Bool.true_or])
  · walk_at "dw"
    refine isArg_any g hb fun S1 w1 => ?_
    exact fin_b (k _ w1) (by simp only [toldB, hs, Bool.false_or])
def readB : D → Bool
  | .tup [a, c] => if wordB "path" a = true then shortB 1 4 c else if wordB "text" a = true then textB' c else wordB "arg" a && nameB c
  | _ => false
theorem readB_len {xs : List D} (h : (((xs.length : Nat) : Int) == 2) = false) : readB (.tup xs) = false := by
  match xs, h with
  | [a, c], h => cases h
  | [], _ => rfl
  | [_], _ => rfl
  | _ :: _ :: _ :: _, _ => rfl
def isReadB : Env → M Fl :=
    seqM (ifS (orT (notT (tstM (isiM .tTuple (getv 0)))) (tstM (binM neD (clM lenD (consA (getv 0) (nilA))) (cst (.int 2))))) (retM (cst (.bl false))) (nxM))
    (seqM (ifS (tstM (clM (isWordM) (consA (binM ixD (getv 0) (cst (.int 0))) (consA (cst (.str "path")) (nilA))))) (retM (clM (isTargetM) (consA (binM ixD (getv 0) (cst (.int 1))) (nilA)))) (nxM))
    (seqM (ifS (tstM (clM (isWordM) (consA (binM ixD (getv 0) (cst (.int 0))) (consA (cst (.str "text")) (nilA))))) (retM (clM (isTextM) (consA (binM ixD (getv 0) (cst (.int 1))) (nilA)))) (nxM))
    (retM (clM (isArgM) (consA (getv 0) (nilA))))))
def isReadM : List D → M D := fnM 1 isReadB
theorem isRead_any (g : Gd b0 S h b d p) (hb : b ≤ sizeLine) (k : ∀ S', Gw S S' → Q (.bl (readB d)) S') : Run (isReadM [d]) S Q := by
  unfold isReadM isReadB
  walk_at "dw"
  obtain ⟨t, t1, t2, t3, t4, t5⟩ := g.ty
  refine ⟨t, t1, ?_⟩
  rw [t3]
  walk_at "dw"
  refine ite_bo (fun hs => ?_) (fun hs => ?_)
  · walk_at "dw"
    exact fin_f (k _ Gw.refl) (by cases d <;> first | rfl | cases hs)
  · obtain ⟨xs, rfl⟩ := kTup_of (not_f hs)
    walk_at "dw"
    refine ite_bo (fun hl => ?_) (fun hl => ?_)
    · walk_at "dw"
      exact fin_f (k _ Gw.refl) (readB_len (not_t hl))
    · obtain ⟨a, c, rfl⟩ := len2 (not_f hl)
      obtain ⟨⟨q1, g1⟩, q2, g2⟩ := g.two
      walk_at "dw"
      refine isWord_any g1 ?_
      walk_at "dw"
      refine ite_bo (fun hw => ?_) (fun hw => ?_)
      · walk_at "dw"
        refine isTarget_any g2 hb fun S1 w1 => ?_
        exact fin_b (k _ w1) (by simp only [readB, hw, if_true])
      · walk_at "dw"
        refine isWord_any g1 ?_
        walk_at "dw"
        refine ite_bo (fun hw2 => ?_) (fun hw2 => ?_)
        · walk_at "dw"
          refine isText_any g2 hb ?_
          exact fin_b (k _ Gw.refl) (by simp [readB, hw, hw2])
        · walk_at "dw"
          refine isArg_any g hb fun S1 w1 => ?_
          exact fin_b (k _ w1) (by simp [readB, hw, hw2, argB])
def readsB : D → Bool
  | .tup xs => decide (xs.length ≤ 3) && xs.all readB
  | _ => false
def areReadsB : Env → M Fl :=
    retM (andV (isiM .tTuple (getv 0)) (andV (binM leD (clM lenD (consA (getv 0) (nilA))) (cst (.int 3))) (clM allD (consA (lcM [1] (itAny (getv 0)) (gNm 1) (yesM) (clM (isReadM) (consA (getv 1) (nilA)))) (nilA)))))
def areReadsM : List D → M D := fnM 2 areReadsB
theorem areReads_any (g : Gd b0 S h b d p) (hb : b ≤ sizeLine) (k : ∀ S', Gw S S' → Q (.bl (readsB d)) S') : Run (areReadsM [d]) S Q := by
  unfold areReadsM areReadsB
  walk_at "dw"
  obtain ⟨t, t1, t2, t3, t4, t5⟩ := g.ty
  refine ⟨t, t1, ?_⟩
  rw [t3]
  walk_at "dw"
  refine ite_bo (fun hs => ?_) (fun hs => ?_)
  · obtain ⟨xs, rfl⟩ := kTup_of hs
    obtain ⟨h', B, ps, rfl, rfl, gs, hB⟩ := g.tupI
    have hl := gs.len
    walk_at "dw"
    refine ite_bo (fun hw => ?_) (fun hw => ?_)
    · have hw' := of_decide_eq_true hw
      walk_at "dw"
      refine comp_tup (fun i acc S' => Gw S S' ∧ acc = (xs.take i).map (fun c => D.bl (readB c))) ⟨Gw.refl, rfl⟩ (fun i acc S1 d hd ⟨g1, ea⟩ => ?_) (fun acc S1 ⟨g1, ea⟩ => ?_)
      · have hi2 := (List.getElem?_eq_some_iff.mp hd).1
        obtain ⟨q, hq⟩ := (gs.fr g1.fa).get hd
        walk_at "dw"
        refine isRead_any hq (by omega) fun S2 g2 => ?_
        refine ⟨by rw [ea, List.length_map, List.length_take]; omega, g1.trans g2, ?_⟩
        rw [ea, List.take_add_one, hd]
        simp
      · subst ea
        walk_at "dw"
        rw [List.take_length]
        refine (run_allB (ks := xs.map readB) (by rw [last_get, List.map_map]; rfl)).mpr ?_
        refine fin_b (k _ (g1.trans Gw.one)) ?_
        simp only [readsB]
        rw [decide_eq_true (show xs.length ≤ 3 by omega)]
        simp
    · have hw' := of_decide_eq_false hw
      refine fin_f (k _ Gw.refl) ?_
      simp only [readsB]
      rw [decide_eq_false (show ¬ xs.length ≤ 3 by omega)]
      rfl
  · exact fin_f (k _ Gw.refl) (by cases d <;> first | rfl | cases hs)
/-- a step, by the table -/
def stpB (w : Str) (l : List D) : Bool :=
  if (w == "delete" || w == "clear") = true then (match l with
    | [x] => shortB 1 4 x
    | _ => false)
  else if (w == "folder" || w == "rights") = true then (match l with
    | [x, y] => shortB 1 4 x && rightsB' y
    | _ => false)
  else if (w == "link") = true then (match l with
    | [x, y] => shortB 1 4 x && toldB y
    | _ => false)
  else match l with
    | [x, y, z] => if (w == "write") = true then shortB 1 4 x && (toldB y && rightsB' z) else if (w == "copy") = true then nameB x && (shortB 0 4 y && shortB 0 4 z) else w == "run" && (nameB x && (readsB y && shortB 1 4 z))
    | _ => false
def stepB' : D → Bool
  | .tup (.str w :: l) => stpB w l
  | _ => false
theorem stpB_0 {w : Str} : stpB w [] = false := by unfold stpB; split <;> (try rfl); split <;> (try rfl); split <;> rfl
theorem stpB_4 {w : Str} {x y z u : D} {l : List D} : stpB w (x :: y :: z :: u :: l) = false := by unfold stpB; split <;> (try rfl); split <;> (try rfl); split <;> rfl
theorem pgW {w : Str} (hw : PyData.strOk w = true) : Pg S 0 (reprText w).length (.str w) (.str w) :=
  ⟨fun n _ => by cases n <;> rfl, by simpa [PyData.canLay0] using hw, rfl, by simp [PyData.depth], Nat.le_refl _⟩
theorem run_in2 {QE : Nat → List (Str × D) → Sto → Prop} {w a c : Str} (hw : PyData.strOk w = true) (ha : txOk a = true) (hc : txOk c = true) : RunX (memD (.str w) (.tup [.str a, .str c])) S QE Q ↔ Q (.bl (w == a || w == c)) S := by
  have g : Pg S 1 100 (.tup [.str a, .str c]) (.tuple [.str a, .str c]) := (pg_tup (pga_cons (pg_str ha) (pga_cons (pg_str hc) pga_nil))).mono (Nat.le_refl _) (Nat.le_of_ble_eq_true rfl)
  rw [run_inT (pgW hw) g (by decide) (by decide)]
  have e : ([PyData.str a, PyData.str c].any fun y => PyData.eqv y (.str w)) = (w == a || w == c) := by
    simp [PyData.eqv, Bool.beq_comm, BEq.comm]
  rw [e]
def isStepB : Env → M Fl :=
    seqM (ifS (orT (notT (tstM (isiM .tTuple (getv 0)))) (orT (notT (tstM (chM leD leD (cst (.int 2)) (clM lenD (consA (getv 0) (nilA))) (cst (.int 4))))) (notT (tstM (isiM .tStr (binM ixD (getv 0) (cst (.int 0)))))))) (retM (cst (.bl false))) (nxM))
    (seqM (ifS (tstM (binM memD (binM ixD (getv 0) (cst (.int 0))) (tupM (consA (cst (.str "delete")) (consA (cst (.str "clear")) (nilA)))))) (retM (andV (binM eqD (clM lenD (consA (getv 0) (nilA))) (cst (.int 2))) (clM (isTargetM) (consA (binM ixD (getv 0) (cst (.int 1))) (nilA))))) (nxM))
    (seqM (ifS (tstM (binM memD (binM ixD (getv 0) (cst (.int 0))) (tupM (consA (cst (.str "folder")) (consA (cst (.str "rights")) (nilA)))))) (retM (andV (binM eqD (clM lenD (consA (getv 0) (nilA))) (cst (.int 3))) (andV (clM (isTargetM) (consA (binM ixD (getv 0) (cst (.int 1))) (nilA))) (clM (isRightsM) (consA (binM ixD (getv 0) (cst (.int 2))) (nilA)))))) (nxM))
    (seqM (ifS (tstM (binM eqD (binM ixD (getv 0) (cst (.int 0))) (cst (.str "link")))) (retM (andV (binM eqD (clM lenD (consA (getv 0) (nilA))) (cst (.int 3))) (andV (clM (isTargetM) (consA (binM ixD (getv 0) (cst (.int 1))) (nilA))) (clM (isToldM) (consA (binM ixD (getv 0) (cst (.int 2))) (nilA)))))) (nxM))
    (seqM (ifS (tstM (binM neD (clM lenD (consA (getv 0) (nilA))) (cst (.int 4)))) (retM (cst (.bl false))) (nxM))
    (seqM (ifS (tstM (binM eqD (binM ixD (getv 0) (cst (.int 0))) (cst (.str "write")))) (retM (andV (clM (isTargetM) (consA (binM ixD (getv 0) (cst (.int 1))) (nilA))) (andV (clM (isToldM) (consA (binM ixD (getv 0) (cst (.int 2))) (nilA))) (clM (isRightsM) (consA (binM ixD (getv 0) (cst (.int 3))) (nilA)))))) (nxM))
    (seqM (ifS (tstM (binM eqD (binM ixD (getv 0) (cst (.int 0))) (cst (.str "copy")))) (retM (andV (clM (isNameM) (consA (binM ixD (getv 0) (cst (.int 1))) (nilA))) (andV (clM (isShortM) (consA (binM ixD (getv 0) (cst (.int 2))) (nilA))) (clM (isShortM) (consA (binM ixD (getv 0) (cst (.int 3))) (nilA)))))) (nxM))
    (retM (andV (binM eqD (binM ixD (getv 0) (cst (.int 0))) (cst (.str "run"))) (andV (clM (isNameM) (consA (binM ixD (getv 0) (cst (.int 1))) (nilA))) (andV (clM (areReadsM) (consA (binM ixD (getv 0) (cst (.int 2))) (nilA))) (clM (isTargetM) (consA (binM ixD (getv 0) (cst (.int 3))) (nilA)))))))))))))
def isStepM : List D → M D := fnM 1 isStepB
/-- one behind another, as long as they hold -/
theorem and_step {m : M D} {c e : Bool} {k : M D} {S : Sto} {Q : D → Sto → Prop} (hc : c = e) (h1 : e = true → Run k S Q) (h2 : e = false → Q (.bl false) S) : if c = true then Run k S Q else Q (.bl false) S := by
  subst hc
  exact ite_bo h1 h2
theorem Gd.at_ {xs : List D} {i : Nat} {x : D} (g : Gd b0 S h b (.tup xs) p) (e : xs[i]? = some x) : ∃ q, Gd b0 S h b x q := by
  obtain ⟨h', B, ps, rfl, rfl, gs, hB⟩ := g.tupI
  obtain ⟨q, hq⟩ := gs.get e
  exact ⟨q, hq.mono (Nat.le_succ _) (by omega)⟩
local macro_rules | `(tactic| walk_at "dv") => `(tactic| repeat (first | walk_at "dl" | walk_at "dm" | refine run_isi.mpr ?_ | refine run_chM.mpr ?_ | refine run_eqS.mpr ?_ | refine run_neI.mpr ?_ | refine ⟨Nat.le_of_ble_eq_true rfl, ?_⟩ | refine ite_tr (by rfl) ?_ | refine ite_fr (by rfl) ?_))
theorem isStep_any (g : Gd b0 S h b d p) (hb : b ≤ sizeLine) (k : ∀ S', Gw S S' → Q (.bl (stepB' d)) S') : Run (isStepM [d]) S Q := by
  unfold isStepM isStepB
  walk_at "dw"
  obtain ⟨t, t1, t2, t3, t4, t5⟩ := g.ty
  refine ⟨t, t1, ?_⟩
  rw [t3]
  walk_at "dw"
  refine ite_bo (fun hs => ?_) (fun hs => ?_)
  · walk_at "dw"
    exact fin_f (k _ Gw.refl) (by cases d <;> first | rfl | cases hs)
  · obtain ⟨xs, rfl⟩ := kTup_of (not_f hs)
    walk_at "dw"
    rcases xs with _ | ⟨a, _ | ⟨x, _ | ⟨y, _ | ⟨z, _ | ⟨u, l⟩⟩⟩⟩⟩
    · walk_at "dv"
      exact k _ Gw.refl
    · walk_at "dv"
      refine fin_f (k _ Gw.refl) ?_
      cases a <;> first | rfl | exact stpB_0
    · obtain ⟨q0, g0⟩ := g.at_ (i := 0) (x := a) rfl
      obtain ⟨q1, g1⟩ := g.at_ (i := 1) (x := x) rfl
      walk_at "dv"
      obtain ⟨t', u1, u2, u3, u4, u5⟩ := g0.ty
      refine ⟨t', u1, ?_⟩
      rw [u2]
      walk_at "dv"
      refine ite_bo (fun hs => ?_) (fun hs => ?_)
      · walk_at "dv"
        exact fin_f (k _ Gw.refl) (by cases a <;> first | rfl | cases hs)
      · obtain ⟨w, rfl⟩ := kStr_of (not_f hs)
        have hw := g0.strI.1
        walk_at "dv"
        refine (run_in2 hw (by decide +kernel) (by decide +kernel)).mpr ?_
        walk_at "dv"
        refine ite_bo (fun c1 => ?_) (fun c1 => ?_)
        · walk_at "dv"
          refine isTarget_any g1 hb fun S1 w1 => ?_
          exact fin_b (k _ w1) (by simp [stepB', stpB, c1])
        · walk_at "dv"
          refine (run_in2 hw (by decide +kernel) (by decide +kernel)).mpr ?_
          walk_at "dv"
          refine ite_bo (fun c2 => ?_) (fun c2 => ?_)
          · walk_at "dv"
            exact fin_f (k _ Gw.refl) (by simp [stepB', stpB, c1, c2])
          · walk_at "dv"
            refine ite_bo (fun c3 => ?_) (fun c3 => ?_)
            · walk_at "dv"
              exact fin_f (k _ Gw.refl) (by simp [stepB', stpB, c1, c2, c3])
            · walk_at "dv"
              exact fin_f (k _ Gw.refl) (by simp [stepB', stpB, c1, c2, c3])
    · obtain ⟨q0, g0⟩ := g.at_ (i := 0) (x := a) rfl
      obtain ⟨q1, g1⟩ := g.at_ (i := 1) (x := x) rfl
      obtain ⟨q2, g2⟩ := g.at_ (i := 2) (x := y) rfl
      walk_at "dv"
      obtain ⟨t', u1, u2, u3, u4, u5⟩ := g0.ty
      refine ⟨t', u1, ?_⟩
      rw [u2]
      walk_at "dv"
      refine ite_bo (fun hs => ?_) (fun hs => ?_)
      · walk_at "dv"
        exact fin_f (k _ Gw.refl) (by cases a <;> first | rfl | cases hs)
      · obtain ⟨w, rfl⟩ := kStr_of (not_f hs)
        have hw := g0.strI.1
        walk_at "dv"
        refine (run_in2 hw (by decide +kernel) (by decide +kernel)).mpr ?_
        walk_at "dv"
        refine ite_bo (fun c1 => ?_) (fun c1 => ?_)
        · walk_at "dv"
          exact fin_f (k _ Gw.refl) (by simp [stepB', stpB, c1])
        · walk_at "dv"
          refine (run_in2 hw (by decide +kernel) (by decide +kernel)).mpr ?_
          walk_at "dv"
          refine ite_bo (fun c2 => ?_) (fun c2 => ?_)
          · walk_at "dv"
            refine isTarget_any g1 hb fun S1 w1 => ?_
            walk_at "dv"
            refine ite_bo (fun c4 => ?_) (fun c4 => ?_)
            · walk_at "dv"
              refine isRights_any (g2.fr w1.fa) ?_
              exact fin_b (k _ w1) (by simp [stepB', stpB, c1, c2, c4])
            · exact fin_f (k _ w1) (by simp [stepB', stpB, c1, c2, c4])
          · walk_at "dv"
            refine ite_bo (fun c3 => ?_) (fun c3 => ?_)
            · walk_at "dv"
              refine isTarget_any g1 hb fun S1 w1 => ?_
              walk_at "dv"
              refine ite_bo (fun c4 => ?_) (fun c4 => ?_)
              · walk_at "dv"
                refine isTold_any (g2.fr w1.fa) hb fun S2 w2 => ?_
                exact fin_b (k _ (w1.trans w2)) (by simp [stepB', stpB, c1, c2, c3, c4])
              · exact fin_f (k _ w1) (by simp [stepB', stpB, c1, c2, c3, c4])
            · walk_at "dv"
              exact fin_f (k _ Gw.refl) (by simp [stepB', stpB, c1, c2, c3])
    · obtain ⟨q0, g0⟩ := g.at_ (i := 0) (x := a) rfl
      obtain ⟨q1, g1⟩ := g.at_ (i := 1) (x := x) rfl
      obtain ⟨q2, g2⟩ := g.at_ (i := 2) (x := y) rfl
      obtain ⟨q3, g3⟩ := g.at_ (i := 3) (x := z) rfl
      walk_at "dv"
      obtain ⟨t', u1, u2, u3, u4, u5⟩ := g0.ty
      refine ⟨t', u1, ?_⟩
      rw [u2]
      walk_at "dv"
      refine ite_bo (fun hs => ?_) (fun hs => ?_)
      · walk_at "dv"
        exact fin_f (k _ Gw.refl) (by cases a <;> first | rfl | cases hs)
      · obtain ⟨w, rfl⟩ := kStr_of (not_f hs)
        have hw := g0.strI.1
        walk_at "dv"
        refine (run_in2 hw (by decide +kernel) (by decide +kernel)).mpr ?_
        walk_at "dv"
        refine ite_bo (fun c1 => ?_) (fun c1 => ?_)
        · walk_at "dv"
          exact fin_f (k _ Gw.refl) (by simp [stepB', stpB, c1])
        · walk_at "dv"
          refine (run_in2 hw (by decide +kernel) (by decide +kernel)).mpr ?_
          walk_at "dv"
          refine ite_bo (fun c2 => ?_) (fun c2 => ?_)
          · walk_at "dv"
            exact fin_f (k _ Gw.refl) (by simp [stepB', stpB, c1, c2])
          · walk_at "dv"
            refine ite_bo (fun c3 => ?_) (fun c3 => ?_)
            · walk_at "dv"
              exact fin_f (k _ Gw.refl) (by simp [stepB', stpB, c1, c2, c3])
            · walk_at "dv"
              refine ite_bo (fun c4 => ?_) (fun c4 => ?_)
              · walk_at "dv"
                refine isTarget_any g1 hb fun S1 w1 => ?_
                walk_at "dv"
                refine ite_bo (fun d1 => ?_) (fun d1 => ?_)
                · walk_at "dv"
                  refine isTold_any (g2.fr w1.fa) hb fun S2 w2 => ?_
                  walk_at "dv"
                  refine ite_bo (fun d2 => ?_) (fun d2 => ?_)
                  · walk_at "dv"
                    refine isRights_any (g3.fr (w1.trans w2).fa) ?_
                    exact fin_b (k _ (w1.trans w2)) (by simp [stepB', stpB, c1, c2, c3, c4, d1, d2])
                  · exact fin_f (k _ (w1.trans w2)) (by simp [stepB', stpB, c1, c2, c3, c4, d1, d2])
                · exact fin_f (k _ w1) (by simp [stepB', stpB, c1, c2, c3, c4, d1])
              · walk_at "dv"
                refine ite_bo (fun c5 => ?_) (fun c5 => ?_)
                · walk_at "dv"
                  refine isName_any g1 hb fun S1 w1 => ?_
                  walk_at "dv"
                  refine ite_bo (fun d1 => ?_) (fun d1 => ?_)
                  · walk_at "dv"
                    refine isShort_any (g2.fr w1.fa) hb fun S2 w2 => ?_
                    walk_at "dv"
                    refine ite_bo (fun d2 => ?_) (fun d2 => ?_)
                    · walk_at "dv"
                      refine isShort_any (g3.fr (w1.trans w2).fa) hb fun S3 w3 => ?_
                      exact fin_b (k _ ((w1.trans w2).trans w3)) (by simp [stepB', stpB, c1, c2, c3, c4, c5, d1, d2])
                    · exact fin_f (k _ (w1.trans w2)) (by simp [stepB', stpB, c1, c2, c3, c4, c5, d1, d2])
                  · exact fin_f (k _ w1) (by simp [stepB', stpB, c1, c2, c3, c4, c5, d1])
                · walk_at "dv"
                  refine ite_bo (fun c6 => ?_) (fun c6 => ?_)
                  · walk_at "dv"
                    refine isName_any g1 hb fun S1 w1 => ?_
                    walk_at "dv"
                    refine ite_bo (fun d1 => ?_) (fun d1 => ?_)
                    · walk_at "dv"
                      refine areReads_any (g2.fr w1.fa) hb fun S2 w2 => ?_
                      walk_at "dv"
                      refine ite_bo (fun d2 => ?_) (fun d2 => ?_)
                      · walk_at "dv"
                        refine isTarget_any (g3.fr (w1.trans w2).fa) hb fun S3 w3 => ?_
                        exact fin_b (k _ ((w1.trans w2).trans w3)) (by simp [stepB', stpB, c1, c2, c3, c4, c5, c6, d1, d2])
                      · exact fin_f (k _ (w1.trans w2)) (by simp [stepB', stpB, c1, c2, c3, c4, c5, c6, d1, d2])
                    · exact fin_f (k _ w1) (by simp [stepB', stpB, c1, c2, c3, c4, c5, c6, d1])
                  · exact fin_f (k _ Gw.refl) (by simp [stepB', stpB, c1, c2, c3, c4, c5, c6])
    · refine ite_bo (fun hl => ?_) (fun hl => ?_)
      · walk_at "dw"
        refine fin_f (k _ Gw.refl) ?_
        cases a <;> first | rfl | exact stpB_4 (x := x) (y := y) (z := z) (u := u) (l := l)
      · have := of_decide_eq_false hl
        simp only [List.length_cons] at this
        omega
end

/-! runs of own classes, of what raises, of try -/
open PySem PySem.Spec PyProof.Rows L2

abbrev QX : Type := Nat → List (Str × D) → Sto → Prop
theorem Gw.set {S S' : Sto} {i : Nat} {o : O} (a : Gw S S') (h : S.length ≤ i) : Gw S (S'.set i o) := by
  obtain ⟨t, rfl⟩ := a
  rw [List.set_append_right _ _ h]
  exact ⟨_, rfl⟩
theorem Gw.len {S S' : Sto} (a : Gw S S') : S.length ≤ S'.length := by
  obtain ⟨t, rfl⟩ := a
  simp
theorem Gw.drop {S S' : Sto} {o : O} (a : Gw (S ++ [o]) S') : Gw S S' := Gw.one.trans a
theorem Gw.lt {S S' : Sto} {i : Nat} (a : Gw S S') (h : i < S.length) : i < S'.length := Nat.lt_of_lt_of_le h a.len
theorem FrA.refl {A : Nat → Prop} {S : Sto} : FrA A S S := ⟨Nat.le_refl _, fun _ _ _ => rfl⟩
theorem FrA.trans {A : Nat → Prop} {S S1 S2 : Sto} (a : FrA A S S1) (c : FrA A S1 S2) : FrA A S S2 := ⟨Nat.le_trans a.len c.len, fun i h n => (c.at_ i (Nat.lt_of_lt_of_le h a.len) n).trans (a.at_ i h n)⟩
theorem FrA.set {A : Nat → Prop} {S : Sto} {i : Nat} {o : O} (h : A i) : FrA A S (S.set i o) := ⟨by simp, fun j _ n => set_ne fun e => n (e ▸ h)⟩
section
variable {S : Sto} {r : Env} {Q : D → Sto → Prop} {QF : Fl → Sto → Prop} {QE : QX} {ma mb mo mv : Env → M D} {mA : Env → M (List D)} {mf : List D → M D} {ds : List D} {c n : Nat} {fs : List (Str × D)} {f m : Str} {v d x y : D}
theorem run_hush (h : Run (mf ds) S Q) : RunX (hushM mf ds) S QE Q := by
  obtain ⟨a, S', e, q⟩ := Run.ex h
  exact Run.of (hush_ok e) q
theorem run_mk (h : RunX (mf (.ref S.length :: ds)) (S ++ [.ins c []]) QE fun v S' => v = .non ∧ Q (.ref S.length) S') : RunX (mkM c mf ds) S QE Q := by
  cases e : mf (.ref S.length :: ds) (S ++ [.ins c []]) with
  | ok a S' =>
    rw [run_ok e] at h
    obtain ⟨rfl, q⟩ := h
    exact Run.of (by unfold mkM; simp only [e]) q
  | err c' fs' S' => rw [run_err e] at h; exact (run_err (by unfold mkM; simp only [e])).mpr h
  | no => rw [run_nope e] at h; exact h.elim
theorem run_fld {cs : List Nat} : RunX (fldM cs f ma r) S QE Q ↔ RunX (ma r) S QE fun d S1 => RunX (fldD cs f d) S1 QE Q := by unfold fldM; exact run_bnd
theorem run_fldD {cs : List Nat} (h : S[n]? = some (.ins c fs)) (hc : c ∈ cs) (hl : fs.lookup f = some v) : RunX (fldD cs f (.ref n)) S QE Q ↔ Q v S := run_ok (by unfold fldD; simp only [h, if_pos hc, hl])
theorem run_fset {cs : List Nat} : RunX (fsetM cs f mo mv r) S QE QF ↔ RunX (mv r) S QE fun v S1 => RunX (mo r) S1 QE fun o S2 => RunX (fsetD cs f o v) S2 QE fun _ S3 => QF (.nx r) S3 := by unfold fsetM; simp only [run_bnd, run_pure]
theorem run_fsetD {cs : List Nat} {QU : Unit → Sto → Prop} (h : S[n]? = some (.ins c fs)) (hc : c ∈ cs ∧ fs.length < 1000) : RunX (fsetD cs f (.ref n) v) S QE QU ↔ QU () (S.set n (.ins c (putD f v fs))) := run_ok (by unfold fsetD; simp only [h, if_pos hc])
theorem run_meth : RunX (methM c m mf mo mA r) S QE Q ↔ RunX (mo r) S QE fun o S1 => RunX (insOk c m o) S1 QE fun _ S2 => RunX (mA r) S2 QE fun ds S3 => RunX (mf (o :: ds)) S3 QE Q := by unfold methM; simp only [run_bnd]
theorem run_insOk {QU : Unit → Sto → Prop} (h : S[n]? = some (.ins c fs)) (hl : fs.lookup m = none) : RunX (insOk c m (.ref n)) S QE QU ↔ QU () S := run_ok (by unfold insOk; simp only [h, hl, and_self, if_true])
theorem run_raise : RunX (raiseM c f ma r) S QE QF ↔ RunX (ma r) S QE fun d S1 => QE c [(f, d)] S1 := by
  cases e : ma r S with
  | ok d S1 => rw [run_ok e]; exact run_err (by unfold raiseM; simp only [e])
  | err c' fs' S' => rw [run_err e]; exact run_err (by unfold raiseM; simp only [e])
  | no => rw [run_nope e]; exact run_nope (by unfold raiseM; simp only [e])
theorem run_raise0 : RunX (raise0M c r) S QE QF ↔ QE c [] S := run_err rfl
theorem run_try {out : Bool} {n i : Nat} {ca : Nat → Option Bool} {body : Env → M Fl} {hd : Addr → Nat → Option Addr → Env → M Fl} (h : RunX (body r) S (fun c fs S1 => ca c = some true ∧ ∃ d S', HRun n i c fs S1 hd d S' ∧ QF (.rt d) S') QF) : RunX (tryM out n i ca body hd r) S QE QF := by
  cases e : body r S with
  | ok fl S1 =>
    rw [run_ok e] at h
    exact Run.of (tryM_ok e) h
  | err c fs S1 =>
    rw [run_err e] at h
    obtain ⟨hc, d, S', q, z⟩ := h
    exact Run.of (tryM_err e hc q) z
  | no => rw [run_nope e] at h; exact h.elim
/-- the handler's run, step by step -/
theorem hrun_of {n i c : Nat} {S' : Sto} {hd : Addr → Nat → Option Addr → Env → M Fl} (h : ∀ a x, Run (hd a c (ddOf fs x) ((List.replicate n none).set i (some (hSlot fs a x S.length)))) (hSto fs S) fun fl S2 => fl = .rt d ∧ S2 = S') : HRun n i c fs S hd d S' := fun a x => by
  obtain ⟨fl, S2, e, rfl, rfl⟩ := Run.ex (h a x)
  exact e
theorem run_lenO (h : S[n]? = some (.ins c fs)) (k : Run (mf [.ref n]) S fun d S' => ∃ i : Int, d = .int i ∧ (0 ≤ i ∧ i < 2 ^ 63) ∧ Q (.int i) S') : RunX (lenOD c mf [.ref n]) S QE Q := by
  obtain ⟨d, S', e, i, rfl, hi, q⟩ := Run.ex k
  refine Run.of (a := .int i) (S' := S') ?_ q
  unfold lenOD
  simp only [h, if_true, e, if_pos hi]
theorem run_eqO {g : Bool → Bool} (h : S[n]? = some (.ins c fs)) (hs : eqSide S c y = true) (k : Run (mf [.ref n, y]) S fun d S' => ∃ b, d = .bl b ∧ Q (.bl (g b)) S') : RunX (eqOD g c mf (.ref n) y) S QE Q := by
  obtain ⟨d, S', e, b, rfl, q⟩ := Run.ex k
  refine Run.of (a := .bl (g b)) (S' := S') ?_ q
  unfold eqOD
  simp only [h, hs, and_self, if_true, e]
theorem run_iso {an : Nat → Option Bool} : RunX (isoM an ma r) S QE Q ↔ RunX (ma r) S QE fun d S1 => RunX (isoD an d) S1 QE Q := by unfold isoM; exact run_bnd
theorem tyTn_ins (h : S[n]? = some (.ins c fs)) : tyTn S (.ref n) = none := by unfold tyTn; simp only [h]
theorem run_isoI {an : Nat → Option Bool} {b : Bool} (h : S[n]? = some (.ins c fs)) (ha : an c = some b) : RunX (isoD an (.ref n)) S QE Q ↔ Q (.bl b) S := run_ok (by unfold isoD; simp only [tyTn_ins h, h, ha])
theorem run_isoT {an : Nat → Option Bool} {t : Tn} (h : tyTn S d = some t) : RunX (isoD an d) S QE Q ↔ Q (.bl false) S := run_ok (by unfold isoD; simp only [h])
theorem eqSide_ins (h : S[n]? = some (.ins c fs)) : eqSide S c (.ref n) = true := by unfold eqSide; simp only [tyTn_ins h, h]; simp
theorem run_append {xs : List D} (h : S[n]? = some (.lst xs)) (hz : xs.length < sizeLine) : RunX (appendD (.ref n) [d]) S QE Q ↔ Q .non (S.set n (.lst (xs ++ [d]))) := run_ok (by unfold appendD; simp only [h, if_pos hz])
/-! len(set(xs)) -/
theorem run_lenSet : RunX (lenSetM ma r) S QE Q ↔ RunX (ma r) S QE fun d S1 => RunX (lenSetD d) S1 QE Q := by unfold lenSetM; exact run_bnd
theorem unStrs_map : ∀ ts : List Str, unStrs (ts.map D.str) = some ts
  | [] => rfl
  | t :: ts => by
    show (match unStrs (ts.map D.str) with
      | some l => some (t :: l)
      | none => none) = _
    rw [unStrs_map ts]
theorem run_lenSetD {ts : List Str} (h : S[n]? = some (.lst (ts.map D.str))) (hz : ts.length + 1 < scanBound) : RunX (lenSetD (.ref n)) S QE Q ↔ Q (.int (metS ts ts.length).length) S := run_ok (by
  unfold lenSetD seqL
  simp only [h, unStrs_map, if_pos hz])
theorem metS_nodup {ts : List Str} (h : ts.Nodup) : ∀ i, metS ts i = ts.take i
  | 0 => by simp [metS]
  | i + 1 => by
    by_cases hi : i < ts.length
    · rw [metS_succ hi, metS_nodup h i]
      have e : ts.getD i Str.empty = ts[i] := by simp [List.getD, List.getElem?_eq_getElem hi]
      rw [e]
      unfold addS
      rw [if_neg, List.take_succ, List.getElem?_eq_getElem hi]
      · rfl
      · intro z
        obtain ⟨y, hy, e2⟩ := List.any_eq_true.mp z
        obtain rfl : y = ts[i] := by simpa using e2
        obtain ⟨j, hj, e3⟩ := List.mem_take_iff_getElem.mp hy
        exact List.pairwise_iff_getElem.mp h j i (by omega) hi (by omega) e3
    · have e := metS_nodup h i
      unfold metS at e ⊢
      rw [List.take_of_length_le (show ts.length ≤ i + 1 by omega)]
      rw [List.take_of_length_le (show ts.length ≤ i by omega)] at e
      rw [e]
theorem metS_full {ts : List Str} (h : ts.Nodup) : (metS ts ts.length).length = ts.length := by rw [metS_nodup h, List.take_length]
/-! targets -/
theorem run_gTpN {i : Nat} {is : List Nat} {QN : Env → Sto → Prop} (h : ds.length = is.length) : RunX (gTpN i is (.tup [x, .tup ds]) r) S QE QN ↔ QN (setAll (r.set i (some x)) is ds) S := run_ok (by unfold gTpN; simp only [h, if_true]; rfl)
/-! enumerate -/
theorem run_itEnu {QI : ItD → Sto → Prop} : RunX (itEnu ma r) S QE QI ↔ RunX (ma r) S QE fun d S1 => RunX (match d with
  | .fl xs => pure (.enf xs)
  | .ref n => fun S => match S[n]? with
    | some (.lst _) => .ok (.enl n) S
    | _ => .no
  | _ => stuck : M ItD) S1 QE QI := by unfold itEnu; exact run_bnd
theorem run_itEnuL {xs : List D} {QI : ItD → Sto → Prop} (hn : S[n]? = some (.lst xs)) (h : QI (.enl n) S) : RunX (match D.ref n with
  | .fl xs => pure (.enf xs)
  | .ref n => fun S => match S[n]? with
    | some (.lst _) => .ok (.enl n) S
    | _ => .no
  | _ => stuck : M ItD) S QE QI := (run_ok (by simp only [hn])).mpr h
theorem size_enl {xs : List D} (h : S[n]? = some (.lst xs)) : ItD.size (.enl n) S = xs.length := by unfold ItD.size; simp only [h]
theorem for_enl {g : D → Env → M Env} {body : Env → M Fl} {xs : List D} (I : Nat → Env → Sto → Prop) (h0 : I 0 r S) (hl : ∀ i r S, I i r S → S[n]? = some (.lst xs)) (hs : ∀ i r S d, xs[i]? = some d → I i r S → RunX (g (.tup [.int (i : Nat), d]) r) S QE fun r1 S1 => RunX (body r1) S1 QE (onFor (I (i + 1)) QF)) (hd : ∀ r S, I xs.length r S → QF (.nx r) S) :
    RunX (forN g body (.enl n) (ItD.size (.enl n) S) 0 r) S QE QF := by
  rw [size_enl (hl 0 r S h0)]
  refine forN_rule (item := fun i => .tup [.int (i : Nat), xs.getD i .non]) I (fun i r S h => ?_) (fun i r S hi h => hs i r S _ ?_ h) hd xs.length 0 r S (by omega) h0
  · unfold ItD.at
    simp only [hl i r S h]
    rw [get_item]
    split <;> rfl
  · rw [get_item, if_pos hi]
/-! two fors -/
theorem run_lc2 {own own1 : List Nat} {mi mi1 : Env → M ItD} {g g1 : D → Env → M Env} {tst tst1 : Env → M Bool} {el : Env → M D} : RunX (lc2M own own1 mi g tst mi1 g1 tst1 el r) S QE Q ↔ RunX (mi r) S QE fun J S1 => RunX (compN2 g tst own1 mi1 g1 tst1 el J (wipeE r own) (J.size S1) 0 []) S1 QE fun acc S2 => Q (.ref S2.length) (S2 ++ [.lst acc]) := by
  unfold lc2M
  rw [run_bnd]
  have key : ∀ J S1, RunX ((fun S => compN2 g tst own1 mi1 g1 tst1 el J (wipeE r own) (J.size S) 0 [] S) >>= fun acc => newO (.lst acc)) S1 QE Q ↔ RunX (compN2 g tst own1 mi1 g1 tst1 el J (wipeE r own) (J.size S1) 0 []) S1 QE fun acc S2 => Q (.ref S2.length) (S2 ++ [.lst acc]) := fun J S1 => by
    rw [run_bnd]
    have e : ∀ QL : List D → Sto → Prop, RunX (fun S => compN2 g tst own1 mi1 g1 tst1 el J (wipeE r own) (J.size S) 0 [] S) S1 QE QL ↔ RunX (compN2 g tst own1 mi1 g1 tst1 el J (wipeE r own) (J.size S1) 0 []) S1 QE QL := fun QL => run_congr rfl
    rw [e]
    constructor
    · exact fun h => h.imp fun acc S2 q => run_newO.mp q
    · exact fun h => h.imp fun acc S2 q => run_newO.mpr q
  constructor
  · exact fun h => h.imp fun J S1 q => (key J S1).mp q
  · exact fun h => h.imp fun J S1 q => (key J S1).mpr q
theorem comp2_lst {own1 : List Nat} {mi1 : Env → M ItD} {g g1 : D → Env → M Env} {tst tst1 : Env → M Bool} {el : Env → M D} {r0 : Env} {xs : List D} {QL : List D → Sto → Prop} (I : Nat → List D → Sto → Prop) (hl : ∀ i acc S, I i acc S → S[n]? = some (.lst xs))
    (hs : ∀ i acc S d, xs[i]? = some d → I i acc S → RunX (g d r0) S QE fun r1 S1 => RunX (tst r1) S1 QE fun c S2 => if c = true then RunX (mi1 r1) S2 QE fun J1 S3 => RunX (compN g1 tst1 el J1 (wipeE r1 own1) (J1.size S3) 0 acc) S3 QE fun acc' S4 => I (i + 1) acc' S4 else I (i + 1) acc S2)
    (hd : ∀ acc S, I xs.length acc S → QL acc S) : ∀ (k i : Nat) (acc : List D) (S : Sto), i + k = xs.length → I i acc S → RunX (compN2 g tst own1 mi1 g1 tst1 el (.lst n) r0 k i acc) S QE QL
  | 0, i, acc, S, e, h => by
    have q : ItD.at (.lst n) i S = some none := by
      unfold ItD.at
      simp only [hl i acc S h]
      rw [List.getElem?_eq_none (by omega)]
    exact (run_ok (compN2_end q)).mpr (hd acc S (by rw [← e]; exact h))
  | k + 1, i, acc, S, e, h => by
    have hi : i < xs.length := by omega
    have q : ItD.at (.lst n) i S = some (some xs[i]) := by
      unfold ItD.at
      simp only [hl i acc S h, List.getElem?_eq_getElem hi]
    refine (run_congr (compN2_item q)).mpr ?_
    unfold comp2B
    rw [run_bnd]
    refine (hs i acc S xs[i] (List.getElem?_eq_getElem hi) h).imp fun r1 S1 k1 => ?_
    rw [run_bnd]
    refine k1.imp fun c S2 k2 => ?_
    cases c with
    | false =>
      rw [if_neg Bool.false_ne_true] at k2 ⊢
      exact comp2_lst I hl hs hd k (i + 1) acc S2 (by omega) k2
    | true =>
      rw [if_pos rfl] at k2 ⊢
      rw [run_bnd]
      refine k2.imp fun J1 S3 k3 => ?_
      rw [run_bnd]
      have sw : ∀ {QL' : List D → Sto → Prop}, RunX (compN g1 tst1 el J1 (wipeE r1 own1) (J1.size S3) 0 acc) S3 QE QL' → RunX (fun S => compN g1 tst1 el J1 (wipeE r1 own1) (J1.size S) 0 acc S) S3 QE QL' := fun q => ⟨q.out⟩
      refine sw ?_
      exact k3.imp fun acc' S4 k4 => comp2_lst I hl hs hd k (i + 1) acc' S4 (by omega) k4
end

/-! steps as data; the words for a step say yes; lists of data -/
open PySem PySem.Spec PyProof.Rows L2

theorem pth_pg {lo hi : Nat} {d : D} (hp : Pth lo hi d) (hh : hi ≤ 4) : Pz 1 1000 d := by
  obtain ⟨xs, rfl, h1, h2, h3⟩ := hp
  refine (pz_tup (h := 0) (b := 202) (n := 4) (fun d hd => ?_) (by omega)).mono (Nat.le_refl _) (by decide)
  obtain ⟨x, rfl, hx⟩ := h3 d hd
  exact ⟨_, fun S => pg_tx (tx2_nm hx)⟩
theorem said_pz {t : D} (h : Said t) : Pz 1 1000 t := by
  rcases h with ⟨x, rfl, hx⟩ | ⟨x, rfl, hx⟩
  · exact Pz.mono ⟨_, fun S => pg_tx hx⟩ (by decide) (by decide)
  · refine (pz_tup (h := 0) (b := 202) (n := 2) (fun d hd => ?_) (Nat.le_refl _)).mono (Nat.le_refl _) (by decide)
    rcases List.mem_cons.mp hd with rfl | hd
    · exact (pz_str (by decide +kernel)).mono (by decide) (by decide)
    · rw [List.mem_singleton.mp hd]
      exact ⟨_, fun S => pg_tx (tx2_nm hx)⟩
theorem rd1_pz {d : D} (h : Rd1 d) : Pz 2 2007 d := by
  have two : ∀ {w : Str} {e : D}, txOk w = true → Pz 1 1000 e → Pz 2 2007 (.tup [.str w, e]) := fun hw he => pz_tup (h := 1) (b := 1000) (n := 2) (fun d hd => by
    rcases List.mem_cons.mp hd with rfl | hd
    · exact (pz_str hw).mono (by decide) (by decide)
    · rw [List.mem_singleton.mp hd]; exact he) (Nat.le_refl _)
  rcases h with ⟨x, rfl, hx⟩ | ⟨x, rfl, hx⟩ | ⟨p, rfl, hp⟩
  · exact two (by decide +kernel) (Pz.mono ⟨_, fun S => pg_tx (tx2_nm hx)⟩ (by decide) (by decide))
  · exact two (by decide +kernel) (Pz.mono ⟨_, fun S => pg_tx hx⟩ (by decide) (by decide))
  · exact two (by decide +kernel) (pth_pg hp (by decide))
theorem stp_pz {d : D} (h : Stp d) : Pz 4 24131 d := by
  have key : ∀ {w : Str} {xs : List D}, txOk w = true → xs.length ≤ 3 → (∀ d ∈ xs, Pz 3 6030 d) → Pz 4 24131 (.tup (.str w :: xs)) := fun hw hl hx => pz_tup (h := 3) (b := 6030) (n := 4) (fun d hd => by
    rcases List.mem_cons.mp hd with rfl | hd
    · exact (pz_str hw).mono (by decide) (by decide)
    · exact hx d hd) (by simp; omega)
  have one : ∀ {a : D}, Pz 3 6030 a → ∀ d ∈ [a], Pz 3 6030 d := fun h d hd => by rw [List.mem_singleton.mp hd]; exact h
  have cons : ∀ {a : D} {l : List D}, Pz 3 6030 a → (∀ d ∈ l, Pz 3 6030 d) → ∀ d ∈ a :: l, Pz 3 6030 d := fun h k d hd => by
    rcases List.mem_cons.mp hd with rfl | hd
    · exact h
    · exact k d hd
  have pt : ∀ {lo : Nat} {p : D}, Pth lo 3 p → Pz 3 6030 p := fun hp => (pth_pg hp (by decide)).mono (by decide) (by decide)
  have sd : ∀ {t : D}, Said t → Pz 3 6030 t := fun ht => (said_pz ht).mono (by decide) (by decide)
  have it : ∀ {i : Int}, 0 ≤ i → i < 8 → Pz 3 6030 (.int i) := fun h0 h1 => (pz_int h0 (by omega)).mono (by decide) (by decide)
  have nm : ∀ {c : Str}, nmOk c = true → Pz 3 6030 (.str c) := fun hc => Pz.mono ⟨_, fun S => pg_tx (tx2_nm hc)⟩ (by decide) (by decide)
  cases h with
  | write hp ht h0 h1 => exact key (by decide +kernel) (Nat.le_of_ble_eq_true rfl) (cons (pt hp) (cons (sd ht) (one (it h0 h1))))
  | link hp ht => exact key (by decide +kernel) (Nat.le_of_ble_eq_true rfl) (cons (pt hp) (one (sd ht)))
  | folder hp h0 h1 => exact key (by decide +kernel) (Nat.le_of_ble_eq_true rfl) (cons (pt hp) (one (it h0 h1)))
  | delete hp => exact key (by decide +kernel) (Nat.le_of_ble_eq_true rfl) (one (pt hp))
  | clear hp => exact key (by decide +kernel) (Nat.le_of_ble_eq_true rfl) (one (pt hp))
  | rights hp h0 h1 => exact key (by decide +kernel) (Nat.le_of_ble_eq_true rfl) (cons (pt hp) (one (it h0 h1)))
  | run hc hl hr hp => exact key (by decide +kernel) (Nat.le_of_ble_eq_true rfl) (cons (nm hc) (cons (pz_tup (h := 2) (b := 2007) (n := 3) (fun d hd => rd1_pz (hr d hd)) hl) (one (pt hp))))
  | copy hc hp hq => exact key (by decide +kernel) (Nat.le_of_ble_eq_true rfl) (cons (nm hc) (cons (pt hp) (one (pt hq))))
section
variable {b0 : Nat → Prop} {S : Sto} {h b : Nat} {d : D} {p : PyData} {Q : D → Sto → Prop}
theorem gd_tx {x : Str} (hx : tx2 x = true) : Gd b0 S 0 202 (.str x) (.str x) := by
  unfold tx2 at hx
  rw [Bool.and_eq_true] at hx
  have := of_decide_eq_true hx.2
  exact .str hx.1 (by omega)
theorem gd_nm {x : Str} (hx : nmOk x = true) : ∃ p, Gd b0 S 0 202 (.str x) p := ⟨_, gd_tx (tx2_nm hx)⟩
theorem gd_w {x : Str} (hx : txOk x = true) : ∃ p, Gd b0 S 0 202 (.str x) p := ⟨_, gd_tx (tx2_of hx)⟩
theorem gd_l {ds : List D} (n : Nat) (hl : ds.length ≤ n) (k : ∀ d ∈ ds, ∃ p, Gd b0 S h b d p) : ∃ p, Gd b0 S (h + 1) (n * (b + 2) + 3) (.tup ds) p := by
  obtain ⟨ps, g⟩ := gda_of k
  exact ⟨_, .tup g (Nat.add_le_add_right (Nat.mul_le_mul_right _ hl) 3)⟩
theorem gd_pth {lo hi : Nat} (hp : Pth lo hi d) (hh : hi ≤ 4) : ∃ p, Gd b0 S 1 819 d p := by
  obtain ⟨xs, rfl, h1, h2, h3⟩ := hp
  refine gd_l (h := 0) (b := 202) (ds := xs) 4 (by omega) fun d hd => ?_
  obtain ⟨x, rfl, hx⟩ := h3 d hd
  exact gd_nm hx
theorem gd_up {h' b' : Nat} (g : ∃ p, Gd b0 S h b d p) (h1 : h ≤ h') (h2 : b ≤ b') : ∃ p, Gd b0 S h' b' d p := let ⟨p, k⟩ := g; ⟨p, k.mono h1 h2⟩
theorem gd_arg (hd : Arg d) : ∃ p, Gd b0 S 1 819 d p := by
  obtain ⟨x, rfl, hx⟩ := hd
  refine gd_up (gd_l (h := 0) (b := 202) 2 (Nat.le_of_ble_eq_true rfl) fun d hd => ?_) (by decide) (by decide)
  simp only [List.mem_cons, List.not_mem_nil, or_false] at hd
  rcases hd with rfl | rfl
  · exact gd_w (by decide +kernel)
  · exact gd_nm hx
theorem gd_said (hd : Said d) : ∃ p, Gd b0 S 1 819 d p := by
  rcases hd with ⟨x, rfl, hx⟩ | hd
  · exact ⟨_, (gd_tx hx).mono (by decide) (by decide)⟩
  · exact gd_arg hd
theorem gd_int {i : Int} (h0 : 0 ≤ i) (h1 : i < 8) : ∃ p, Gd b0 S 0 18 (.int i) p := by
  have g := pg_int (S := S) h0 (show i < 10 ^ 18 by omega)
  exact ⟨_, .int g.sh g.len⟩
theorem gd_rd (hd : Rd1 d) : ∃ p, Gd b0 S 2 1645 d p := by
  rcases hd with hd | ⟨x, rfl, hx⟩ | ⟨q, rfl, hq⟩
  · exact gd_up (gd_arg hd) (by decide) (by decide)
  · refine gd_up (gd_l (h := 0) (b := 202) 2 (Nat.le_of_ble_eq_true rfl) fun d hd => ?_) (by decide) (by decide)
    simp only [List.mem_cons, List.not_mem_nil, or_false] at hd
    rcases hd with rfl | rfl
    · exact gd_w (by decide +kernel)
    · exact ⟨_, gd_tx hx⟩
  · refine gd_up (gd_l (h := 1) (b := 819) 2 (Nat.le_of_ble_eq_true rfl) fun d hd => ?_) (by decide) (by decide)
    simp only [List.mem_cons, List.not_mem_nil, or_false] at hd
    rcases hd with rfl | rfl
    · exact gd_up (gd_w (by decide +kernel)) (by decide) (by decide)
    · exact gd_pth hq (by decide)
theorem gd_4 {ds : List D} (hl : ds.length ≤ 4) (k : ∀ d ∈ ds, ∃ p, Gd b0 S 3 4944 d p) : ∃ p, Gd b0 S 4 20000 (.tup ds) p := gd_up (gd_l 4 hl k) (by decide) (by decide)
theorem stp_gd (hd : Stp d) : ∃ p, Gd b0 S 4 20000 d p := by
  have W : ∀ x : Str, txOk x = true → ∃ p, Gd b0 S 3 4944 (.str x) p := fun x hx => gd_up (gd_w hx) (by decide) (by decide)
  have N : ∀ x : Str, nmOk x = true → ∃ p, Gd b0 S 3 4944 (.str x) p := fun x hx => gd_up (gd_nm hx) (by decide) (by decide)
  have P : ∀ {lo hi : Nat} {d : D}, Pth lo hi d → hi ≤ 4 → ∃ p, Gd b0 S 3 4944 d p := fun hp hh => gd_up (gd_pth hp hh) (by decide) (by decide)
  have T : ∀ {d : D}, Said d → ∃ p, Gd b0 S 3 4944 d p := fun hp => gd_up (gd_said hp) (by decide) (by decide)
  have I : ∀ {i : Int}, 0 ≤ i → i < 8 → ∃ p, Gd b0 S 3 4944 (.int i) p := fun h0 h1 => gd_up (gd_int h0 h1) (by decide) (by decide)
  cases hd with
  | write hp ht h0 h1 =>
    refine gd_4 (Nat.le_of_ble_eq_true rfl) fun d hd => ?_
    simp only [List.mem_cons, List.not_mem_nil, or_false] at hd
    rcases hd with rfl | rfl | rfl | rfl
    · exact W _ (by decide +kernel)
    · exact P hp (by decide)
    · exact T ht
    · exact I h0 h1
  | folder hp h0 h1 =>
    refine gd_4 (Nat.le_of_ble_eq_true rfl) fun d hd => ?_
    simp only [List.mem_cons, List.not_mem_nil, or_false] at hd
    rcases hd with rfl | rfl | rfl
    · exact W _ (by decide +kernel)
    · exact P hp (by decide)
    · exact I h0 h1
  | link hp ht =>
    refine gd_4 (Nat.le_of_ble_eq_true rfl) fun d hd => ?_
    simp only [List.mem_cons, List.not_mem_nil, or_false] at hd
    rcases hd with rfl | rfl | rfl
    · exact W _ (by decide +kernel)
    · exact P hp (by decide)
    · exact T ht
  | delete hp =>
    refine gd_4 (Nat.le_of_ble_eq_true rfl) fun d hd => ?_
    simp only [List.mem_cons, List.not_mem_nil, or_false] at hd
    rcases hd with rfl | rfl
    · exact W _ (by decide +kernel)
    · exact P hp (by decide)
  | clear hp =>
    refine gd_4 (Nat.le_of_ble_eq_true rfl) fun d hd => ?_
    simp only [List.mem_cons, List.not_mem_nil, or_false] at hd
    rcases hd with rfl | rfl
    · exact W _ (by decide +kernel)
    · exact P hp (by decide)
  | rights hp h0 h1 =>
    refine gd_4 (Nat.le_of_ble_eq_true rfl) fun d hd => ?_
    simp only [List.mem_cons, List.not_mem_nil, or_false] at hd
    rcases hd with rfl | rfl | rfl
    · exact W _ (by decide +kernel)
    · exact P hp (by decide)
    · exact I h0 h1
  | run hc hl hr hp =>
    refine gd_4 (Nat.le_of_ble_eq_true rfl) fun d hd => ?_
    simp only [List.mem_cons, List.not_mem_nil, or_false] at hd
    rcases hd with rfl | rfl | rfl | rfl
    · exact W _ (by decide +kernel)
    · exact N _ hc
    · exact gd_up (gd_l (h := 2) (b := 1645) 3 hl fun d hd => gd_rd (hr d hd)) (by decide) (by decide)
    · exact P hp (by decide)
  | copy hc hp hq =>
    refine gd_4 (Nat.le_of_ble_eq_true rfl) fun d hd => ?_
    simp only [List.mem_cons, List.not_mem_nil, or_false] at hd
    rcases hd with rfl | rfl | rfl | rfl
    · exact W _ (by decide +kernel)
    · exact N _ hc
    · exact P hp (by decide)
    · exact P hq (by decide)
end
/-! ### the word for a step says yes -/
theorem nmB {x : Str} (h : nmOk x = true) : nameB (.str x) = true := h
theorem pth_short {lo hi lo' hi' : Nat} {d : D} (h : Pth lo hi d) (h1 : lo' ≤ lo) (h2 : hi ≤ hi') : shortB lo' hi' d = true := by
  obtain ⟨xs, rfl, a, c, k⟩ := h
  show (decide (lo' ≤ xs.length) && decide (xs.length ≤ hi') && xs.all nameB) = true
  rw [decide_eq_true (show lo' ≤ xs.length by omega), decide_eq_true (show xs.length ≤ hi' by omega)]
  refine List.all_eq_true.mpr fun d hd => ?_
  obtain ⟨x, rfl, hx⟩ := k d hd
  exact hx
theorem arg_B {d : D} (h : Arg d) : argB d = true := by
  obtain ⟨x, rfl, hx⟩ := h
  show (wordB "arg" (.str "arg") && nameB (.str x)) = true
  rw [nmB hx]
  rfl
theorem said_B {d : D} (h : Said d) : toldB d = true := by
  unfold toldB
  rcases h with ⟨x, rfl, hx⟩ | h
  · unfold tx2 at hx
    rw [Bool.and_eq_true] at hx
    show (decide (x.length ≤ 20) || _) = true
    rw [hx.2]
    rfl
  · rw [arg_B h, Bool.or_true]
theorem rd1_B {d : D} (h : Rd1 d) : readB d = true := by
  rcases h with h | ⟨x, rfl, hx⟩ | ⟨q, rfl, hq⟩
  · have h' := arg_B h
    obtain ⟨x, rfl, hx⟩ := h
    exact h'
  · unfold tx2 at hx
    rw [Bool.and_eq_true] at hx
    show textB' (.str x) = true
    exact hx.2
  · show shortB 1 4 q = true
    exact pth_short hq (by decide) (by decide)
theorem rights_B {i : Int} (h0 : 0 ≤ i) (h1 : i < 8) : rightsB' (.int i) = true := by
  show (decide (0 ≤ i) && decide (i ≤ 7)) = true
  rw [decide_eq_true h0, decide_eq_true (show i ≤ 7 by omega)]
  rfl
theorem stp_B {d : D} (h : Stp d) : stepB' d = true := by
  cases h with
  | write hp ht h0 h1 =>
    show (shortB 1 4 _ && (toldB _ && rightsB' _)) = true
    rw [pth_short hp (by decide) (by decide), said_B ht, rights_B h0 h1]
    rfl
  | folder hp h0 h1 =>
    show (shortB 1 4 _ && rightsB' _) = true
    rw [pth_short hp (by decide) (by decide), rights_B h0 h1]
    rfl
  | link hp ht =>
    show (shortB 1 4 _ && toldB _) = true
    rw [pth_short hp (by decide) (by decide), said_B ht]
    rfl
  | delete hp => exact pth_short hp (by decide) (by decide)
  | clear hp => exact pth_short hp (by decide) (by decide)
  | rights hp h0 h1 =>
    show (shortB 1 4 _ && rightsB' _) = true
    rw [pth_short hp (by decide) (by decide), rights_B h0 h1]
    rfl
  | @run c rs p hc hl hr hp =>
    show (nameB (.str c) && ((decide (rs.length ≤ 3) && rs.all readB) && shortB 1 4 p)) = true
    rw [nmB hc, decide_eq_true hl, pth_short hp (by decide) (by decide), List.all_eq_true.mpr fun d hd => rd1_B (hr d hd)]
    rfl
  | copy hc hp hq =>
    show (nameB _ && (shortB 0 4 _ && shortB 0 4 _)) = true
    rw [nmB hc, pth_short hp (by decide) (by decide), pth_short hq (by decide) (by decide)]
    rfl
theorem isStep_yes {S : Sto} {d : D} {Q : D → Sto → Prop} (h : Stp d) (k : ∀ S', Gw S S' → Q (.bl true) S') : Run (isStepM [d]) S Q := by
  obtain ⟨p, g⟩ := stp_gd (b0 := fun _ => False) (S := S) h
  refine isStep_any g (by decide) fun S' g' => ?_
  rw [stp_B h]
  exact k S' g'
theorem isName_yes {S : Sto} {x : Str} {Q : D → Sto → Prop} (h : nmOk x = true) (k : ∀ S', Gw S S' → Q (.bl true) S') : Run (isNameM [.str x]) S Q := by
  obtain ⟨p, g⟩ := gd_nm (b0 := fun _ => False) (S := S) h
  refine isName_any g (by decide) fun S' g' => ?_
  rw [nmB h]
  exact k S' g'
/-! ### comprehensions over a list that stays -/
section
variable {S : Sto} {QE : QX} {g : D → Env → M Env} {tst : Env → M Bool} {el : Env → M D} {r0 : Env} {n : Nat} {xs : List D} {QL : List D → Sto → Prop}
theorem comp_pair {P : Nat → D → D → Sto → Prop} (st : ∀ i d y S1 S2, Gw S1 S2 → P i d y S1 → P i d y S2) (hn : S[n]? = some (.lst xs)) (hz : xs.length ≤ 1000)
    (hs : ∀ i d S1, xs[i]? = some d → Gw S S1 → RunX (g d r0) S1 QE fun r1 S2 => RunX (tst r1) S2 QE fun c S3 => c = true ∧ RunX (el r1) S3 QE fun y S4 => Gw S1 S4 ∧ P i d y S4)
    (hd : ∀ acc S', Gw S S' → acc.length = xs.length → (∀ i d y, xs[i]? = some d → acc[i]? = some y → P i d y S') → QL acc S') : RunX (compN g tst el (.lst n) r0 (ItD.size (.lst n) S) 0 []) S QE QL := by
  refine comp_lstS (fun i acc S' => Gw S S' ∧ acc.length = i ∧ i ≤ xs.length ∧ ∀ j d y, xs[j]? = some d → acc[j]? = some y → P j d y S') ⟨Gw.refl, rfl, Nat.zero_le _, fun j d y _ z => by simp at z⟩ (fun i acc S' z => z.1.get hn) (fun i acc S1 d h ⟨gw, hl, hi, k⟩ => ?_) (fun acc S' ⟨gw, hl, hi, k⟩ => hd acc S' gw hl k)
  have hi2 := (List.getElem?_eq_some_iff.mp h).1
  refine (hs i d S1 h gw).imp fun r1 S2 h2 => h2.imp fun c S3 ⟨hc, h3⟩ => ?_
  rw [if_pos hc]
  refine h3.imp fun y S4 ⟨g4, p4⟩ => ⟨small_len (by omega), gw.trans g4, by simp [hl], hi2, fun j d' y' e1 e2 => ?_⟩
  by_cases hj : j < acc.length
  · rw [List.getElem?_append_left hj] at e2
    exact st _ _ _ S1 S4 g4 (k j d' y' e1 e2)
  · rw [List.getElem?_append_right (by omega)] at e2
    have e3 : j = i := by
      have := (List.getElem?_eq_some_iff.mp e2).1
      simp at this
      omega
    subst e3
    rw [h] at e1
    cases e1
    have e4 : y = y' := by
      rw [hl] at e2
      simpa using e2
    subst e4
    exact p4
theorem comp_filter {p : D → Bool} {f : D → D} (hn : S[n]? = some (.lst xs)) (hz : xs.length ≤ 1000)
    (hs : ∀ d S1, d ∈ xs → Gw S S1 → RunX (g d r0) S1 QE fun r1 S2 => RunX (tst r1) S2 QE fun c S3 => c = p d ∧ Gw S1 S3 ∧ (p d = true → RunX (el r1) S3 QE fun y S4 => Gw S1 S4 ∧ y = f d))
    (hd : ∀ S', Gw S S' → QL ((xs.filter p).map f) S') : RunX (compN g tst el (.lst n) r0 (ItD.size (.lst n) S) 0 []) S QE QL := by
  refine comp_lstS (fun i acc S' => Gw S S' ∧ i ≤ xs.length ∧ acc = ((xs.take i).filter p).map f) ⟨Gw.refl, Nat.zero_le _, by simp⟩ (fun i acc S' z => z.1.get hn) (fun i acc S1 d h ⟨gw, hi, ea⟩ => ?_) (fun acc S' ⟨gw, hi, ea⟩ => ?_)
  · have hi2 := (List.getElem?_eq_some_iff.mp h).1
    refine (hs d S1 (List.mem_of_getElem? h) gw).imp fun r1 S2 h2 => h2.imp fun c S3 ⟨hc, g3, h3⟩ => ?_
    have et : xs.take (i + 1) = xs.take i ++ [d] := by rw [List.take_succ, h]; rfl
    have hl : acc.length ≤ i := by
      rw [ea, List.length_map]
      refine Nat.le_trans (List.length_filter_le _ _) ?_
      rw [List.length_take]
      omega
    subst hc
    cases hp : p d with
    | true =>
      rw [if_pos rfl]
      refine (h3 hp).imp fun y S4 ⟨g4, e4⟩ => ⟨small_len (by omega), gw.trans g4, hi2, ?_⟩
      rw [et, List.filter_append, List.map_append, ea, e4]
      simp [hp]
    | false =>
      rw [if_neg Bool.false_ne_true]
      refine ⟨gw.trans g3, hi2, ?_⟩
      rw [et, List.filter_append, List.map_append, ea]
      simp [hp]
  · rw [List.take_length] at ea
    rw [ea]
    exact hd S' gw
/-- a filter over a tuple -/
theorem comp_filterT {p : D → Bool} {f : D → D} (hz : xs.length ≤ 1000)
    (hs : ∀ d S1, d ∈ xs → Gw S S1 → RunX (g d r0) S1 QE fun r1 S2 => RunX (tst r1) S2 QE fun c S3 => c = p d ∧ Gw S1 S3 ∧ (p d = true → RunX (el r1) S3 QE fun y S4 => Gw S1 S4 ∧ y = f d))
    (hd : ∀ S', Gw S S' → QL ((xs.filter p).map f) S') : RunX (compN g tst el (.tup xs) r0 xs.length 0 []) S QE QL := by
  refine comp_tup (fun i acc S' => Gw S S' ∧ i ≤ xs.length ∧ acc = ((xs.take i).filter p).map f) ⟨Gw.refl, Nat.zero_le _, by simp⟩ (fun i acc S1 d h ⟨gw, hi, ea⟩ => ?_) (fun acc S' ⟨gw, hi, ea⟩ => ?_)
  · have hi2 := (List.getElem?_eq_some_iff.mp h).1
    refine (hs d S1 (List.mem_of_getElem? h) gw).imp fun r1 S2 h2 => h2.imp fun c S3 ⟨hc, g3, h3⟩ => ?_
    have et : xs.take (i + 1) = xs.take i ++ [d] := by rw [List.take_succ, h]; rfl
    have hl : acc.length ≤ i := by
      rw [ea, List.length_map]
      refine Nat.le_trans (List.length_filter_le _ _) ?_
      rw [List.length_take]
      omega
    subst hc
    cases hp : p d with
    | true =>
      rw [if_pos rfl]
      refine (h3 hp).imp fun y S4 ⟨g4, e4⟩ => ⟨small_len (by omega), gw.trans g4, hi2, ?_⟩
      rw [et, List.filter_append, List.map_append, ea, e4]
      simp [hp]
    | false =>
      rw [if_neg Bool.false_ne_true]
      refine ⟨gw.trans g3, hi2, ?_⟩
      rw [et, List.filter_append, List.map_append, ea]
      simp [hp]
  · rw [List.take_length] at ea
    rw [ea]
    exact hd S' gw
/-- all(..) of what says yes -/
theorem comp_yes (hn : S[n]? = some (.lst xs)) (hz : xs.length ≤ 1000)
    (hs : ∀ d S1, d ∈ xs → Gw S S1 → RunX (g d r0) S1 QE fun r1 S2 => RunX (tst r1) S2 QE fun c S3 => c = true ∧ Gw S1 S3 ∧ RunX (el r1) S3 QE fun y S4 => Gw S1 S4 ∧ y = .bl true)
    (hd : ∀ S', Gw S S' → QL (List.replicate xs.length (D.bl true)) S') : RunX (compN g tst el (.lst n) r0 (ItD.size (.lst n) S) 0 []) S QE QL := by
  refine comp_filter (p := fun _ => true) (f := fun _ => .bl true) hn hz (fun d S1 hd g1 => (hs d S1 hd g1).imp fun r1 S2 h2 => h2.imp fun c S3 ⟨a, b, c⟩ => ⟨a, b, fun _ => c⟩) fun S' g' => ?_
  have e : (xs.filter fun _ => true).map (fun _ => D.bl true) = List.replicate xs.length (D.bl true) := by
    rw [List.filter_eq_self.mpr fun _ _ => rfl]
    exact List.map_const
  rw [e]
  exact hd S' g'
end
theorem run_allT {S : Sto} {Q : D → Sto → Prop} {QE : QX} {n k : Nat} (h : S[n]? = some (.lst (List.replicate k (D.bl true)))) : RunX (allD [.ref n]) S QE Q ↔ Q (.bl true) S := by
  have e : List.replicate k (D.bl true) = (List.replicate k true).map D.bl := by simp
  rw [e] at h
  rw [run_allB h]
  simp
/-! ### texts in a list of texts -/
theorem pga_strs {S : Sto} : ∀ {ts : List Str}, (∀ t ∈ ts, tx2 t = true) → PgA S 0 202 (ts.map D.str) (ts.map PyData.str)
  | [], _ => pga_nil
  | t :: ts, h => pga_cons (pg_tx (h t List.mem_cons_self)) (pga_strs fun x hx => h x (List.mem_cons_of_mem _ hx))
theorem run_memStrs {S : Sto} {Q : D → Sto → Prop} {QE : QX} {n : Nat} {ts : List Str} {x : Str} (h : S[n]? = some (.lst (ts.map D.str))) (ht : ∀ t ∈ ts, tx2 t = true) (hx : tx2 x = true) : RunX (memD (.str x) (.ref n)) S QE Q ↔ Q (.bl (ts.any (· == x))) S := by
  unfold memD
  refine run_ofB ?_
  show inB S (.str x) (.ref n) = _
  rw [inB_pgL (pg_tx hx) (pg_lst h (pga_strs ht)) (by decide) (by decide), List.any_map]
  rfl

/-! more runs on lists -/
open PySem PySem.Spec PyProof.Rows L2

theorem at0 {a : D} {l : List D} : atI (a :: l) 0 = some a := by
  unfold atI ixN
  rw [if_pos (by decide), if_pos (by first | (simp; done) | (simp; omega))]
  rfl
theorem at1 {a b : D} {l : List D} : atI (a :: b :: l) 1 = some b := by
  unfold atI ixN
  rw [if_pos (by decide), if_pos (by first | (simp; done) | (simp; omega))]
  rfl
section
variable {S : Sto} {QE : QX} {Q : D → Sto → Prop} {g : D → Env → M Env} {tst : Env → M Bool} {el : Env → M D} {r0 : Env} {n : Nat} {xs : List D} {QL : List D → Sto → Prop}
/-- a filter that goes on from what is there -/
theorem comp_filterA {acc0 : List D} {p : D → Bool} {f : D → D} (hn : S[n]? = some (.lst xs)) (hz : acc0.length + xs.length ≤ 1000)
    (hs : ∀ d S1, d ∈ xs → Gw S S1 → RunX (g d r0) S1 QE fun r1 S2 => RunX (tst r1) S2 QE fun c S3 => c = p d ∧ Gw S1 S3 ∧ (p d = true → RunX (el r1) S3 QE fun y S4 => Gw S1 S4 ∧ y = f d))
    (hd : ∀ S', Gw S S' → QL (acc0 ++ (xs.filter p).map f) S') : RunX (compN g tst el (.lst n) r0 (ItD.size (.lst n) S) 0 acc0) S QE QL := by
  rw [size_lst hn]
  refine compN_rule (item := fun i => xs.getD i .non) (len := xs.length) (fun i acc S' => Gw S S' ∧ i ≤ xs.length ∧ acc = acc0 ++ ((xs.take i).filter p).map f) (fun i acc S' h => ?_) (fun i acc S1 hi ⟨gw, _, ea⟩ => ?_) (fun acc S' ⟨gw, hi, ea⟩ => ?_) xs.length 0 acc0 S (by omega) ⟨Gw.refl, Nat.zero_le _, by simp⟩
  · unfold ItD.at
    simp only [h.1.get hn]
    rw [get_item]
  · have h : xs[i]? = some (xs.getD i .non) := by rw [get_item, if_pos hi]
    generalize xs.getD i .non = d at h
    refine (hs d S1 (List.mem_of_getElem? h) gw).imp fun r1 S2 h2 => h2.imp fun c S3 ⟨hc, g3, h3⟩ => ?_
    have et : xs.take (i + 1) = xs.take i ++ [d] := by rw [List.take_succ, h]; rfl
    have hl : acc.length ≤ acc0.length + i := by
      rw [ea, List.length_append, List.length_map]
      have := List.length_filter_le p (xs.take i)
      rw [List.length_take] at this
      omega
    subst hc
    cases hp : p d with
    | true =>
      rw [if_pos rfl]
      refine (h3 hp).imp fun y S4 ⟨g4, e4⟩ => ⟨small_len (by omega), gw.trans g4, hi, ?_⟩
      rw [et, List.filter_append, List.map_append, ea, e4]
      simp [hp]
    | false =>
      rw [if_neg Bool.false_ne_true]
      refine ⟨gw.trans g3, hi, ?_⟩
      rw [et, List.filter_append, List.map_append, ea]
      simp [hp]
  · rw [List.take_length] at ea
    rw [ea]
    exact hd S' gw
theorem run_listL (h : S[n]? = some (.lst xs)) : RunX (listD [.ref n]) S QE Q ↔ Q (.ref S.length) (S ++ [.lst xs]) := by
  refine run_ok ?_
  unfold listD seqL
  simp only [h]
  rfl
theorem run_listT : RunX (listD [.tup xs]) S QE Q ↔ Q (.ref S.length) (S ++ [.lst xs]) := run_newO
theorem at_last {xs : List D} {a : D} : atI (xs ++ [a]) (-1) = some a := by
  unfold atI ixN
  rw [if_neg (by decide), if_pos (by simp; omega)]
  have e : ((((xs ++ [a]).length : Nat) : Int) + -1).toNat = xs.length := by simp; omega
  show (xs ++ [a])[((((xs ++ [a]).length : Nat) : Int) + -1).toNat]? = _
  rw [e, List.getElem?_append_right (Nat.le_refl _)]
  simp
theorem at_nat {xs : List D} {i : Nat} {a : D} (h : xs[i]? = some a) : atI xs (i : Int) = some a := by
  have hi := (List.getElem?_eq_some_iff.mp h).1
  unfold atI ixN
  rw [if_pos (by omega), if_pos (by omega)]
  show xs[((i : Int)).toNat]? = _
  rw [Int.toNat_natCast]
  exact h
theorem ixN_nat {i k : Nat} (h : i < k) : ixN k (i : Int) = some i := by
  unfold ixN
  rw [if_pos (by omega), if_pos (by omega), Int.toNat_natCast]
theorem cut_but {α : Type} {xs : List α} {a : α} : cutL (xs ++ [a]) none (some (-1)) = xs := by
  unfold cutL HT.sIx
  simp
  rw [show (-1 + ((xs.length : Int) + 1)).toNat = xs.length by omega]
  simp
theorem findIdx_map {α : Type} (p : α → Bool) (l : List α) (i : Nat) (a : α) (h : l[i]? = some a) (hp : p a = true) (hn : ∀ (j : Nat) (c : α), j < i → l[j]? = some c → p c = false) : l.findIdx? p = some i := by
  rw [List.findIdx?_eq_some_iff_getElem]
  have hi := (List.getElem?_eq_some_iff.mp h).1
  refine ⟨hi, ?_, fun j hj => ?_⟩
  · rw [(List.getElem?_eq_some_iff.mp h).2]
    exact hp
  · have := hn j l[j] hj (List.getElem?_eq_getElem (by omega))
    rw [this]
    decide
/-- the place of a text among different ones -/
theorem run_indexS {ts : List Str} {i : Nat} {x : Str} (h : S[n]? = some (.lst (ts.map D.str))) (ht : ∀ t ∈ ts, tx2 t = true) (nd : ts.Nodup) (hx : ts[i]? = some x) : RunX (indexD (.ref n) [.str x]) S QE Q ↔ Q (.int i) S := by
  have gx := pg_tx (S := S) (ht x (List.mem_of_getElem? hx))
  have gl := pg_lst h (pga_strs ht)
  refine run_ok ?_
  unfold indexD
  simp only [gx.py deep (by unfold deep; omega), gl.py deep (by unfold deep; omega)]
  rw [if_pos ⟨gl.shaped (by decide), gx.shaped (by decide)⟩]
  have e : (ts.map PyData.str).findIdx? (fun z => PyData.eqv z (.str x)) = some i := by
    refine findIdx_map _ _ i (.str x) (by rw [List.getElem?_map, hx]; rfl) (by simp [PyData.eqv]) fun j c hj hc => ?_
    rw [List.getElem?_map] at hc
    obtain ⟨y, hy, rfl⟩ := Option.map_eq_some_iff.mp hc
    have ne : y ≠ x := fun z => by
      subst z
      have a := List.getElem?_eq_some_iff.mp hy
      have b := List.getElem?_eq_some_iff.mp hx
      exact List.pairwise_iff_getElem.mp nd j i a.1 b.1 hj (a.2.trans b.2.symm)
    simp [PyData.eqv, ne]
  rw [e]
/-! truths counted -/
theorem pg_bl {c : Bool} : Pg S 0 5 (.bl c) (.bool c) := ⟨fun n _ => by cases n <;> rfl, rfl, rfl, by simp [PyData.depth], by cases c <;> exact Nat.le_of_ble_eq_true rfl⟩
theorem pga_bls : ∀ {bs : List Bool}, PgA S 0 5 (bs.map D.bl) (bs.map PyData.bool)
  | [] => pga_nil
  | b :: bs => pga_cons pg_bl pga_bls
theorem run_countB {bs : List Bool} (h : S[n]? = some (.lst (bs.map D.bl))) : RunX (countD (.ref n) [.bl true]) S QE Q ↔ Q (.int (bs.countP id : Nat)) S := by
  have gl := pg_lst h pga_bls
  refine run_ok ?_
  have e1 : toPy S deep (.bl true) = some (.bool true) := by unfold deep; rfl
  have e2 : PyData.plainAll (bs.map PyData.bool) = true := by
    clear h gl
    induction bs with
    | nil => rfl
    | cons b bs ih => simp [PyData.plainAll, PyData.plain, ih]
  have e3 : (bs.map PyData.bool).countP (fun z => PyData.eqv z (.bool true)) = bs.countP id := by
    rw [List.countP_map]
    congr 1
    funext b
    cases b <;> simp [PyData.eqv]
  unfold countD
  simp only [gl.py deep (by unfold deep; omega), e1, e2, e3]
  rfl
/-! a number among two -/
theorem run_nin2 {i a b : Int} (hi : 0 ≤ i ∧ i < 10 ^ 18) (ha : 0 ≤ a ∧ a < 10 ^ 18) (hb : 0 ≤ b ∧ b < 10 ^ 18) : RunX (nmemD (.int i) (.tup [.int a, .int b])) S QE Q ↔ Q (.bl (!(a == i || b == i))) S := by
  unfold nmemD
  refine run_ofB ?_
  show (inB S (.int i) (.tup [.int a, .int b])).map (!·) = _
  rw [inB_pgT (pg_int hi.1 hi.2) (pg_tup (pga_cons (pg_int ha.1 ha.2) (pga_cons (pg_int hb.1 hb.2) pga_nil))) (by decide) (by decide)]
  simp [PyData.eqv]
/-! the handled exception -/
theorem run_isxA {an : Nat → Option Bool} {a : Addr} {dd : Option Addr} {c : Nat} {ma : Env → M D} {r : Env} : RunX (isxAM a dd c an ma r) S QE Q ↔ RunX (ma r) S QE fun d S1 => RunX (isxA a dd c an d) S1 QE Q := by unfold isxAM; exact run_bnd
theorem run_isxAD {an : Nat → Option Bool} {a x : Addr} {c : Nat} {b : Bool} {k : Nat} (h : an c = some b) : RunX (isxA a (some x) c an (.exc a (some k) (some x))) S QE Q ↔ Q (.bl b) S := run_ok (by
  unfold isxA
  simp only [h]
  rw [if_pos ⟨trivial, trivial, fun _ => rfl⟩])
theorem run_isxA0 {an : Nat → Option Bool} {a : Addr} {c : Nat} {b : Bool} (h : an c = some b) : RunX (isxA a none c an (.exc a none none)) S QE Q ↔ Q (.bl b) S := run_ok (by
  unfold isxA
  simp only [h]
  rw [if_pos ⟨trivial, trivial, fun z => by cases z⟩])
theorem run_xfA {a : Addr} {dd : Option Addr} {c : Nat} {cs : List Nat} {f : Str} {ma : Env → M D} {r : Env} : RunX (xfldAM a dd c cs f ma r) S QE Q ↔ RunX (ma r) S QE fun d S1 => RunX (xfldA a dd c cs f d) S1 QE Q := by unfold xfldAM; exact run_bnd
theorem run_xfAD {a x : Addr} {c k : Nat} {cs : List Nat} {f : Str} {fs : List (Str × D)} {v : D} (h : S[k]? = some (.xdo fs)) (hc : c ∈ cs) (hl : fs.lookup f = some v) : RunX (xfldA a (some x) c cs f (.exc a (some k) (some x))) S QE Q ↔ Q v S := run_ok (by
  unfold xfldA
  simp only [h, hl]
  rw [if_pos ⟨trivial, trivial, hc⟩])
end

/-! a list in another order: nothing lost -/
open PySem PySem.Spec PyProof.Rows L2

theorem mixed_runP {S : Sto} {b n : Nat} {xs : List D} {Q : D → Sto → Prop} (hb : Bag S b) (hn : S[n]? = some (.lst xs)) (hnb : n ≠ b) (hx : xs.length ≤ 1000)
    (h : ∀ m ys S', S'[m]? = some (.lst ys) → S.length ≤ m → ys.Perm xs → Bag S' b → Fr b S S' → Q (.ref m) S') : Run (mixedM [.ref b, .ref n]) S Q := by
  have hnl := (List.getElem?_eq_some_iff.mp hn).1
  have hbl := hb.lt
  unfold mixedM mixedB
  repeat (first | walk_at "dl" | walk_at "dm")
  refine ⟨Nat.le_of_ble_eq_true rfl, ?_⟩
  repeat (first | walk_at "dl" | walk_at "dm")
  refine run_itAL (xs := xs) (Gw.one.get hn) ?_
  refine for_lstS (xs := xs) (fun i r S' => Bag S' b ∧ Fr b S S' ∧ i ≤ xs.length ∧ ∃ ys v, S'[S.length]? = some (.lst ys) ∧ ys.Perm (xs.take i) ∧ r = [some (.ref b), some (.ref n), some (.ref S.length), v])
    ⟨Gw.one.bag hb, Gw.one.fr, Nat.zero_le _, [], _, last_get, by simp, rfl⟩ (fun i r S' z => z.2.1.get hnb hn) (fun i r S' d hd ⟨hB, fr, hi, ys, v, hy, hp, er⟩ => ?_) (fun r S' ⟨hB, fr, hi, ys, v, hy, hp, er⟩ => ?_)
  · subst er
    have hi2 := (List.getElem?_eq_some_iff.mp hd).1
    have hl : ys.length = i := by rw [hp.length_eq, List.length_take]; omega
    repeat (first | walk_at "dl" | walk_at "dm")
    refine run_mt.mpr ?_
    repeat (first | walk_at "dl" | walk_at "dm")
    refine ⟨by unfold tyD; simp only [hy]; rfl, ?_⟩
    repeat (first | walk_at "dl" | walk_at "dm" | refine (run_lenL hy).mpr ?_)
    refine take_run hB (by omega) (by omega) fun k S1 k0 k1 hB1 fr1 => ?_
    have hy1 := fr1.get (Nat.ne_of_gt hbl) hy
    repeat (first | walk_at "dl" | walk_at "dm")
    refine (run_insert hy1 (small_len (by omega)) k0 (by omega)).mpr ?_
    repeat (first | walk_at "dl" | walk_at "dm")
    have frs : Fr b S (S1.set S.length (.lst (ys.take k.toNat ++ [d] ++ ys.drop k.toNat))) := ⟨by rw [List.length_set]; exact (fr.trans fr1).len, fun j hj hj2 => by
      rw [List.getElem?_set_ne (by omega)]
      exact (fr.trans fr1).at_ j hj hj2⟩
    refine ⟨hB1.set hbl, frs, by omega, _, _, List.getElem?_set_self (List.getElem?_eq_some_iff.mp hy1).1, ?_, rfl⟩
    have et : xs.take (i + 1) = xs.take i ++ [d] := by rw [List.take_succ, hd]; rfl
    rw [et]
    have p1 : (ys.take k.toNat ++ [d] ++ ys.drop k.toNat).Perm (d :: (ys.take k.toNat ++ ys.drop k.toNat)) := by
      rw [List.append_assoc]
      exact List.perm_middle
    rw [List.take_append_drop] at p1
    exact p1.trans ((List.Perm.cons d hp).trans (List.perm_append_singleton d (xs.take i)).symm)
  · subst er
    repeat (first | walk_at "dl" | walk_at "dm")
    rw [List.take_length] at hp
    exact h _ ys S' hy (Nat.le_refl _) hp hB fr
theorem run_powI {S : Sto} {QE : QX} {Q : D → Sto → Prop} {i j : Int} (h : 0 ≤ j ∧ j ≤ 1000000 ∧ i.natAbs < 2 ^ 64) : RunX (powD (.int i) (.int j)) S QE Q ↔ Q (.int (i ^ j.toNat)) S := by
  refine run_ok ?_
  unfold powD
  simp only []
  rw [if_pos h]
  rfl

/-! what the head's facts give -/
open PySem PySem.Spec PyProof.Rows L2
section
variable {fa : List He.Fa} {fn : List He.DefD} {ex : List (PySem.W.Frag → Bool)} {K : PySem.W.Frag}
theorem SaysB.fact (c : SaysB fa fn ex K) (i : Nat) {f : He.Fa} (h : fa[i]? = some f) : f.ok K = true := He.SaysD.fact c.d i h
theorem SaysB.own (c : SaysB fa fn ex K) (i : Nat) {f : PySem.W.Frag → Bool} (h : ex[i]? = some f) : f K = true := List.all_eq_true.mp c.b f (List.mem_of_getElem? h)
theorem fun_ofD {nm qual : Str} {st : Stmt} {f : Addr} {fd : FuncData} (F : FunD K nm qual (defArgs st) (defBody st) (defScope st) [] [] f fd) : Fun K nm qual st f fd := by
  obtain ⟨oc, od, dV, kV, doc, pm, an, cdv, ct, osl, e, l, c, d, _⟩ := F.ex
  have e2 : dV = .none := by
    rcases d with ⟨_, z⟩ | ⟨z, _⟩
    · exact z
    · exact absurd rfl z
  subst e2
  exact ⟨⟨oc, od, kV, doc, pm, an, cdv, ct, osl, e, l, c⟩, F.kp⟩
theorem def_mkB {mg : Str → Option Value} {h : Heap} {nm : Str} {st : Stmt} {ps : List Str} (X : K.In h) (G : h.Ns mainGlobals mg) (c : SaysB fa fn ex K) (i j : Nat)
    (hi : fn[i]? = some ⟨(nm, none), nm, nm, defArgs st, defBody st, defScope st, [], []⟩) (hj : fa[j]? = some (.glo nm))
    (hb : ∀ (kV doc pm : Value) (an : Option Addr) (cdv ct : Value) (us : List Value), us.length = ps.length → bindArgs (PySem.W.fnOf nm nm (defArgs st) (defBody st) (defScope st) .none kV doc pm an cdv ct) ⟨us, []⟩ = pure (ps.zip us)) : DefOk K mg nm nm st ps := by
  obtain ⟨fd, F⟩ := c.d.def_ i hi
  have F2 : Fun K nm nm st _ fd := fun_ofD F
  exact ⟨⟨_, fd, F2, He.glo_ok X G (c.fact j hj), F2.binds hb⟩⟩
theorem meth_mkB {C m qual : Str} {st : Stmt} {ps : List Str} (c : SaysB fa fn ex K) (i j : Nat)
    (hi : fn[i]? = some ⟨(C, some m), m, qual, defArgs st, defBody st, defScope st, [], []⟩) (hj : fa[j]? = some (.meth C m))
    (hb : ∀ (kV doc pm : Value) (an : Option Addr) (cdv ct : Value) (us : List Value), us.length = ps.length → bindArgs (PySem.W.fnOf m qual (defArgs st) (defBody st) (defScope st) .none kV doc pm an cdv ct) ⟨us, []⟩ = pure (ps.zip us)) : MethOk K (He.ga K C) m qual st ps := by
  obtain ⟨fd, F⟩ := c.d.def_ i hi
  have F2 : Fun K m qual st _ fd := fun_ofD F
  obtain ⟨c1, c2⟩ := He.ba (c.fact j hj)
  obtain ⟨c3, c4⟩ := He.ba c2
  exact ⟨⟨_, fd, F2, He.eqO_ok c1, c3, F2.binds hb⟩⟩
theorem init_mkB {C qual : Str} {st : Stmt} {ps : List Str} (c : SaysB fa fn ex K) (i j : Nat)
    (hi : fn[i]? = some ⟨(C, some "__init__"), "__init__", qual, defArgs st, defBody st, defScope st, [], []⟩) (hj : fa[j]? = some (.meth C "__init__"))
    (hb : ∀ (kV doc pm : Value) (an : Option Addr) (cdv ct : Value) (us : List Value), us.length = ps.length → bindArgs (PySem.W.fnOf "__init__" qual (defArgs st) (defBody st) (defScope st) .none kV doc pm an cdv ct) ⟨us, []⟩ = pure (ps.zip us)) : InitOk K (He.ga K C) qual st ps := by
  obtain ⟨fd, F⟩ := c.d.def_ i hi
  have F2 : Fun K "__init__" qual st _ fd := fun_ofD F
  obtain ⟨c1, c2⟩ := He.ba (c.fact j hj)
  obtain ⟨c3, c4⟩ := He.ba c2
  exact ⟨⟨_, fd, F2, He.eqO_ok c1, eq_of_beq c3, F2.binds hb⟩⟩
theorem int_mkB {mg : Str → Option Value} {h : Heap} {nm : Str} {i : Int} (X : K.In h) (G : h.Ns mainGlobals mg) (c : SaysB fa fn ex K) (j : Nat) (hj : fa[j]? = some (.int nm i)) : ConstIs K mg nm (.int i) :=
  let ⟨t, e⟩ := He.int_ok X G (c.fact j hj)
  ⟨.int i, .int i t, e, ⟨t, rfl⟩, fun _ _ => .int _⟩
theorem str_mkB {mg : Str → Option Value} {h : Heap} {nm z : Str} (X : K.In h) (G : h.Ns mainGlobals mg) (c : SaysB fa fn ex K) (j : Nat) (hj : fa[j]? = some (.str nm z)) : ConstIs K mg nm (.str z) :=
  let ⟨t, e⟩ := He.str_ok X G (c.fact j hj)
  ⟨.str z, .str z t, e, ⟨t, rfl⟩, fun _ _ => .str _⟩
end
theorem oexSh_ok {K : PySem.W.Frag} {C : Addr} (q : oexSh K C = true) : ∃ nm q N bs bm sn sub ab col dd k0 k1 k2 k3 k5, K.lookup C = some (excClassObj nm q C N bs bm true sn sub ab col dd k0 k1 k2 k3 k5 "ValueError.__new__") ∧ PySem.HandSPX.refsVE bm = true := by
  unfold oexSh at q
  split at q
  · rename_i dd cd sl ho
    split at q
    · rename_i C' bm k0 k1 k2 k3 n k5 hm hs
      simp only [Bool.and_eq_true, beq_iff_eq, Bool.not_eq_true'] at q
      obtain ⟨⟨⟨⟨rfl, rfl⟩, hdel⟩, hdi⟩, ht⟩ := q
      obtain ⟨nm, bs, mro, ns, qn, hd, sn, sub, ab, col, del⟩ := cd
      dsimp only at hm hdel hdi
      subst hm hdel hdi
      have hsl : sl = #[k0, k1, k2, k3, some (.builtin "ValueError.__new__"), k5] := by
        obtain ⟨l⟩ := sl
        simp only at hs
        rw [hs]
      subst hsl
      exact ⟨nm, qn, ns, bs, bm, sn, sub, ab, col, dd, k0, k1, k2, k3, k5, ho, ht⟩
    · cases q
  · cases q
theorem xclsB_ok {K : PySem.W.Frag} {C : Str} (h : xclsB C K = true) : XCls K (He.ga K C) := by
  obtain ⟨h1, h⟩ := He.ba h
  obtain ⟨h2, h⟩ := He.ba h
  obtain ⟨h3, h⟩ := He.ba h
  obtain ⟨h4, h⟩ := He.ba h
  obtain ⟨h5, h⟩ := He.ba h
  obtain ⟨h6, h⟩ := He.ba h
  obtain ⟨h7, h⟩ := He.ba h
  obtain ⟨h8, h⟩ := He.ba h
  obtain ⟨h9, h⟩ := He.ba h
  obtain ⟨h10, h11⟩ := He.ba h
  exact ⟨⟨oexSh_ok h1, He.eqO_ok h2, of_decide_eq_true h3, of_decide_eq_true h4, h5⟩, xfB_ok h6, h7, He.eqO_ok h8, He.eqO_ok h9, of_decide_eq_true h10, of_decide_eq_true h11⟩
theorem oclsB_ok {K : PySem.W.Frag} {C : Str} (h : oclsB C K = true) : OCls K (He.ga K C) := by
  obtain ⟨h1, h⟩ := He.ba h
  obtain ⟨h2, h⟩ := He.ba h
  obtain ⟨h3, h⟩ := He.ba h
  obtain ⟨h4, h⟩ := He.ba h
  obtain ⟨h5, h⟩ := He.ba h
  obtain ⟨h6, h⟩ := He.ba h
  obtain ⟨h8, h⟩ := He.ba h
  obtain ⟨h9, h⟩ := He.ba h
  obtain ⟨h10, h11⟩ := He.ba h
  exact ocls_mk h1 h2 h3 (He.eqO_ok h4) (He.eqO_ok h8) (He.eqO_ok h9) (of_decide_eq_true h10) (of_decide_eq_true h11) h5 h6
theorem iscB_ok {K : PySem.W.Frag} {C : Str} (h : iscB C K = true) : IsC K (He.ga K C) := by
  obtain ⟨h1, h⟩ := He.ba h
  obtain ⟨h2, h3⟩ := He.ba h
  refine ⟨h1, of_decide_eq_true h2, fun t => ?_⟩
  have := List.all_eq_true.mp h3 t.nm (by cases t <;> decide)
  exact of_decide_eq_true this
theorem fclsB_ok {K : PySem.W.Frag} {C x : Str} {i : String} (h : fclsB C x i K = true) : PySem.W.findCls K (.ref (He.ga K C)) (.type "type") x = some (.val (.builtin i)) := by
  unfold fclsB at h
  split at h
  · rename_i j e
    rw [e, of_decide_eq_true h]
  · cases h

/-! ### the law's end -/
theorem walk_GB {l : PySem.W.OpenLaw} {n k : Nat} {q : Program} {loose : List Str} {XP : (Str → Option Value) → Heap → Prop} {YP : World → Heap → Prop} {d : DefRec} {x : Str} {mf : List D → M D}
    (hi : importsNone q = true) (hn : l.most = some n) (hn2 : n ≤ sizeLine) (hdf : d.params.defaults = []) (hr : Room k callerA)
    (F : ∀ (w : World) (mg : Str → Option Value) (fa : Addr) (h : Heap), YP w h → h.Ns mainGlobals mg → mg d.name = some (.ref fa) →
      ∃ (K : PySem.W.Frag) (Γ : Nat → Addr) (fd : FuncData), K.In h ∧ (∀ (s : Shared) (u : Value), BindsTo s fd ⟨[u], []⟩ [(x, u)]) ∧ ∀ base : Heap, K.In base → base.Ns mainGlobals mg → SysIn base → FnG l.prog w K mg base CX0 k fa fd [x] (spM K Γ 1 mf))
    (hm : ∀ ns : List Int, ns.length ≤ n → ∃ S', mf [.fl (ns.map D.int)] [] = .ok (.bl true) S') :
    PySem.W.WalkO q loose XP YP l.row.toRowW d [] (fun f vs => PySem.call f vs) := by
  refine Att.attach_call hn hdf fun w s0 s mg mb fa o pm cd doc a vs ns G Y ho hd hcd hmg hobj hints hlen hg => ?_
  obtain ⟨K, Γ, fd, KX, hb, hF⟩ := F w mg fa _ Y G.T.g hmg
  exact law_G KX G.T.g G.T.b G.T.builtins G.T.nolimit (let ⟨m, h, _⟩ := (G.T.seer hi).mods; ⟨m, h⟩) hg hobj hints (Nat.le_trans hlen hn2) hr hF hb (hm ns hlen)

end DL
namespace W
open PySem PySem.Spec PyProof.Rows L2 DL
def c_LETTERS : D := .str "abcdefghijklmnopqrstuvwxyz"
def c_MOST_DEEDS : D := .int 100
def c_MOST_LETTERS : D := .int 8
def c_MOST_NAMES : D := .int 4
def c_MOST_READS : D := .int 3
def c_MOST_RIGHTS : D := .int 7
def c_MOST_RUNS : D := .int 4
def c_MOST_SIGNS : D := .int 20
def c_MOST_STAGES : D := .int 3
def c_MOST_STEPS : D := .int 8
def an_LayerError : Nat → Option Bool := anL [none, some true, some true, some true, some true, some true, none, none]
def an_Wrong : Nat → Option Bool := anL [none, some true, some false, some false, some false, some false, none, none]
def an_NoStage : Nat → Option Bool := anL [none, some false, some true, some false, some false, some false, none, none]
def an_NoStep : Nat → Option Bool := anL [none, some false, some false, some true, some false, some false, none, none]
def an_TooMany : Nat → Option Bool := anL [none, some false, some false, some false, some true, some false, none, none]
def an_NoDeed : Nat → Option Bool := anL [none, some false, some false, some false, some false, some true, none, none]
def an_Nothing : Nat → Option Bool := anL [none, some false, some false, some false, some false, some false, none, none]
def an_Stopped : Nat → Option Bool := anL [none, some false, some false, some false, some false, some false, none, none]
def an_ValueError : Nat → Option Bool := anL [none, some true, some true, some true, some true, some true, none, none]
def iso_Recipe : Nat → Option Bool := anL [none, none, none, none, none, none, none, none, some true]
def iso_Book : Nat → Option Bool := anL [none, none, none, none, none, none, none, none, none, none, some true]
theorem sc_Wrong_init : FnScope ["self", "place"] ["self", "place"] (defScope s_Wrong_init) := ⟨rfl, rfl, rfl, by decide +kernel, rfl, by decide +kernel, by decide +kernel⟩
def b_Wrong_init : DL.Env → M Fl :=
    seqM (dropM (xinitM [1] (getv 0)))
    (xsetM [1] "place" (getv 0) (getv 1))
def m_Wrong_init : List D → M D := fnM 2 b_Wrong_init
theorem sets_Wrong : Sets 1 "place" m_Wrong_init := sets_one
theorem sc_NoStage_init : FnScope ["self", "name"] ["self", "name"] (defScope s_NoStage_init) := ⟨rfl, rfl, rfl, by decide +kernel, rfl, by decide +kernel, by decide +kernel⟩
def b_NoStage_init : DL.Env → M Fl :=
    seqM (dropM (xinitM [2] (getv 0)))
    (xsetM [2] "name" (getv 0) (getv 1))
def m_NoStage_init : List D → M D := fnM 2 b_NoStage_init
theorem sets_NoStage : Sets 2 "name" m_NoStage_init := sets_one
theorem sc_NoStep_init : FnScope ["self", "at"] ["self", "at"] (defScope s_NoStep_init) := ⟨rfl, rfl, rfl, by decide +kernel, rfl, by decide +kernel, by decide +kernel⟩
def b_NoStep_init : DL.Env → M Fl :=
    seqM (dropM (xinitM [3] (getv 0)))
    (xsetM [3] "at" (getv 0) (getv 1))
def m_NoStep_init : List D → M D := fnM 2 b_NoStep_init
theorem sets_NoStep : Sets 3 "at" m_NoStep_init := sets_one
theorem sc_TooMany_init : FnScope ["self", "limit"] ["self", "limit"] (defScope s_TooMany_init) := ⟨rfl, rfl, rfl, by decide +kernel, rfl, by decide +kernel, by decide +kernel⟩
def b_TooMany_init : DL.Env → M Fl :=
    seqM (dropM (xinitM [4] (getv 0)))
    (xsetM [4] "limit" (getv 0) (getv 1))
def m_TooMany_init : List D → M D := fnM 2 b_TooMany_init
theorem sets_TooMany : Sets 4 "limit" m_TooMany_init := sets_one
theorem sc_Book_first : FnScope ["self"] ["self"] (defScope s_Book_first) := ⟨rfl, rfl, rfl, by decide +kernel, rfl, by decide +kernel, by decide +kernel⟩
def b_Book_first : DL.Env → M Fl :=
    retM (binM ixD (fldM [10] "recipes_kept" (getv 0)) (cst (.int 0)))
def m_Book_first : List D → M D := fnM 1 b_Book_first
theorem sc_Recipe___eq__ : FnScope ["self", "other"] ["self", "other"] (defScope s_Recipe___eq__) := ⟨rfl, rfl, rfl, by decide +kernel, rfl, by decide +kernel, by decide +kernel⟩
def b_Recipe___eq__ : DL.Env → M Fl :=
    retM (andV (isoM iso_Recipe (getv 1)) (binM eqD (fldM [8] "stage_rows" (getv 0)) (fldM [8] "stage_rows" (getv 1))))
def m_Recipe___eq__ : List D → M D := fnM 2 b_Recipe___eq__
theorem sc_Book___eq__ : FnScope ["self", "other"] ["self", "other"] (defScope s_Book___eq__) := ⟨rfl, rfl, rfl, by decide +kernel, rfl, by decide +kernel, by decide +kernel⟩
def b_Book___eq__ : DL.Env → M Fl :=
    retM (andV (isoM iso_Book (getv 1)) (andV (binM (eqOD id 8 m_Recipe___eq__) (methM 10 "first" (m_Book_first) (getv 0) nilA) (methM 10 "first" (m_Book_first) (getv 1) nilA)) (binM eqD (fldM [10] "deeds" (getv 0)) (fldM [10] "deeds" (getv 1)))))
def m_Book___eq__ : List D → M D := fnM 2 b_Book___eq__
theorem sc_Cache___init__ : FnScope ["self"] ["self"] (defScope s_Cache___init__) := ⟨rfl, rfl, rfl, by decide +kernel, rfl, by decide +kernel, by decide +kernel⟩
def b_Cache___init__ : DL.Env → M Fl :=
    fsetM [9] "kept_pairs" (getv 0) (dnewM)
def m_Cache___init__ : List D → M D := fnM 1 b_Cache___init__
theorem sc_Book___init__ : FnScope ["self", "recipe"] ["self", "recipe"] (defScope s_Book___init__) := ⟨rfl, rfl, rfl, by decide +kernel, rfl, by decide +kernel, by decide +kernel⟩
def b_Book___init__ : DL.Env → M Fl :=
    seqM (ifS (notT (tstM (isoM iso_Recipe (getv 1)))) (raiseM 1 "place" (cst (.int 0))) (nxM))
    (seqM (fsetM [10] "recipes_kept" (getv 0) (lstM (consA (getv 1) (nilA))))
    (seqM (fsetM [10] "deeds" (getv 0) (lstM (nilA)))
    (seqM (fsetM [10] "undone" (getv 0) (lstM (nilA)))
    (fsetM [10] "own_cache" (getv 0) (clM (mkM 9 m_Cache___init__) nilA)))))
def m_Book___init__ : List D → M D := fnM 2 b_Book___init__
theorem sc_Book_recipe : FnScope ["self"] ["self"] (defScope s_Book_recipe) := ⟨rfl, rfl, rfl, by decide +kernel, rfl, by decide +kernel, by decide +kernel⟩
def b_Book_recipe : DL.Env → M Fl :=
    retM (binM ixD (fldM [10] "recipes_kept" (getv 0)) (unM negD (cst (.int 1))))
def m_Book_recipe : List D → M D := fnM 1 b_Book_recipe
theorem sc_is_name : FnScope ["thing", "letter"] ["thing"] (defScope s_is_name) := ⟨rfl, rfl, rfl, by decide +kernel, rfl, by decide +kernel, by decide +kernel⟩
def b_is_name : DL.Env → M Fl :=
    seqM (ifS (orT (notT (tstM (isiM .tStr (getv 0)))) (notT (tstM (chM leD leD (cst (.int 1)) (clM lenD (consA (getv 0) (nilA))) (cst c_MOST_LETTERS))))) (retM (cst (.bl false))) (nxM))
    (retM (clM allD (consA (lcM [1] (itAny (getv 0)) (gNm 1) (yesM) (binM memD (getv 1) (cst c_LETTERS))) (nilA))))
def m_is_name : List D → M D := fnM 2 b_is_name
theorem sc_is_word : FnScope ["thing", "word"] ["thing", "word"] (defScope s_is_word) := ⟨rfl, rfl, rfl, by decide +kernel, rfl, by decide +kernel, by decide +kernel⟩
def b_is_word : DL.Env → M Fl :=
    retM (andV (isiM .tStr (getv 0)) (binM eqD (getv 0) (getv 1)))
def m_is_word : List D → M D := fnM 2 b_is_word
theorem sc_is_argument : FnScope ["thing"] ["thing"] (defScope s_is_argument) := ⟨rfl, rfl, rfl, by decide +kernel, rfl, by decide +kernel, by decide +kernel⟩
def b_is_argument : DL.Env → M Fl :=
    retM (andV (isiM .tTuple (getv 0)) (andV (binM eqD (clM lenD (consA (getv 0) (nilA))) (cst (.int 2))) (andV (clM (m_is_word) (consA (binM ixD (getv 0) (cst (.int 0))) (consA (cst (.str "arg")) (nilA)))) (clM (m_is_name) (consA (binM ixD (getv 0) (cst (.int 1))) (nilA))))))
def m_is_argument : List D → M D := fnM 1 b_is_argument
theorem sc_is_path : FnScope ["thing", "name"] ["thing"] (defScope s_is_path) := ⟨rfl, rfl, rfl, by decide +kernel, rfl, by decide +kernel, by decide +kernel⟩
def b_is_path : DL.Env → M Fl :=
    retM (andV (isiM .tTuple (getv 0)) (clM allD (consA (lcM [1] (itAny (getv 0)) (gNm 1) (yesM) (clM (m_is_name) (consA (getv 1) (nilA)))) (nilA))))
def m_is_path : List D → M D := fnM 2 b_is_path
theorem sc_is_short : FnScope ["thing"] ["thing"] (defScope s_is_short) := ⟨rfl, rfl, rfl, by decide +kernel, rfl, by decide +kernel, by decide +kernel⟩
def b_is_short : DL.Env → M Fl :=
    retM (andV (clM (m_is_path) (consA (getv 0) (nilA))) (binM leD (clM lenD (consA (getv 0) (nilA))) (cst c_MOST_NAMES)))
def m_is_short : List D → M D := fnM 1 b_is_short
theorem sc_is_target : FnScope ["thing"] ["thing"] (defScope s_is_target) := ⟨rfl, rfl, rfl, by decide +kernel, rfl, by decide +kernel, by decide +kernel⟩
def b_is_target : DL.Env → M Fl :=
    retM (andV (clM (m_is_short) (consA (getv 0) (nilA))) (binM neD (getv 0) (tupM (nilA))))
def m_is_target : List D → M D := fnM 1 b_is_target
theorem sc_is_text : FnScope ["thing"] ["thing"] (defScope s_is_text) := ⟨rfl, rfl, rfl, by decide +kernel, rfl, by decide +kernel, by decide +kernel⟩
def b_is_text : DL.Env → M Fl :=
    retM (andV (isiM .tStr (getv 0)) (binM leD (clM lenD (consA (getv 0) (nilA))) (cst c_MOST_SIGNS)))
def m_is_text : List D → M D := fnM 1 b_is_text
theorem sc_is_read : FnScope ["thing"] ["thing"] (defScope s_is_read) := ⟨rfl, rfl, rfl, by decide +kernel, rfl, by decide +kernel, by decide +kernel⟩
def b_is_read : DL.Env → M Fl :=
    seqM (ifS (orT (notT (tstM (isiM .tTuple (getv 0)))) (tstM (binM neD (clM lenD (consA (getv 0) (nilA))) (cst (.int 2))))) (retM (cst (.bl false))) (nxM))
    (seqM (ifS (tstM (clM (m_is_word) (consA (binM ixD (getv 0) (cst (.int 0))) (consA (cst (.str "path")) (nilA))))) (retM (clM (m_is_target) (consA (binM ixD (getv 0) (cst (.int 1))) (nilA)))) (nxM))
    (seqM (ifS (tstM (clM (m_is_word) (consA (binM ixD (getv 0) (cst (.int 0))) (consA (cst (.str "text")) (nilA))))) (retM (clM (m_is_text) (consA (binM ixD (getv 0) (cst (.int 1))) (nilA)))) (nxM))
    (retM (clM (m_is_argument) (consA (getv 0) (nilA))))))
def m_is_read : List D → M D := fnM 1 b_is_read
theorem sc_are_reads : FnScope ["thing", "part"] ["thing"] (defScope s_are_reads) := ⟨rfl, rfl, rfl, by decide +kernel, rfl, by decide +kernel, by decide +kernel⟩
def b_are_reads : DL.Env → M Fl :=
    retM (andV (isiM .tTuple (getv 0)) (andV (binM leD (clM lenD (consA (getv 0) (nilA))) (cst c_MOST_READS)) (clM allD (consA (lcM [1] (itAny (getv 0)) (gNm 1) (yesM) (clM (m_is_read) (consA (getv 1) (nilA)))) (nilA)))))
def m_are_reads : List D → M D := fnM 2 b_are_reads
theorem sc_is_integer : FnScope ["thing"] ["thing"] (defScope s_is_integer) := ⟨rfl, rfl, rfl, by decide +kernel, rfl, by decide +kernel, by decide +kernel⟩
def b_is_integer : DL.Env → M Fl :=
    retM (andV (isiM .tInt (getv 0)) (notV (isiM .tBool (getv 0))))
def m_is_integer : List D → M D := fnM 1 b_is_integer
theorem sc_is_rights : FnScope ["thing"] ["thing"] (defScope s_is_rights) := ⟨rfl, rfl, rfl, by decide +kernel, rfl, by decide +kernel, by decide +kernel⟩
def b_is_rights : DL.Env → M Fl :=
    retM (andV (clM (m_is_integer) (consA (getv 0) (nilA))) (chM leD leD (cst (.int 0)) (getv 0) (cst c_MOST_RIGHTS)))
def m_is_rights : List D → M D := fnM 1 b_is_rights
theorem sc_is_told : FnScope ["thing"] ["thing"] (defScope s_is_told) := ⟨rfl, rfl, rfl, by decide +kernel, rfl, by decide +kernel, by decide +kernel⟩
def b_is_told : DL.Env → M Fl :=
    retM (orV (clM (m_is_text) (consA (getv 0) (nilA))) (clM (m_is_argument) (consA (getv 0) (nilA))))
def m_is_told : List D → M D := fnM 1 b_is_told
theorem sc_is_step : FnScope ["thing"] ["thing"] (defScope s_is_step) := ⟨rfl, rfl, rfl, by decide +kernel, rfl, by decide +kernel, by decide +kernel⟩
def b_is_step : DL.Env → M Fl :=
    seqM (ifS (orT (notT (tstM (isiM .tTuple (getv 0)))) (orT (notT (tstM (chM leD leD (cst (.int 2)) (clM lenD (consA (getv 0) (nilA))) (cst (.int 4))))) (notT (tstM (isiM .tStr (binM ixD (getv 0) (cst (.int 0)))))))) (retM (cst (.bl false))) (nxM))
    (seqM (ifS (tstM (binM memD (binM ixD (getv 0) (cst (.int 0))) (tupM (consA (cst (.str "delete")) (consA (cst (.str "clear")) (nilA)))))) (retM (andV (binM eqD (clM lenD (consA (getv 0) (nilA))) (cst (.int 2))) (clM (m_is_target) (consA (binM ixD (getv 0) (cst (.int 1))) (nilA))))) (nxM))
    (seqM (ifS (tstM (binM memD (binM ixD (getv 0) (cst (.int 0))) (tupM (consA (cst (.str "folder")) (consA (cst (.str "rights")) (nilA)))))) (retM (andV (binM eqD (clM lenD (consA (getv 0) (nilA))) (cst (.int 3))) (andV (clM (m_is_target) (consA (binM ixD (getv 0) (cst (.int 1))) (nilA))) (clM (m_is_rights) (consA (binM ixD (getv 0) (cst (.int 2))) (nilA)))))) (nxM))
    (seqM (ifS (tstM (binM eqD (binM ixD (getv 0) (cst (.int 0))) (cst (.str "link")))) (retM (andV (binM eqD (clM lenD (consA (getv 0) (nilA))) (cst (.int 3))) (andV (clM (m_is_target) (consA (binM ixD (getv 0) (cst (.int 1))) (nilA))) (clM (m_is_told) (consA (binM ixD (getv 0) (cst (.int 2))) (nilA)))))) (nxM))
    (seqM (ifS (tstM (binM neD (clM lenD (consA (getv 0) (nilA))) (cst (.int 4)))) (retM (cst (.bl false))) (nxM))
    (seqM (ifS (tstM (binM eqD (binM ixD (getv 0) (cst (.int 0))) (cst (.str "write")))) (retM (andV (clM (m_is_target) (consA (binM ixD (getv 0) (cst (.int 1))) (nilA))) (andV (clM (m_is_told) (consA (binM ixD (getv 0) (cst (.int 2))) (nilA))) (clM (m_is_rights) (consA (binM ixD (getv 0) (cst (.int 3))) (nilA)))))) (nxM))
    (seqM (ifS (tstM (binM eqD (binM ixD (getv 0) (cst (.int 0))) (cst (.str "copy")))) (retM (andV (clM (m_is_name) (consA (binM ixD (getv 0) (cst (.int 1))) (nilA))) (andV (clM (m_is_short) (consA (binM ixD (getv 0) (cst (.int 2))) (nilA))) (clM (m_is_short) (consA (binM ixD (getv 0) (cst (.int 3))) (nilA)))))) (nxM))
    (retM (andV (binM eqD (binM ixD (getv 0) (cst (.int 0))) (cst (.str "run"))) (andV (clM (m_is_name) (consA (binM ixD (getv 0) (cst (.int 1))) (nilA))) (andV (clM (m_are_reads) (consA (binM ixD (getv 0) (cst (.int 2))) (nilA))) (clM (m_is_target) (consA (binM ixD (getv 0) (cst (.int 3))) (nilA)))))))))))))
def m_is_step : List D → M D := fnM 1 b_is_step
theorem sc_are_steps : FnScope ["thing", "step"] ["thing"] (defScope s_are_steps) := ⟨rfl, rfl, rfl, by decide +kernel, rfl, by decide +kernel, by decide +kernel⟩
def b_are_steps : DL.Env → M Fl :=
    retM (andV (isiM .tList (getv 0)) (andV (binM leD (clM lenD (consA (getv 0) (nilA))) (cst c_MOST_STEPS)) (clM allD (consA (lcM [1] (itAny (getv 0)) (gNm 1) (yesM) (clM (m_is_step) (consA (getv 1) (nilA)))) (nilA)))))
def m_are_steps : List D → M D := fnM 2 b_are_steps
theorem sc_is_stage : FnScope ["thing"] ["thing"] (defScope s_is_stage) := ⟨rfl, rfl, rfl, by decide +kernel, rfl, by decide +kernel, by decide +kernel⟩
def b_is_stage : DL.Env → M Fl :=
    seqM (ifS (orT (notT (tstM (isiM .tTuple (getv 0)))) (orT (tstM (binM neD (clM lenD (consA (getv 0) (nilA))) (cst (.int 3)))) (notT (tstM (clM (m_is_name) (consA (binM ixD (getv 0) (cst (.int 0))) (nilA))))))) (retM (cst (.bl false))) (nxM))
    (retM (andV (orV (binM isNoneD (binM ixD (getv 0) (cst (.int 1))) (cst .non)) (clM (m_is_name) (consA (binM ixD (getv 0) (cst (.int 1))) (nilA)))) (clM (m_are_steps) (consA (binM ixD (getv 0) (cst (.int 2))) (nilA)))))
def m_is_stage : List D → M D := fnM 1 b_is_stage
theorem sc_are_stages : FnScope ["thing", "stage"] ["thing"] (defScope s_are_stages) := ⟨rfl, rfl, rfl, by decide +kernel, rfl, by decide +kernel, by decide +kernel⟩
def b_are_stages : DL.Env → M Fl :=
    seqM (ifS (orT (notT (tstM (isiM .tList (getv 0)))) (notT (tstM (chM leD leD (cst (.int 1)) (clM lenD (consA (getv 0) (nilA))) (cst c_MOST_STAGES))))) (retM (cst (.bl false))) (nxM))
    (seqM (ifS (notT (tstM (clM allD (consA (lcM [1] (itAny (getv 0)) (gNm 1) (yesM) (clM (m_is_stage) (consA (getv 1) (nilA)))) (nilA))))) (retM (cst (.bl false))) (nxM))
    (retM (binM eqD (lenSetM (lcM [1] (itAny (getv 0)) (gNm 1) (yesM) (binM ixD (getv 1) (cst (.int 0))))) (clM lenD (consA (getv 0) (nilA))))))
def m_are_stages : List D → M D := fnM 2 b_are_stages
theorem sc_sources_of : FnScope ["start", "steps", "first", "step"] ["start", "steps"] (defScope s_sources_of) := ⟨rfl, rfl, rfl, by decide +kernel, rfl, by decide +kernel, by decide +kernel⟩
def b_sources_of : DL.Env → M Fl :=
    seqM (asgM (ifM (tstM (binM isNoneD (getv 0) (cst .non))) (lstM (nilA)) (lstM (consA (getv 0) (nilA)))) (gNm 2))
    (retM (binM addD (getv 2) (lcM [3] (itAny (getv 1)) (gNm 3) (tstM (binM eqD (binM ixD (getv 3) (cst (.int 0))) (cst (.str "copy")))) (binM ixD (getv 3) (cst (.int 1))))))
def m_sources_of : List D → M D := fnM 4 b_sources_of
theorem sc_Recipe___init__ : FnScope ["self", "stages", "names", "at", "name", "start", "steps", "source", "step"] ["self", "stages"] (defScope s_Recipe___init__) := ⟨rfl, rfl, rfl, by decide +kernel, rfl, by decide +kernel, by decide +kernel⟩
def b_Recipe___init__ : DL.Env → M Fl :=
    seqM (ifS (notT (tstM (clM (m_are_stages) (consA (getv 1) (nilA))))) (raiseM 1 "place" (cst (.int 0))) (nxM))
    (seqM (asgM (lcM [4, 5, 6] (itAny (getv 1)) (gTp [4, 5, 6]) (yesM) (getv 4)) (gNm 2))
    (seqM (forM_ (itEnu (getv 1)) (gTpN 3 [4, 5, 6]) (forM_ (itAny (clM (m_sources_of) (consA (getv 5) (consA (getv 6) (nilA))))) (gNm 7) (ifS (tstM (binM memD (getv 7) (slM (getv 2) (someP (getv 3)) (noP)))) (raiseM 2 "name" (getv 7)) (nxM))))
    (seqM (ifS (tstM (binM gtD (clM lenD (consA (lc2M [4, 5, 6, 8] [8] (itAny (getv 1)) (gTp [4, 5, 6]) (yesM) (itAny (getv 6)) (gNm 8) (tstM (binM eqD (binM ixD (getv 8) (cst (.int 0))) (cst (.str "run")))) (getv 8)) (nilA))) (cst c_MOST_RUNS))) (raiseM 4 "limit" (cst c_MOST_RUNS)) (nxM))
    (fsetM [8] "stage_rows" (getv 0) (lcM [4, 5, 6] (itAny (getv 1)) (gTp [4, 5, 6]) (yesM) (tupM (consA (getv 4) (consA (getv 5) (consA (clM listD (consA (getv 6) (nilA))) (nilA))))))))))
def m_Recipe___init__ : List D → M D := fnM 9 b_Recipe___init__
theorem sc_Recipe_stages : FnScope ["self", "name", "start", "steps"] ["self"] (defScope s_Recipe_stages) := ⟨rfl, rfl, rfl, by decide +kernel, rfl, by decide +kernel, by decide +kernel⟩
def b_Recipe_stages : DL.Env → M Fl :=
    retM (lcM [1, 2, 3] (itAny (fldM [8] "stage_rows" (getv 0))) (gTp [1, 2, 3]) (yesM) (tupM (consA (getv 1) (consA (getv 2) (consA (clM listD (consA (getv 3) (nilA))) (nilA))))))
def m_Recipe_stages : List D → M D := fnM 4 b_Recipe_stages
theorem sc__law_alike : FnScope ["_law_found", "_law_due"] ["_law_found", "_law_due"] (defScope s__law_alike) := ⟨rfl, rfl, rfl, by decide +kernel, rfl, by decide +kernel, by decide +kernel⟩
def b__law_alike : DL.Env → M Fl :=
    retM (andV (binM eqD (getv 0) (getv 1)) (binM eqD (clM reprD (consA (getv 0) (nilA))) (clM reprD (consA (getv 1) (nilA)))))
def m__law_alike : List D → M D := fnM 2 b__law_alike
theorem sc__law_bag : FnScope ["_law_script", "_law_cell"] ["_law_script"] (defScope s__law_bag) := ⟨rfl, rfl, rfl, by decide +kernel, rfl, by decide +kernel, by decide +kernel⟩
def b__law_bag : DL.Env → M Fl :=
    retM (lstM (consA (cst (.int 0)) (consA (cst (.int 1234567891)) (consA (cst (.int 0)) (consA (lcM [1] (itAny (slM (getv 0) (noP) (someP (cst (.int 63))))) (gNm 1) (yesM) (clM absD (consA (getv 1) (nilA)))) (nilA))))))
def m__law_bag : List D → M D := fnM 2 b__law_bag
theorem sc__law_behind : FnScope ["_law_stages_here", "_law_deed", "_law_name", "_law_start", "_law_steps_here", "_law_put", "_law_at", "_law_later", "_law_both", "_law_step_here", "_law_stage"] ["_law_stages_here", "_law_deed"] (defScope s__law_behind) := ⟨rfl, rfl, rfl, by decide +kernel, rfl, by decide +kernel, by decide +kernel⟩
def b__law_behind : DL.Env → M Fl :=
    seqM (asgM (binM ixD (getv 0) (unM negD (cst (.int 1)))) (gTp [2, 3, 4]))
    (seqM (parM 5 6 (consA (binM eqD (binM ixD (getv 1) (cst (.int 0))) (cst (.str "put"))) (consA (binM ixD (getv 1) (cst (.int 1))) (nilA))))
    (seqM (ifS (orT (tstM (binM gtD (getv 6) (clM lenD (consA (getv 4) (nilA))))) (andT (tstM (binM eqD (getv 6) (clM lenD (consA (getv 4) (nilA))))) (notT (tstM (getv 5))))) (retM (tupM (consA (cst (.str "step")) (consA (getv 6) (nilA))))) (nxM))
    (seqM (ifS (andT (tstM (getv 5)) (tstM (binM eqD (clM lenD (consA (getv 4) (nilA))) (cst (.int 8))))) (retM (tupM (consA (cst (.str "many")) (consA (cst (.int 8)) (nilA))))) (nxM))
    (seqM (asgM (binM addD (binM addD (slM (getv 4) (noP) (someP (getv 6))) (clM listD (consA (slM (getv 1) (someP (cst (.int 2))) (noP)) (nilA)))) (slM (getv 4) (someP (binM addD (getv 6) (clM intD (consA (notV (getv 5)) (nilA))))) (noP))) (gNm 7))
    (seqM (ifS (tstM (binM neD (lcM [9] (itAny (getv 7)) (gNm 9) (andT (tstM (binM eqD (binM ixD (getv 9) (cst (.int 0))) (cst (.str "copy")))) (tstM (binM eqD (binM ixD (getv 9) (cst (.int 1))) (getv 2)))) (getv 9)) (lstM (nilA)))) (retM (tupM (consA (cst (.str "stage")) (consA (getv 2) (nilA))))) (nxM))
    (seqM (asgM (binM addD (slM (getv 0) (noP) (someP (unM negD (cst (.int 1))))) (lstM (consA (tupM (consA (getv 2) (consA (getv 3) (consA (getv 7) (nilA))))) (nilA)))) (gNm 8))
    (seqM (ifS (tstM (binM gtD (clM sumD (consA (lcM [10] (itAny (getv 8)) (gNm 10) (yesM) (clM lenD (consA (lcM [9] (itAny (binM ixD (getv 10) (cst (.int 2)))) (gNm 9) (tstM (binM eqD (binM ixD (getv 9) (cst (.int 0))) (cst (.str "run")))) (getv 9)) (nilA)))) (nilA))) (cst (.int 4)))) (retM (tupM (consA (cst (.str "many")) (consA (cst (.int 4)) (nilA))))) (nxM))
    (retM (tupM (consA (cst (.str "done")) (consA (getv 8) (nilA))))))))))))
def m__law_behind : List D → M D := fnM 11 b__law_behind
theorem sc_Book___len__ : FnScope ["self"] ["self"] (defScope s_Book___len__) := ⟨rfl, rfl, rfl, by decide +kernel, rfl, by decide +kernel, by decide +kernel⟩
def b_Book___len__ : DL.Env → M Fl :=
    retM (clM lenD (consA (fldM [10] "deeds" (getv 0)) (nilA)))
def m_Book___len__ : List D → M D := fnM 1 b_Book___len__
theorem sc_Book_log : FnScope ["self"] ["self"] (defScope s_Book_log) := ⟨rfl, rfl, rfl, by decide +kernel, rfl, by decide +kernel, by decide +kernel⟩
def b_Book_log : DL.Env → M Fl :=
    retM (clM listD (consA (fldM [10] "deeds" (getv 0)) (nilA)))
def m_Book_log : List D → M D := fnM 1 b_Book_log
theorem sc__law_book_right : FnScope ["_law_book", "_law_first", "_law_log", "_law_stages_here", "_law_told"] ["_law_book", "_law_first", "_law_log", "_law_stages_here"] (defScope s__law_book_right) := ⟨rfl, rfl, rfl, by decide +kernel, rfl, by decide +kernel, by decide +kernel⟩
def b__law_book_right : DL.Env → M Fl :=
    seqM (ifS (orT (tstM (binM neD (methM 8 "stages" (m_Recipe_stages) (methM 10 "first" (m_Book_first) (getv 0) nilA) nilA) (getv 1))) (orT (tstM (binM neD (methM 8 "stages" (m_Recipe_stages) (methM 10 "recipe" (m_Book_recipe) (getv 0) nilA) nilA) (getv 3))) (tstM (binM neD (methM 10 "log" (m_Book_log) (getv 0) nilA) (getv 2))))) (retM (cst (.bl false))) (nxM))
    (seqM (asgM (methM 10 "log" (m_Book_log) (getv 0) nilA) (gNm 4))
    (seqM (dropM (mtM "list" appendD (getv 4) (consA (cst .non) (nilA))))
    (retM (andV (binM eqD (clM (lenOD 10 m_Book___len__) (consA (getv 0) (nilA))) (clM lenD (consA (getv 2) (nilA)))) (binM eqD (methM 10 "log" (m_Book_log) (getv 0) nilA) (getv 2))))))
def m__law_book_right : List D → M D := fnM 5 b__law_book_right
theorem sc_Recipe_stage_named : FnScope ["self", "name", "stage"] ["self", "name"] (defScope s_Recipe_stage_named) := ⟨rfl, rfl, rfl, by decide +kernel, rfl, by decide +kernel, by decide +kernel⟩
def b_Recipe_stage_named : DL.Env → M Fl :=
    seqM (forM_ (itAny (fldM [8] "stage_rows" (getv 0))) (gNm 2) (ifS (tstM (binM eqD (binM ixD (getv 2) (cst (.int 0))) (getv 1))) (retM (getv 2)) (nxM)))
    (raiseM 2 "name" (getv 1))
def m_Recipe_stage_named : List D → M D := fnM 3 b_Recipe_stage_named
theorem sc_Recipe_steps : FnScope ["self", "name"] ["self", "name"] (defScope s_Recipe_steps) := ⟨rfl, rfl, rfl, by decide +kernel, rfl, by decide +kernel, by decide +kernel⟩
def b_Recipe_steps : DL.Env → M Fl :=
    retM (clM listD (consA (binM ixD (methM 8 "stage_named" (m_Recipe_stage_named) (getv 0) (consA (getv 1) (nilA))) (cst (.int 2))) (nilA)))
def m_Recipe_steps : List D → M D := fnM 2 b_Recipe_steps
theorem sc_Recipe_with_steps : FnScope ["self", "name", "steps", "at", "stages", "stage"] ["self", "name", "steps"] (defScope s_Recipe_with_steps) := ⟨rfl, rfl, rfl, by decide +kernel, rfl, by decide +kernel, by decide +kernel⟩
def b_Recipe_with_steps : DL.Env → M Fl :=
    seqM (ifS (notT (tstM (clM (m_is_name) (consA (getv 1) (nilA))))) (raiseM 1 "place" (cst (.int 0))) (nxM))
    (seqM (ifS (notT (tstM (clM (m_are_steps) (consA (getv 2) (nilA))))) (raiseM 1 "place" (cst (.int 1))) (nxM))
    (seqM (asgM (mtM "list" indexD (lcM [5] (itAny (fldM [8] "stage_rows" (getv 0))) (gNm 5) (yesM) (binM ixD (getv 5) (cst (.int 0)))) (consA (binM ixD (methM 8 "stage_named" (m_Recipe_stage_named) (getv 0) (consA (getv 1) (nilA))) (cst (.int 0))) (nilA))) (gNm 3))
    (seqM (asgM (methM 8 "stages" (m_Recipe_stages) (getv 0) nilA) (gNm 4))
    (seqM (asgM (tupM (consA (getv 1) (consA (binM ixD (binM ixD (getv 4) (getv 3)) (cst (.int 1))) (consA (clM listD (consA (getv 2) (nilA))) (nilA))))) (gSb (getv 4) (getv 3) setLD))
    (retM (clM (mkM 8 m_Recipe___init__) (consA (getv 4) (nilA))))))))
def m_Recipe_with_steps : List D → M D := fnM 6 b_Recipe_with_steps
theorem sc_last_name : FnScope ["recipe"] ["recipe"] (defScope s_last_name) := ⟨rfl, rfl, rfl, by decide +kernel, rfl, by decide +kernel, by decide +kernel⟩
def b_last_name : DL.Env → M Fl :=
    retM (binM ixD (binM ixD (methM 8 "stages" (m_Recipe_stages) (getv 0) nilA) (unM negD (cst (.int 1)))) (cst (.int 0)))
def m_last_name : List D → M D := fnM 1 b_last_name
theorem sc_changed : FnScope ["recipe", "deed", "name", "steps", "at", "put"] ["recipe", "deed"] (defScope s_changed) := ⟨rfl, rfl, rfl, by decide +kernel, rfl, by decide +kernel, by decide +kernel⟩
def b_changed : DL.Env → M Fl :=
    seqM (asgM (clM (m_last_name) (consA (getv 0) (nilA))) (gNm 2))
    (seqM (par3M 3 4 5 (consA (methM 8 "steps" (m_Recipe_steps) (getv 0) (consA (getv 2) (nilA))) (consA (binM ixD (getv 1) (cst (.int 1))) (consA (binM eqD (binM ixD (getv 1) (cst (.int 0))) (cst (.str "put"))) (nilA)))))
    (seqM (ifS (orT (tstM (binM gtD (getv 4) (clM lenD (consA (getv 3) (nilA))))) (andT (tstM (binM eqD (getv 4) (clM lenD (consA (getv 3) (nilA))))) (notT (tstM (getv 5))))) (raiseM 3 "at" (getv 4)) (nxM))
    (seqM (ifS (andT (tstM (getv 5)) (tstM (binM eqD (clM lenD (consA (getv 3) (nilA))) (cst c_MOST_STEPS)))) (raiseM 4 "limit" (cst c_MOST_STEPS)) (nxM))
    (retM (methM 8 "with_steps" (m_Recipe_with_steps) (getv 0) (consA (getv 2) (consA (binM addD (binM addD (slM (getv 3) (noP) (someP (getv 4))) (clM listD (consA (slM (getv 1) (someP (cst (.int 2))) (noP)) (nilA)))) (slM (getv 3) (someP (binM addD (getv 4) (clM intD (consA (notV (getv 5)) (nilA))))) (noP))) (nilA))))))))
def m_changed : List D → M D := fnM 6 b_changed
theorem sc_is_deed : FnScope ["thing"] ["thing"] (defScope s_is_deed) := ⟨rfl, rfl, rfl, by decide +kernel, rfl, by decide +kernel, by decide +kernel⟩
def b_is_deed : DL.Env → M Fl :=
    seqM (ifS (orT (notT (tstM (isiM .tTuple (getv 0)))) (orT (tstM (binM nmemD (clM lenD (consA (getv 0) (nilA))) (tupM (consA (cst (.int 2)) (consA (cst (.int 3)) (nilA)))))) (orT (notT (tstM (clM (m_is_integer) (consA (binM ixD (getv 0) (cst (.int 1))) (nilA))))) (tstM (binM ltD (binM ixD (getv 0) (cst (.int 1))) (cst (.int 0))))))) (retM (cst (.bl false))) (nxM))
    (seqM (ifS (tstM (binM eqD (clM lenD (consA (getv 0) (nilA))) (cst (.int 2)))) (retM (clM (m_is_word) (consA (binM ixD (getv 0) (cst (.int 0))) (consA (cst (.str "lose")) (nilA))))) (nxM))
    (retM (andV (orV (clM (m_is_word) (consA (binM ixD (getv 0) (cst (.int 0))) (consA (cst (.str "put")) (nilA)))) (clM (m_is_word) (consA (binM ixD (getv 0) (cst (.int 0))) (consA (cst (.str "change")) (nilA))))) (clM (m_is_step) (consA (binM ixD (getv 0) (cst (.int 2))) (nilA))))))
def m_is_deed : List D → M D := fnM 1 b_is_deed
theorem sc_Book_do : FnScope ["self", "deed", "before"] ["self", "deed"] (defScope s_Book_do) := ⟨rfl, rfl, rfl, by decide +kernel, rfl, by decide +kernel, by decide +kernel⟩
def b_Book_do : DL.Env → M Fl :=
    seqM (ifS (notT (tstM (clM (m_is_deed) (consA (getv 1) (nilA))))) (raise0M 5) (nxM))
    (seqM (ifS (tstM (binM eqD (clM lenD (consA (fldM [10] "deeds" (getv 0)) (nilA))) (cst c_MOST_DEEDS))) (raiseM 4 "limit" (cst c_MOST_DEEDS)) (nxM))
    (seqM (asgM (methM 10 "recipe" (m_Book_recipe) (getv 0) nilA) (gNm 2))
    (seqM (dropM (mtM "list" appendD (fldM [10] "recipes_kept" (getv 0)) (consA (clM (m_changed) (consA (getv 2) (consA (getv 1) (nilA)))) (nilA))))
    (seqM (dropM (mtM "list" appendD (fldM [10] "deeds" (getv 0)) (consA (getv 1) (nilA))))
    (seqM (fsetM [10] "undone" (getv 0) (lstM (nilA)))
    (retM (ifM (tstM (binM eqD (binM ixD (getv 1) (cst (.int 0))) (cst (.str "put")))) (cst .non) (binM ixD (methM 8 "steps" (m_Recipe_steps) (getv 2) (consA (clM (m_last_name) (consA (getv 2) (nilA))) (nilA))) (binM ixD (getv 1) (cst (.int 1)))))))))))
def m_Book_do : List D → M D := fnM 3 b_Book_do
theorem sc__law_error : FnScope ["_law_e", "_law_kinds"] ["_law_e"] (defScope s__law_error) := ⟨rfl, rfl, rfl, by decide +kernel, rfl, by decide +kernel, by decide +kernel⟩
def b__law_error (a : Addr) (dd : Option Addr) (c : Nat) : DL.Env → M Fl :=
    seqM (asgM (lstM (consA (isxAM a dd c an_NoDeed (getv 0)) (consA (isxAM a dd c an_Nothing (getv 0)) (consA (isxAM a dd c an_TooMany (getv 0)) (consA (isxAM a dd c an_NoStep (getv 0)) (nilA)))))) (gNm 1))
    (seqM (asgM (binM addD (getv 1) (lstM (consA (isxAM a dd c an_NoStage (getv 0)) (consA (isxAM a dd c an_Stopped (getv 0)) (consA (isxAM a dd c an_Wrong (getv 0)) (nilA)))))) (gNm 1))
    (seqM (ifS (orT (tstM (binM neD (mtM "list" countD (getv 1) (consA (cst (.bl true)) (nilA))) (cst (.int 1)))) (notT (tstM (isxAM a dd c an_ValueError (getv 0))))) (retM (tupM (consA (cst (.str "other")) (consA (cst .non) (nilA))))) (nxM))
    (seqM (ifS (orT (tstM (binM ixD (getv 1) (cst (.int 0)))) (tstM (binM ixD (getv 1) (cst (.int 1))))) (retM (tupM (consA (binM ixD (lstM (consA (cst (.str "nodeed")) (consA (cst (.str "nothing")) (nilA)))) (clM intD (consA (binM ixD (getv 1) (cst (.int 1))) (nilA)))) (consA (cst .non) (nilA))))) (nxM))
    (seqM (ifS (tstM (binM ixD (getv 1) (cst (.int 2)))) (retM (tupM (consA (cst (.str "many")) (consA (xfldAM a dd c [4] "limit" (getv 0)) (nilA))))) (nxM))
    (seqM (ifS (orT (tstM (binM ixD (getv 1) (cst (.int 3)))) (tstM (binM ixD (getv 1) (cst (.int 5))))) (retM (tupM (consA (binM ixD (lstM (consA (cst (.str "step")) (consA (cst (.str "stopped")) (nilA)))) (clM intD (consA (binM ixD (getv 1) (cst (.int 5))) (nilA)))) (consA (xfldAM a dd c [3] "at" (getv 0)) (nilA))))) (nxM))
    (retM (ifM (tstM (binM ixD (getv 1) (cst (.int 4)))) (tupM (consA (cst (.str "stage")) (consA (xfldAM a dd c [2] "name" (getv 0)) (nilA)))) (tupM (consA (cst (.str "wrong")) (consA (xfldAM a dd c [1] "place" (getv 0)) (nilA)))))))))))
def m__law_error (a : Addr) (dd : Option Addr) (c : Nat) : List D → M D := fnM 2 (b__law_error a dd c)
theorem sc__law_did : FnScope ["_law_book", "_law_word", "_law_at", "_law_deed", "_law_e"] ["_law_book", "_law_word", "_law_at", "_law_deed"] (defScope s__law_did) := ⟨rfl, rfl, rfl, by decide +kernel, rfl, by decide +kernel, by decide +kernel⟩
noncomputable def b__law_did : DL.Env → M Fl :=
    tryM false 5 4 an_LayerError (seqM (ifS (tstM (binM eqD (getv 1) (cst (.str "do")))) (retM (tupM (consA (cst (.str "done")) (consA (methM 10 "do" (m_Book_do) (getv 0) (consA (getv 3) (nilA))) (nilA))))) (nxM))
    ((fun _ => stuck)))
    (fun a c dd => retM (clM (m__law_error a dd c) (consA (getv 4) (nilA))))
noncomputable def m__law_did : List D → M D := fnM 5 b__law_did
theorem sc__law_take : FnScope ["_law_bag_here", "_law_many", "_law_cell", "_law_drawn", "_law_begin", "_law_second"] ["_law_bag_here", "_law_many"] (defScope s__law_take) := ⟨rfl, rfl, rfl, by decide +kernel, rfl, by decide +kernel, by decide +kernel⟩
def b__law_take : DL.Env → M Fl :=
    seqM (ifS (tstM (binM eqD (binM ixD (getv 0) (cst (.int 0))) (cst (.int 0)))) (seqM (asgM (cst (.int 0)) (gNm 2))
    (seqM (ifS (tstM (binM ltD (binM ixD (getv 0) (cst (.int 2))) (clM lenD (consA (binM ixD (getv 0) (cst (.int 3))) (nilA))))) (asgM (binM ixD (binM ixD (getv 0) (cst (.int 3))) (binM ixD (getv 0) (cst (.int 2)))) (gNm 2)) (nxM))
    (seqM (augSM (getv 0) (cst (.int 2)) (cst (.int 1)) getLD addI setLD)
    (seqM (ifS (tstM (binM geD (getv 2) (cst (.int 1000000000000000000)))) (asgM (getv 2) (gSb (getv 0) (cst (.int 0)) setLD)) (nxM))
    (asgM (binM modD (binM addD (binM addD (binM mulD (binM ixD (getv 0) (cst (.int 1))) (cst (.int 48271))) (binM modD (getv 2) (cst (.int 2147483647)))) (binM mulD (cst (.int 7919)) (binM ixD (getv 0) (cst (.int 2))))) (cst (.int 2147483647))) (gSb (getv 0) (cst (.int 1)) setLD)))))) (nxM))
    (seqM (ifS (tstM (binM gtD (binM ixD (getv 0) (cst (.int 0))) (cst (.int 0)))) (seqM (asgM (binM modD (binM ixD (getv 0) (cst (.int 0))) (getv 1)) (gNm 3))
    (seqM (asgM (binM fdivD (binM ixD (getv 0) (cst (.int 0))) (getv 1)) (gSb (getv 0) (cst (.int 0)) setLD))
    (retM (getv 3)))) (nxM))
    (seqM (asgM (binM modD (binM mulD (binM addD (binM ixD (getv 0) (cst (.int 1))) (cst (.int 1))) (cst (.int 39373))) (cst (.int 1000000007))) (gNm 4))
    (seqM (asgM (binM modD (binM mulD (binM modD (binM mulD (getv 4) (getv 4)) (cst (.int 998244353))) (cst (.int 30011))) (cst (.int 998244353))) (gNm 5))
    (seqM (ifS (tstM (binM gtD (getv 1) (cst (.int 1000000)))) (retM (binM modD (binM addD (binM mulD (getv 5) (cst (.int 1000000007))) (getv 4)) (getv 1))) (nxM))
    (retM (binM modD (binM fdivD (getv 5) (cst (.int 7))) (getv 1)))))))
def m__law_take : List D → M D := fnM 6 b__law_take
theorem sc__law_names : FnScope ["_law_bag_here", "_law_many", "_law_letters", "_law_words", "_law_way", "_law_turn", "_law_base", "_law_at", "_law_k"] ["_law_bag_here", "_law_many"] (defScope s__law_names) := ⟨rfl, rfl, rfl, by decide +kernel, rfl, by decide +kernel, by decide +kernel⟩
def b__law_names : DL.Env → M Fl :=
    seqM (asgM (cst (.str "abcdefghijklmnopqrstuvwxyz")) (gNm 2))
    (seqM (asgM (cst (.str "file link folder gone cleared opaque keep made write delete clear copy rights run path arg text stage")) (gNm 3))
    (seqM (asgM (mtM "str" splitD (binM addD (getv 3) (cst (.str " a b ab zz all content"))) (consA (cst (.str " ")) (nilA))) (gNm 3))
    (seqM (asgM (tupM (consA (clM (m__law_take) (consA (getv 0) (consA (cst (.int 4)) (nilA)))) (consA (clM (m__law_take) (consA (getv 0) (consA (cst (.int 24)) (nilA)))) (nilA)))) (gTp [4, 5]))
    (seqM (asgM (mtM "str" joinD (cst (.str "")) (consA (lcM [8] (itRng1 (consA (binM addD (cst (.int 1)) (clM (m__law_take) (consA (getv 0) (consA (cst (.int 7)) (nilA))))) (nilA))) (gNm 8) (yesM) (binM ixD (getv 2) (clM (m__law_take) (consA (getv 0) (consA (cst (.int 26)) (nilA)))))) (nilA))) (gNm 6))
    (seqM (asgM (clM (m__law_take) (consA (getv 0) (consA (binM addD (clM lenD (consA (getv 6) (nilA))) (cst (.int 1))) (nilA)))) (gNm 7))
    (seqM (ifS (tstM (binM eqD (getv 4) (cst (.int 0)))) (retM (slM (binM addD (slM (getv 3) (someP (getv 5)) (noP)) (slM (getv 3) (noP) (someP (getv 5)))) (noP) (someP (getv 1)))) (nxM))
    (seqM (ifS (tstM (binM eqD (getv 4) (cst (.int 1)))) (retM (lcM [8] (itRng1 (consA (getv 1) (nilA))) (gNm 8) (yesM) (binM ixD (getv 2) (binM modD (binM addD (getv 5) (binM mulD (cst (.int 3)) (getv 8))) (cst (.int 26)))))) (nxM))
    (retM (lcM [8] (itRng1 (consA (getv 1) (nilA))) (gNm 8) (yesM) (binM addD (binM addD (slM (getv 6) (noP) (someP (getv 7))) (binM ixD (getv 2) (binM modD (binM addD (getv 5) (binM mulD (cst (.int 3)) (getv 8))) (cst (.int 26))))) (slM (getv 6) (someP (getv 7)) (noP))))))))))))
def m__law_names : List D → M D := fnM 9 b__law_names
theorem sc__law_path : FnScope ["_law_bag_here", "_law_names_here", "_law_least", "_law_k"] ["_law_bag_here", "_law_names_here", "_law_least"] (defScope s__law_path) := ⟨rfl, rfl, rfl, by decide +kernel, rfl, by decide +kernel, by decide +kernel⟩
def b__law_path : DL.Env → M Fl :=
    retM (clM tupleD (consA (lcM [3] (itRng1 (consA (binM addD (getv 2) (clM (m__law_take) (consA (getv 0) (consA (cst (.int 3)) (nilA))))) (nilA))) (gNm 3) (yesM) (binM ixD (getv 1) (clM (m__law_take) (consA (getv 0) (consA (clM lenD (consA (getv 1) (nilA))) (nilA)))))) (nilA)))
def m__law_path : List D → M D := fnM 4 b__law_path
theorem sc__law_text : FnScope ["_law_bag_here", "_law_some"] ["_law_bag_here"] (defScope s__law_text) := ⟨rfl, rfl, rfl, by decide +kernel, rfl, by decide +kernel, by decide +kernel⟩
def b__law_text : DL.Env → M Fl :=
    seqM (asgM (lstM (consA (cst (.str "")) (consA (cst (.str "a")) (consA (cst (.str "b")) (consA (cst (.str "one")) (consA (cst (.str "a b")) (consA (cst (.str "say \"x\"")) (consA (cst (.str "back\\slash")) (consA (cst (.str "two\nlines")) (consA (cst (.str "$arg")) (consA (cst (.str "-")) (consA (cst (.str "a,b")) (consA (binM mulD (cst (.str "x")) (cst (.int 20))) (nilA)))))))))))))) (gNm 1))
    (retM (binM ixD (getv 1) (clM (m__law_take) (consA (getv 0) (consA (cst (.int 12)) (nilA))))))
def m__law_text : List D → M D := fnM 2 b__law_text
theorem sc__law_said : FnScope ["_law_bag_here", "_law_names_here"] ["_law_bag_here", "_law_names_here"] (defScope s__law_said) := ⟨rfl, rfl, rfl, by decide +kernel, rfl, by decide +kernel, by decide +kernel⟩
def b__law_said : DL.Env → M Fl :=
    retM (binM ixD (lstM (consA (clM (m__law_text) (consA (getv 0) (nilA))) (consA (tupM (consA (cst (.str "arg")) (consA (binM ixD (getv 1) (clM (m__law_take) (consA (getv 0) (consA (clM lenD (consA (getv 1) (nilA))) (nilA))))) (nilA)))) (nilA)))) (clM intD (consA (binM eqD (clM (m__law_take) (consA (getv 0) (consA (cst (.int 4)) (nilA)))) (cst (.int 0))) (nilA))))
def m__law_said : List D → M D := fnM 2 b__law_said
theorem sc__law_step : FnScope ["_law_bag_here", "_law_names_here", "_law_sources", "_law_runs", "_law_way", "_law_path_here", "_law_rights", "_law_reads", "_law_back", "_law_k"] ["_law_bag_here", "_law_names_here", "_law_sources", "_law_runs"] (defScope s__law_step) := ⟨rfl, rfl, rfl, by decide +kernel, rfl, by decide +kernel, by decide +kernel⟩
def b__law_step : DL.Env → M Fl :=
    seqM (par3M 4 5 6 (consA (clM (m__law_take) (consA (getv 0) (consA (cst (.int 12)) (nilA)))) (consA (clM (m__law_path) (consA (getv 0) (consA (getv 1) (consA (cst (.int 1)) (nilA))))) (consA (clM (m__law_take) (consA (getv 0) (consA (cst (.int 8)) (nilA)))) (nilA)))))
    (seqM (ifS (tstM (binM eqD (getv 4) (cst (.int 0)))) (retM (tupM (consA (cst (.str "write")) (consA (getv 5) (consA (clM (m__law_said) (consA (getv 0) (consA (getv 1) (nilA)))) (consA (getv 6) (nilA))))))) (nxM))
    (seqM (ifS (tstM (binM eqD (getv 4) (cst (.int 1)))) (retM (tupM (consA (cst (.str "folder")) (consA (getv 5) (consA (getv 6) (nilA)))))) (nxM))
    (seqM (ifS (tstM (binM eqD (getv 4) (cst (.int 2)))) (retM (tupM (consA (cst (.str "link")) (consA (getv 5) (consA (clM (m__law_said) (consA (getv 0) (consA (getv 1) (nilA)))) (nilA)))))) (nxM))
    (seqM (ifS (tstM (binM ltD (getv 4) (cst (.int 5)))) (retM (tupM (consA (binM ixD (lstM (consA (cst (.str "delete")) (consA (cst (.str "clear")) (nilA)))) (binM subD (getv 4) (cst (.int 3)))) (consA (getv 5) (nilA))))) (nxM))
    (seqM (ifS (tstM (binM eqD (getv 4) (cst (.int 5)))) (retM (tupM (consA (cst (.str "rights")) (consA (getv 5) (consA (getv 6) (nilA)))))) (nxM))
    (seqM (ifS (andT (tstM (binM ltD (getv 4) (cst (.int 8)))) (tstM (binM gtD (getv 3) (cst (.int 0))))) (seqM (asgM (lcM [9] (itRng1 (consA (clM (m__law_take) (consA (getv 0) (consA (cst (.int 3)) (nilA)))) (nilA))) (gNm 9) (yesM) (tupM (consA (cst (.str "path")) (consA (clM (m__law_path) (consA (getv 0) (consA (getv 1) (consA (cst (.int 1)) (nilA))))) (nilA))))) (gNm 7))
    (seqM (asgM (binM addD (getv 7) (binM mulD (lstM (consA (binM ixD (lstM (consA (tupM (consA (cst (.str "arg")) (consA (binM ixD (getv 1) (cst (.int 0))) (nilA)))) (consA (tupM (consA (cst (.str "text")) (consA (clM (m__law_text) (consA (getv 0) (nilA))) (nilA)))) (nilA)))) (clM (m__law_take) (consA (getv 0) (consA (cst (.int 2)) (nilA))))) (nilA))) (clM (m__law_take) (consA (getv 0) (consA (cst (.int 2)) (nilA)))))) (gNm 7))
    (retM (tupM (consA (cst (.str "run")) (consA (binM ixD (lstM (consA (cst (.str "zip")) (consA (cst (.str "cc")) (nilA)))) (clM (m__law_take) (consA (getv 0) (consA (cst (.int 2)) (nilA))))) (consA (clM tupleD (consA (stM (getv 7) (binM ixD (lstM (consA (cst (.int 1)) (consA (unM negD (cst (.int 1))) (nilA)))) (clM (m__law_take) (consA (getv 0) (consA (cst (.int 2)) (nilA)))))) (nilA))) (consA (getv 5) (nilA))))))))) (nxM))
    (seqM (asgM (clM (m__law_path) (consA (getv 0) (consA (getv 1) (consA (clM intD (consA (binM gtD (clM (m__law_take) (consA (getv 0) (consA (cst (.int 6)) (nilA)))) (cst (.int 0))) (nilA))) (nilA))))) (gNm 8))
    (retM (tupM (consA (cst (.str "copy")) (consA (binM ixD (getv 2) (clM (m__law_take) (consA (getv 0) (consA (clM lenD (consA (getv 2) (nilA))) (nilA))))) (consA (getv 8) (consA (slM (getv 5) (noP) (someP (binM mulD (clM lenD (consA (getv 5) (nilA))) (clM intD (consA (binM gtD (clM (m__law_take) (consA (getv 0) (consA (cst (.int 8)) (nilA)))) (cst (.int 0))) (nilA)))))) (nilA))))))))))))))
def m__law_step : List D → M D := fnM 10 b__law_step
theorem sc__law_some_deed : FnScope ["_law_bag_here", "_law_names_here", "_law_stages_here", "_law_many", "_law_own", "_law_way", "_law_at", "_law_far", "_law_sources", "_law_step_here", "_law_stage"] ["_law_bag_here", "_law_names_here", "_law_stages_here"] (defScope s__law_some_deed) := ⟨rfl, rfl, rfl, by decide +kernel, rfl, by decide +kernel, by decide +kernel⟩
def b__law_some_deed : DL.Env → M Fl :=
    seqM (parM 3 4 (consA (clM lenD (consA (binM ixD (binM ixD (getv 2) (unM negD (cst (.int 1)))) (cst (.int 2))) (nilA))) (consA (binM ixD (binM ixD (getv 2) (unM negD (cst (.int 1)))) (cst (.int 0))) (nilA))))
    (seqM (par3M 5 6 7 (consA (clM (m__law_take) (consA (getv 0) (consA (cst (.int 8)) (nilA)))) (consA (clM (m__law_take) (consA (getv 0) (consA (binM addD (getv 3) (cst (.int 1))) (nilA)))) (consA (binM addD (binM addD (getv 3) (cst (.int 1))) (binM mulD (clM (m__law_take) (consA (getv 0) (consA (cst (.int 2)) (nilA)))) (binM powD (cst (.int 10)) (cst (.int 38))))) (nilA)))))
    (seqM (asgM (binM addD (lstM (consA (cst (.str "src")) (consA (cst (.str "base")) (nilA)))) (binM mulD (lcM [10] (itAny (slM (getv 2) (noP) (someP (unM negD (cst (.int 1)))))) (gNm 10) (yesM) (binM ixD (getv 10) (cst (.int 0)))) (cst (.int 2)))) (gNm 8))
    (seqM (asgM (clM (m__law_step) (consA (getv 0) (consA (getv 1) (consA (binM addD (getv 8) (binM mulD (lstM (consA (getv 4) (nilA))) (clM intD (consA (binM eqD (clM (m__law_take) (consA (getv 0) (consA (cst (.int 8)) (nilA)))) (cst (.int 0))) (nilA))))) (consA (cst (.int 1)) (nilA)))))) (gNm 9))
    (seqM (ifS (tstM (binM ltD (getv 5) (cst (.int 2)))) (retM (tupM (consA (cst (.str "lose")) (consA (binM ixD (lstM (consA (getv 6) (consA (getv 7) (nilA)))) (clM intD (consA (binM eqD (clM (m__law_take) (consA (getv 0) (consA (cst (.int 8)) (nilA)))) (cst (.int 0))) (nilA)))) (nilA))))) (nxM))
    (seqM (ifS (tstM (binM eqD (getv 5) (cst (.int 2)))) (retM (tupM (consA (cst (.str "change")) (consA (binM ixD (lstM (consA (getv 6) (consA (getv 7) (nilA)))) (clM intD (consA (binM eqD (clM (m__law_take) (consA (getv 0) (consA (cst (.int 8)) (nilA)))) (cst (.int 0))) (nilA)))) (consA (getv 9) (nilA)))))) (nxM))
    (retM (tupM (consA (cst (.str "put")) (consA (binM ixD (lstM (consA (getv 6) (consA (getv 7) (nilA)))) (clM intD (consA (binM eqD (clM (m__law_take) (consA (getv 0) (consA (cst (.int 12)) (nilA)))) (cst (.int 0))) (nilA)))) (consA (getv 9) (nilA)))))))))))
def m__law_some_deed : List D → M D := fnM 11 b__law_some_deed
theorem sc__law_mixed : FnScope ["_law_bag_here", "_law_things", "_law_found", "_law_thing"] ["_law_bag_here", "_law_things"] (defScope s__law_mixed) := ⟨rfl, rfl, rfl, by decide +kernel, rfl, by decide +kernel, by decide +kernel⟩
def b__law_mixed : DL.Env → M Fl :=
    seqM (asgM (lstM (nilA)) (gNm 2))
    (seqM (forM_ (itAny (getv 1)) (gNm 3) (dropM (mtM "list" insertD (getv 2) (consA (clM (m__law_take) (consA (getv 0) (consA (binM addD (clM lenD (consA (getv 2) (nilA))) (cst (.int 1))) (nilA)))) (consA (getv 3) (nilA))))))
    (retM (getv 2)))
def m__law_mixed : List D → M D := fnM 4 b__law_mixed
theorem sc__law_steps : FnScope ["_law_bag_here", "_law_names_here", "_law_sources", "_law_many", "_law_runs", "_law_found", "_law_k", "_law_left", "_law_step_here"] ["_law_bag_here", "_law_names_here", "_law_sources", "_law_many", "_law_runs"] (defScope s__law_steps) := ⟨rfl, rfl, rfl, by decide +kernel, rfl, by decide +kernel, by decide +kernel⟩
def b__law_steps : DL.Env → M Fl :=
    seqM (asgM (lstM (nilA)) (gNm 5))
    (seqM (forM_ (itRng1 (consA (clM (m__law_take) (consA (getv 0) (consA (binM addD (getv 3) (cst (.int 1))) (nilA)))) (nilA))) (gNm 6) (seqM (asgM (binM subD (getv 4) (clM lenD (consA (lcM [8] (itAny (getv 5)) (gNm 8) (tstM (binM eqD (binM ixD (getv 8) (cst (.int 0))) (cst (.str "run")))) (getv 8)) (nilA)))) (gNm 7))
    (dropM (mtM "list" appendD (getv 5) (consA (clM (m__law_step) (consA (getv 0) (consA (getv 1) (consA (getv 2) (consA (getv 7) (nilA)))))) (nilA))))))
    (retM (getv 5)))
def m__law_steps : List D → M D := fnM 9 b__law_steps
theorem sc__law_recipe : FnScope ["_law_bag_here", "_law_names_here", "_law_inputs", "_law_many", "_law_top", "_law_found", "_law_called", "_law_k", "_law_sources", "_law_start"] ["_law_bag_here", "_law_names_here", "_law_inputs", "_law_many", "_law_top"] (defScope s__law_recipe) := ⟨rfl, rfl, rfl, by decide +kernel, rfl, by decide +kernel, by decide +kernel⟩
def b__law_recipe : DL.Env → M Fl :=
    seqM (parM 5 6 (consA (lstM (nilA)) (consA (clM (m__law_mixed) (consA (getv 0) (consA (lstM (consA (cst (.str "first")) (consA (cst (.str "last")) (consA (cst (.str "make")) (consA (cst (.str "other")) (nilA)))))) (nilA)))) (nilA))))
    (seqM (forM_ (itRng1 (consA (binM addD (cst (.int 1)) (clM (m__law_take) (consA (getv 0) (consA (getv 4) (nilA))))) (nilA))) (gNm 7) (seqM (asgM (binM addD (clM listD (consA (getv 2) (nilA))) (binM mulD (slM (getv 6) (noP) (someP (getv 7))) (cst (.int 2)))) (gNm 8))
    (seqM (asgM (binM ixD (binM addD (lstM (consA (cst .non) (nilA))) (getv 8)) (clM (m__law_take) (consA (getv 0) (consA (binM addD (cst (.int 1)) (clM lenD (consA (getv 8) (nilA)))) (nilA))))) (gNm 9))
    (dropM (mtM "list" appendD (getv 5) (consA (tupM (consA (binM ixD (getv 6) (getv 7)) (consA (getv 9) (consA (clM (m__law_steps) (consA (getv 0) (consA (getv 1) (consA (getv 8) (consA (getv 3) (consA (binM addD (cst (.int 1)) (clM intD (consA (binM eqD (getv 7) (cst (.int 0))) (nilA)))) (nilA))))))) (nilA))))) (nilA)))))))
    (retM (getv 5)))
def m__law_recipe : List D → M D := fnM 10 b__law_recipe
theorem sc__law_stages : FnScope ["_law_bag_here", "_law_names_here", "_law_long"] ["_law_bag_here", "_law_names_here"] (defScope s__law_stages) := ⟨rfl, rfl, rfl, by decide +kernel, rfl, by decide +kernel, by decide +kernel⟩
def b__law_stages : DL.Env → M Fl :=
    seqM (asgM (clM intD (consA (binM eqD (clM (m__law_take) (consA (getv 0) (consA (cst (.int 4)) (nilA)))) (cst (.int 0))) (nilA))) (gNm 2))
    (retM (clM (m__law_recipe) (consA (getv 0) (consA (getv 1) (consA (lstM (consA (cst (.str "src")) (consA (cst (.str "base")) (nilA)))) (consA (binM ixD (lstM (consA (cst (.int 3)) (consA (cst (.int 8)) (nilA)))) (getv 2)) (consA (binM ixD (lstM (consA (cst (.int 3)) (consA (cst (.int 1)) (nilA)))) (getv 2)) (nilA))))))))
def m__law_stages : List D → M D := fnM 3 b__law_stages
theorem sc_law : FnScope ["_law_script", "_law_bag_here", "_law_names_here", "_law_handed", "_law_first", "_law_given", "_law_told", "_law_book", "_law_log", "_law_stages_here", "_law_turn", "_law_deed", "_law_due", "_law_found", "_law_taken", "_law_kept", "_law_name", "_law_start", "_law_steps_here", "_law_recipe_here", "_law_rows"] ["_law_script"] (defScope s_law) := ⟨rfl, rfl, rfl, by decide +kernel, rfl, by decide +kernel, by decide +kernel⟩
noncomputable def b_law : DL.Env → M Fl :=
    seqM (asgM (clM (m__law_bag) (consA (getv 0) (nilA))) (gNm 1))
    (seqM (asgM (clM (m__law_names) (consA (getv 1) (consA (cst (.int 3)) (nilA)))) (gNm 2))
    (seqM (asgM (clM (m__law_stages) (consA (getv 1) (consA (getv 2) (nilA)))) (gNm 3))
    (seqM (asgM (lcM [16, 17, 18] (itAny (getv 3)) (gTp [16, 17, 18]) (yesM) (tupM (consA (getv 16) (consA (getv 17) (consA (clM listD (consA (getv 18) (nilA))) (nilA)))))) (gNm 4))
    (seqM (parM 5 6 (consA (clM (mkM 8 (hushM m_Recipe___init__)) (consA (getv 3) (nilA))) (consA (lstM (nilA)) (nilA))))
    (seqM (par3M 7 8 9 (consA (clM (mkM 10 (hushM m_Book___init__)) (consA (getv 5) (nilA))) (consA (lstM (nilA)) (consA (getv 4) (nilA)))))
    (seqM (dropM (mtM "list" appendD (binM ixD (binM ixD (getv 3) (unM negD (cst (.int 1)))) (cst (.int 2))) (consA (cst (.int 0)) (nilA))))
    (seqM (forM_ (itRng1 (consA (cst (.int 12)) (nilA))) (gNm 10) (seqM (asgM (clM (m__law_some_deed) (consA (getv 1) (consA (getv 2) (consA (getv 9) (nilA))))) (gNm 11))
    (seqM (asgM (clM (m__law_behind) (consA (getv 9) (consA (getv 11) (nilA)))) (gNm 12))
    (seqM (asgM (clM (m__law_did) (consA (getv 7) (consA (cst (.str "do")) (consA (cst (.int 0)) (consA (getv 11) (nilA)))))) (gNm 13))
    (seqM (ifS (tstM (binM neD (binM ixD (getv 12) (cst (.int 0))) (cst (.str "done")))) (ifS (notT (tstM (clM (m__law_alike) (consA (getv 13) (consA (getv 12) (nilA)))))) (retM (cst (.bl false))) (nxM)) (seqM (asgM (ifM (tstM (binM eqD (binM ixD (getv 11) (cst (.int 0))) (cst (.str "put")))) (cst .non) (binM ixD (binM ixD (binM ixD (getv 9) (unM negD (cst (.int 1)))) (cst (.int 2))) (binM ixD (getv 11) (cst (.int 1))))) (gNm 14))
    (seqM (ifS (notT (tstM (clM (m__law_alike) (consA (getv 13) (consA (tupM (consA (cst (.str "done")) (consA (getv 14) (nilA)))) (nilA)))))) (retM (cst (.bl false))) (nxM))
    (parM 8 9 (consA (binM addD (getv 8) (lstM (consA (getv 11) (nilA)))) (consA (binM ixD (getv 12) (cst (.int 1))) (nilA)))))))
    (seqM (ifS (notT (tstM (clM (m__law_book_right) (consA (getv 7) (consA (getv 4) (consA (getv 8) (consA (getv 9) (nilA)))))))) (retM (cst (.bl false))) (nxM))
    (dropM (mtM "list" appendD (getv 6) (consA (tupM (consA (methM 10 "recipe" (m_Book_recipe) (getv 7) nilA) (consA (getv 9) (nilA)))) (nilA))))))))))
    (seqM (asgM (lstM (consA (lcM [19, 20] (itAny (getv 6)) (gTp [19, 20]) (yesM) (methM 8 "stages" (m_Recipe_stages) (getv 19) nilA)) (consA (lcM [19, 20] (itAny (getv 6)) (gTp [19, 20]) (yesM) (getv 20)) (nilA)))) (gNm 15))
    (seqM (ifS (orT (tstM (binM neD (methM 8 "stages" (m_Recipe_stages) (getv 5) nilA) (getv 4))) (tstM (binM neD (binM ixD (getv 15) (cst (.int 0))) (binM ixD (getv 15) (cst (.int 1)))))) (retM (cst (.bl false))) (nxM))
    (retM (orV (binM (eqOD not 10 m_Book___eq__) (clM (mkM 10 (hushM m_Book___init__)) (consA (clM (mkM 8 (hushM m_Recipe___init__)) (consA (getv 4) (nilA))) (nilA))) (getv 7)) (binM eqD (getv 8) (lstM (nilA))))))))))))))
noncomputable def m_law : List D → M D := fnM 21 b_law
structure Txt (K : PySem.W.Frag) (mg : Str → Option Value) (Γ : Nat → Addr) : Prop where
  d_is_name : DefOk K mg "is_name" "is_name" s_is_name ["thing"]
  d_is_word : DefOk K mg "is_word" "is_word" s_is_word ["thing", "word"]
  d_is_argument : DefOk K mg "is_argument" "is_argument" s_is_argument ["thing"]
  d_is_path : DefOk K mg "is_path" "is_path" s_is_path ["thing"]
  d_is_short : DefOk K mg "is_short" "is_short" s_is_short ["thing"]
  d_is_target : DefOk K mg "is_target" "is_target" s_is_target ["thing"]
  d_is_text : DefOk K mg "is_text" "is_text" s_is_text ["thing"]
  d_is_read : DefOk K mg "is_read" "is_read" s_is_read ["thing"]
  d_are_reads : DefOk K mg "are_reads" "are_reads" s_are_reads ["thing"]
  d_is_integer : DefOk K mg "is_integer" "is_integer" s_is_integer ["thing"]
  d_is_rights : DefOk K mg "is_rights" "is_rights" s_is_rights ["thing"]
  d_is_told : DefOk K mg "is_told" "is_told" s_is_told ["thing"]
  d_is_step : DefOk K mg "is_step" "is_step" s_is_step ["thing"]
  d_are_steps : DefOk K mg "are_steps" "are_steps" s_are_steps ["thing"]
  d_is_stage : DefOk K mg "is_stage" "is_stage" s_is_stage ["thing"]
  d_are_stages : DefOk K mg "are_stages" "are_stages" s_are_stages ["thing"]
  d_sources_of : DefOk K mg "sources_of" "sources_of" s_sources_of ["start", "steps"]
  d__law_alike : DefOk K mg "_law_alike" "_law_alike" s__law_alike ["_law_found", "_law_due"]
  d__law_bag : DefOk K mg "_law_bag" "_law_bag" s__law_bag ["_law_script"]
  d__law_behind : DefOk K mg "_law_behind" "_law_behind" s__law_behind ["_law_stages_here", "_law_deed"]
  d__law_book_right : DefOk K mg "_law_book_right" "_law_book_right" s__law_book_right ["_law_book", "_law_first", "_law_log", "_law_stages_here"]
  d_last_name : DefOk K mg "last_name" "last_name" s_last_name ["recipe"]
  d_changed : DefOk K mg "changed" "changed" s_changed ["recipe", "deed"]
  d_is_deed : DefOk K mg "is_deed" "is_deed" s_is_deed ["thing"]
  d__law_error : DefOk K mg "_law_error" "_law_error" s__law_error ["_law_e"]
  d__law_did : DefOk K mg "_law_did" "_law_did" s__law_did ["_law_book", "_law_word", "_law_at", "_law_deed"]
  d__law_take : DefOk K mg "_law_take" "_law_take" s__law_take ["_law_bag_here", "_law_many"]
  d__law_names : DefOk K mg "_law_names" "_law_names" s__law_names ["_law_bag_here", "_law_many"]
  d__law_path : DefOk K mg "_law_path" "_law_path" s__law_path ["_law_bag_here", "_law_names_here", "_law_least"]
  d__law_text : DefOk K mg "_law_text" "_law_text" s__law_text ["_law_bag_here"]
  d__law_said : DefOk K mg "_law_said" "_law_said" s__law_said ["_law_bag_here", "_law_names_here"]
  d__law_step : DefOk K mg "_law_step" "_law_step" s__law_step ["_law_bag_here", "_law_names_here", "_law_sources", "_law_runs"]
  d__law_some_deed : DefOk K mg "_law_some_deed" "_law_some_deed" s__law_some_deed ["_law_bag_here", "_law_names_here", "_law_stages_here"]
  d__law_mixed : DefOk K mg "_law_mixed" "_law_mixed" s__law_mixed ["_law_bag_here", "_law_things"]
  d__law_steps : DefOk K mg "_law_steps" "_law_steps" s__law_steps ["_law_bag_here", "_law_names_here", "_law_sources", "_law_many", "_law_runs"]
  d__law_recipe : DefOk K mg "_law_recipe" "_law_recipe" s__law_recipe ["_law_bag_here", "_law_names_here", "_law_inputs", "_law_many", "_law_top"]
  d__law_stages : DefOk K mg "_law_stages" "_law_stages" s__law_stages ["_law_bag_here", "_law_names_here"]
  d_law : DefOk K mg "law" "law" s_law ["_law_script"]
  n_ValueError : mg "ValueError" = none
  n_abs : mg "abs" = none
  n_all : mg "all" = none
  n_bool : mg "bool" = none
  n_enumerate : mg "enumerate" = none
  n_int : mg "int" = none
  n_isinstance : mg "isinstance" = none
  n_len : mg "len" = none
  n_list : mg "list" = none
  n_range : mg "range" = none
  n_repr : mg "repr" = none
  n_set : mg "set" = none
  n_str : mg "str" = none
  n_sum : mg "sum" = none
  n_tuple : mg "tuple" = none
  k_LETTERS : ConstIs K mg "LETTERS" c_LETTERS
  k_MOST_DEEDS : ConstIs K mg "MOST_DEEDS" c_MOST_DEEDS
  k_MOST_LETTERS : ConstIs K mg "MOST_LETTERS" c_MOST_LETTERS
  k_MOST_NAMES : ConstIs K mg "MOST_NAMES" c_MOST_NAMES
  k_MOST_READS : ConstIs K mg "MOST_READS" c_MOST_READS
  k_MOST_RIGHTS : ConstIs K mg "MOST_RIGHTS" c_MOST_RIGHTS
  k_MOST_RUNS : ConstIs K mg "MOST_RUNS" c_MOST_RUNS
  k_MOST_SIGNS : ConstIs K mg "MOST_SIGNS" c_MOST_SIGNS
  k_MOST_STAGES : ConstIs K mg "MOST_STAGES" c_MOST_STAGES
  k_MOST_STEPS : ConstIs K mg "MOST_STEPS" c_MOST_STEPS
  g_LayerError : mg "LayerError" = some (.ref (Γ 0))
  g_Wrong : mg "Wrong" = some (.ref (Γ 1))
  g_NoStage : mg "NoStage" = some (.ref (Γ 2))
  g_NoStep : mg "NoStep" = some (.ref (Γ 3))
  g_TooMany : mg "TooMany" = some (.ref (Γ 4))
  g_NoDeed : mg "NoDeed" = some (.ref (Γ 5))
  g_Nothing : mg "Nothing" = some (.ref (Γ 6))
  g_Stopped : mg "Stopped" = some (.ref (Γ 7))
  g_Recipe : mg "Recipe" = some (.ref (Γ 8))
  g_Cache : mg "Cache" = some (.ref (Γ 9))
  g_Book : mg "Book" = some (.ref (Γ 10))
  d_Wrong_init : InitOk K (Γ 1) "Wrong.__init__" s_Wrong_init ["self", "place"]
  d_NoStage_init : InitOk K (Γ 2) "NoStage.__init__" s_NoStage_init ["self", "name"]
  d_NoStep_init : InitOk K (Γ 3) "NoStep.__init__" s_NoStep_init ["self", "at"]
  d_TooMany_init : InitOk K (Γ 4) "TooMany.__init__" s_TooMany_init ["self", "limit"]
  x_LayerError : XCls K (Γ 0)
  x_Wrong : XCls K (Γ 1)
  x_NoStage : XCls K (Γ 2)
  x_NoStep : XCls K (Γ 3)
  x_TooMany : XCls K (Γ 4)
  x_NoDeed : XCls K (Γ 5)
  x_Nothing : XCls K (Γ 6)
  x_Stopped : XCls K (Γ 7)
  f_NoStage_name : NoF K (Γ 2) "name"
  f_NoStep_at : NoF K (Γ 3) "at"
  f_TooMany_limit : NoF K (Γ 4) "limit"
  f_Wrong_place : NoF K (Γ 1) "place"
  e_NoDeed : PySem.W.excIn K (Γ 5) [.type "ValueError", .type "Exception", .type "BaseException", .type "object"] "ValueError.__new__" = true
  r_LayerError : ClX.CRead K (Γ 0) (.type "type")
  a_LayerError : PySem.W.findCls K (.ref (Γ 0)) (.type "type") "__init__" = some (.val (.builtin "ValueError.__init__"))
  i_Wrong : ∀ n b, an_Wrong n = some b → XCls K (Γ n) ∧ PySem.W.kitOne K (.ref (Γ n)) (.ref (Γ 1)) = some b
  i_NoStage : ∀ n b, an_NoStage n = some b → XCls K (Γ n) ∧ PySem.W.kitOne K (.ref (Γ n)) (.ref (Γ 2)) = some b
  i_NoStep : ∀ n b, an_NoStep n = some b → XCls K (Γ n) ∧ PySem.W.kitOne K (.ref (Γ n)) (.ref (Γ 3)) = some b
  i_TooMany : ∀ n b, an_TooMany n = some b → XCls K (Γ n) ∧ PySem.W.kitOne K (.ref (Γ n)) (.ref (Γ 4)) = some b
  i_NoDeed : ∀ n b, an_NoDeed n = some b → XCls K (Γ n) ∧ PySem.W.kitOne K (.ref (Γ n)) (.ref (Γ 5)) = some b
  i_Nothing : ∀ n b, an_Nothing n = some b → XCls K (Γ n) ∧ PySem.W.kitOne K (.ref (Γ n)) (.ref (Γ 6)) = some b
  i_Stopped : ∀ n b, an_Stopped n = some b → XCls K (Γ n) ∧ PySem.W.kitOne K (.ref (Γ n)) (.ref (Γ 7)) = some b
  i_ValueError : ∀ n b, an_ValueError n = some b → XCls K (Γ n) ∧ PySem.W.kitOne K (.ref (Γ n)) (.type "ValueError") = some b
  t_LayerError : ∀ n b, an_LayerError n = some b → PySem.W.exmOne K (.ref (Γ n)) (.ref (Γ 0)) = some b
  o_Recipe : OCls K (Γ 8)
  o_Cache : OCls K (Γ 9)
  o_Book : OCls K (Γ 10)
  n_Book_deeds : NoAttr K (Γ 10) "deeds"
  n_Book_own_cache : NoAttr K (Γ 10) "own_cache"
  n_Book_recipes_kept : NoAttr K (Γ 10) "recipes_kept"
  n_Book_undone : NoAttr K (Γ 10) "undone"
  n_Cache_kept_pairs : NoAttr K (Γ 9) "kept_pairs"
  n_Recipe_stage_rows : NoAttr K (Γ 8) "stage_rows"
  j_Recipe : IsC K (Γ 8)
  w_Recipe : ∀ n b, iso_Recipe n = some b → ICls K (Γ n) ∧ PySem.W.kitOne K (.ref (Γ n)) (.ref (Γ 8)) = some b
  j_Book : IsC K (Γ 10)
  w_Book : ∀ n b, iso_Book n = some b → ICls K (Γ n) ∧ PySem.W.kitOne K (.ref (Γ n)) (.ref (Γ 10)) = some b
  ne_Book : PySem.W.findIn K (.ref (Γ 10)) "__ne__" = some (some (.builtin "object.__ne__"))
  d_Book_first : MethOk K (Γ 10) "first" "Book.first" s_Book_first ["self"]
  d_Recipe___eq__ : MethOk K (Γ 8) "__eq__" "Recipe.__eq__" s_Recipe___eq__ ["self", "other"]
  d_Book___eq__ : MethOk K (Γ 10) "__eq__" "Book.__eq__" s_Book___eq__ ["self", "other"]
  d_Cache___init__ : MethOk K (Γ 9) "__init__" "Cache.__init__" s_Cache___init__ ["self"]
  d_Book___init__ : MethOk K (Γ 10) "__init__" "Book.__init__" s_Book___init__ ["self", "recipe"]
  d_Book_recipe : MethOk K (Γ 10) "recipe" "Book.recipe" s_Book_recipe ["self"]
  d_Recipe___init__ : MethOk K (Γ 8) "__init__" "Recipe.__init__" s_Recipe___init__ ["self", "stages"]
  d_Recipe_stages : MethOk K (Γ 8) "stages" "Recipe.stages" s_Recipe_stages ["self"]
  d_Book___len__ : MethOk K (Γ 10) "__len__" "Book.__len__" s_Book___len__ ["self"]
  d_Book_log : MethOk K (Γ 10) "log" "Book.log" s_Book_log ["self"]
  d_Recipe_stage_named : MethOk K (Γ 8) "stage_named" "Recipe.stage_named" s_Recipe_stage_named ["self", "name"]
  d_Recipe_steps : MethOk K (Γ 8) "steps" "Recipe.steps" s_Recipe_steps ["self", "name"]
  d_Recipe_with_steps : MethOk K (Γ 8) "with_steps" "Recipe.with_steps" s_Recipe_with_steps ["self", "name", "steps"]
  d_Book_do : MethOk K (Γ 10) "do" "Book.do" s_Book_do ["self", "deed"]
section
variable {P : Program} {w : World} {K : PySem.W.Frag} {mg : Str → Option Value} {base : Heap} {Γ : Nat → Addr}
theorem txt_mk {h : Heap} {C0 C1 C2 C3 C4 C5 C6 C7 C8 C9 C10 : Addr} (X : K.In h) (G : h.Ns mainGlobals mg) (d_is_name : DefOk K mg "is_name" "is_name" s_is_name ["thing"]) (d_is_word : DefOk K mg "is_word" "is_word" s_is_word ["thing", "word"]) (d_is_argument : DefOk K mg "is_argument" "is_argument" s_is_argument ["thing"]) (d_is_path : DefOk K mg "is_path" "is_path" s_is_path ["thing"]) (d_is_short : DefOk K mg "is_short" "is_short" s_is_short ["thing"]) (d_is_target : DefOk K mg "is_target" "is_target" s_is_target ["thing"]) (d_is_text : DefOk K mg "is_text" "is_text" s_is_text ["thing"]) (d_is_read : DefOk K mg "is_read" "is_read" s_is_read ["thing"]) (d_are_reads : DefOk K mg "are_reads" "are_reads" s_are_reads ["thing"]) (d_is_integer : DefOk K mg "is_integer" "is_integer" s_is_integer ["thing"]) (d_is_rights : DefOk K mg "is_rights" "is_rights" s_is_rights ["thing"]) (d_is_told : DefOk K mg "is_told" "is_told" s_is_told ["thing"]) (d_is_step : DefOk K mg "is_step" "is_step" s_is_step ["thing"]) (d_are_steps : DefOk K mg "are_steps" "are_steps" s_are_steps ["thing"]) (d_is_stage : DefOk K mg "is_stage" "is_stage" s_is_stage ["thing"]) (d_are_stages : DefOk K mg "are_stages" "are_stages" s_are_stages ["thing"]) (d_sources_of : DefOk K mg "sources_of" "sources_of" s_sources_of ["start", "steps"]) (d__law_alike : DefOk K mg "_law_alike" "_law_alike" s__law_alike ["_law_found", "_law_due"]) (d__law_bag : DefOk K mg "_law_bag" "_law_bag" s__law_bag ["_law_script"]) (d__law_behind : DefOk K mg "_law_behind" "_law_behind" s__law_behind ["_law_stages_here", "_law_deed"]) (d__law_book_right : DefOk K mg "_law_book_right" "_law_book_right" s__law_book_right ["_law_book", "_law_first", "_law_log", "_law_stages_here"]) (d_last_name : DefOk K mg "last_name" "last_name" s_last_name ["recipe"]) (d_changed : DefOk K mg "changed" "changed" s_changed ["recipe", "deed"]) (d_is_deed : DefOk K mg "is_deed" "is_deed" s_is_deed ["thing"]) (d__law_error : DefOk K mg "_law_error" "_law_error" s__law_error ["_law_e"]) (d__law_did : DefOk K mg "_law_did" "_law_did" s__law_did ["_law_book", "_law_word", "_law_at", "_law_deed"]) (d__law_take : DefOk K mg "_law_take" "_law_take" s__law_take ["_law_bag_here", "_law_many"]) (d__law_names : DefOk K mg "_law_names" "_law_names" s__law_names ["_law_bag_here", "_law_many"]) (d__law_path : DefOk K mg "_law_path" "_law_path" s__law_path ["_law_bag_here", "_law_names_here", "_law_least"]) (d__law_text : DefOk K mg "_law_text" "_law_text" s__law_text ["_law_bag_here"]) (d__law_said : DefOk K mg "_law_said" "_law_said" s__law_said ["_law_bag_here", "_law_names_here"]) (d__law_step : DefOk K mg "_law_step" "_law_step" s__law_step ["_law_bag_here", "_law_names_here", "_law_sources", "_law_runs"]) (d__law_some_deed : DefOk K mg "_law_some_deed" "_law_some_deed" s__law_some_deed ["_law_bag_here", "_law_names_here", "_law_stages_here"]) (d__law_mixed : DefOk K mg "_law_mixed" "_law_mixed" s__law_mixed ["_law_bag_here", "_law_things"]) (d__law_steps : DefOk K mg "_law_steps" "_law_steps" s__law_steps ["_law_bag_here", "_law_names_here", "_law_sources", "_law_many", "_law_runs"]) (d__law_recipe : DefOk K mg "_law_recipe" "_law_recipe" s__law_recipe ["_law_bag_here", "_law_names_here", "_law_inputs", "_law_many", "_law_top"]) (d__law_stages : DefOk K mg "_law_stages" "_law_stages" s__law_stages ["_law_bag_here", "_law_names_here"]) (d_law : DefOk K mg "law" "law" s_law ["_law_script"]) (n_ValueError : mg "ValueError" = none) (n_abs : mg "abs" = none) (n_all : mg "all" = none) (n_bool : mg "bool" = none) (n_enumerate : mg "enumerate" = none) (n_int : mg "int" = none) (n_isinstance : mg "isinstance" = none) (n_len : mg "len" = none) (n_list : mg "list" = none) (n_range : mg "range" = none) (n_repr : mg "repr" = none) (n_set : mg "set" = none) (n_str : mg "str" = none) (n_sum : mg "sum" = none) (n_tuple : mg "tuple" = none) (k_LETTERS : ConstIs K mg "LETTERS" c_LETTERS) (k_MOST_DEEDS : ConstIs K mg "MOST_DEEDS" c_MOST_DEEDS) (k_MOST_LETTERS : ConstIs K mg "MOST_LETTERS" c_MOST_LETTERS) (k_MOST_NAMES : ConstIs K mg "MOST_NAMES" c_MOST_NAMES) (k_MOST_READS : ConstIs K mg "MOST_READS" c_MOST_READS) (k_MOST_RIGHTS : ConstIs K mg "MOST_RIGHTS" c_MOST_RIGHTS) (k_MOST_RUNS : ConstIs K mg "MOST_RUNS" c_MOST_RUNS) (k_MOST_SIGNS : ConstIs K mg "MOST_SIGNS" c_MOST_SIGNS) (k_MOST_STAGES : ConstIs K mg "MOST_STAGES" c_MOST_STAGES) (k_MOST_STEPS : ConstIs K mg "MOST_STEPS" c_MOST_STEPS) (g_LayerError : PySem.W.nsIn K mainGlobals "LayerError" = some (some (.ref C0))) (g_Wrong : PySem.W.nsIn K mainGlobals "Wrong" = some (some (.ref C1))) (g_NoStage : PySem.W.nsIn K mainGlobals "NoStage" = some (some (.ref C2))) (g_NoStep : PySem.W.nsIn K mainGlobals "NoStep" = some (some (.ref C3))) (g_TooMany : PySem.W.nsIn K mainGlobals "TooMany" = some (some (.ref C4))) (g_NoDeed : PySem.W.nsIn K mainGlobals "NoDeed" = some (some (.ref C5))) (g_Nothing : PySem.W.nsIn K mainGlobals "Nothing" = some (some (.ref C6))) (g_Stopped : PySem.W.nsIn K mainGlobals "Stopped" = some (some (.ref C7))) (g_Recipe : PySem.W.nsIn K mainGlobals "Recipe" = some (some (.ref C8))) (g_Cache : PySem.W.nsIn K mainGlobals "Cache" = some (some (.ref C9))) (g_Book : PySem.W.nsIn K mainGlobals "Book" = some (some (.ref C10))) (d_Wrong_init : InitOk K C1 "Wrong.__init__" s_Wrong_init ["self", "place"]) (d_NoStage_init : InitOk K C2 "NoStage.__init__" s_NoStage_init ["self", "name"]) (d_NoStep_init : InitOk K C3 "NoStep.__init__" s_NoStep_init ["self", "at"]) (d_TooMany_init : InitOk K C4 "TooMany.__init__" s_TooMany_init ["self", "limit"]) (x_LayerError : XCls K C0) (x_Wrong : XCls K C1) (x_NoStage : XCls K C2) (x_NoStep : XCls K C3) (x_TooMany : XCls K C4) (x_NoDeed : XCls K C5) (x_Nothing : XCls K C6) (x_Stopped : XCls K C7) (f_NoStage_name : PySem.W.findIn K (.ref C2) "name" = some none) (f_NoStep_at : PySem.W.findIn K (.ref C3) "at" = some none) (f_TooMany_limit : PySem.W.findIn K (.ref C4) "limit" = some none) (f_Wrong_place : PySem.W.findIn K (.ref C1) "place" = some none) (e_NoDeed : PySem.W.excIn K C5 [.type "ValueError", .type "Exception", .type "BaseException", .type "object"] "ValueError.__new__" = true) (r1_LayerError : PySem.W.readsIn K C0 (.type "type") = true) (r2_LayerError : PySem.W.specialIn K (.ref C0) "__getattribute__" = some (some (.builtin "type.__getattribute__"))) (a_LayerError : PySem.W.findCls K (.ref C0) (.type "type") "__init__" = some (.val (.builtin "ValueError.__init__"))) (s_Wrong_Wrong : PySem.W.subIn K (.ref C1) (.ref C1) = some true) (s_NoDeed_Wrong : PySem.W.subIn K (.ref C5) (.ref C1) = some false) (s_TooMany_Wrong : PySem.W.subIn K (.ref C4) (.ref C1) = some false) (s_NoStep_Wrong : PySem.W.subIn K (.ref C3) (.ref C1) = some false) (s_NoStage_Wrong : PySem.W.subIn K (.ref C2) (.ref C1) = some false) (s_NoStage_NoStage : PySem.W.subIn K (.ref C2) (.ref C2) = some true) (s_NoDeed_NoStage : PySem.W.subIn K (.ref C5) (.ref C2) = some false) (s_TooMany_NoStage : PySem.W.subIn K (.ref C4) (.ref C2) = some false) (s_NoStep_NoStage : PySem.W.subIn K (.ref C3) (.ref C2) = some false) (s_Wrong_NoStage : PySem.W.subIn K (.ref C1) (.ref C2) = some false) (s_NoStep_NoStep : PySem.W.subIn K (.ref C3) (.ref C3) = some true) (s_NoDeed_NoStep : PySem.W.subIn K (.ref C5) (.ref C3) = some false) (s_TooMany_NoStep : PySem.W.subIn K (.ref C4) (.ref C3) = some false) (s_NoStage_NoStep : PySem.W.subIn K (.ref C2) (.ref C3) = some false) (s_Wrong_NoStep : PySem.W.subIn K (.ref C1) (.ref C3) = some false) (s_TooMany_TooMany : PySem.W.subIn K (.ref C4) (.ref C4) = some true) (s_NoDeed_TooMany : PySem.W.subIn K (.ref C5) (.ref C4) = some false) (s_NoStep_TooMany : PySem.W.subIn K (.ref C3) (.ref C4) = some false) (s_NoStage_TooMany : PySem.W.subIn K (.ref C2) (.ref C4) = some false) (s_Wrong_TooMany : PySem.W.subIn K (.ref C1) (.ref C4) = some false) (s_NoDeed_NoDeed : PySem.W.subIn K (.ref C5) (.ref C5) = some true) (s_TooMany_NoDeed : PySem.W.subIn K (.ref C4) (.ref C5) = some false) (s_NoStep_NoDeed : PySem.W.subIn K (.ref C3) (.ref C5) = some false) (s_NoStage_NoDeed : PySem.W.subIn K (.ref C2) (.ref C5) = some false) (s_Wrong_NoDeed : PySem.W.subIn K (.ref C1) (.ref C5) = some false) (s_Nothing_Nothing : PySem.W.subIn K (.ref C6) (.ref C6) = some true) (s_NoDeed_Nothing : PySem.W.subIn K (.ref C5) (.ref C6) = some false) (s_TooMany_Nothing : PySem.W.subIn K (.ref C4) (.ref C6) = some false) (s_NoStep_Nothing : PySem.W.subIn K (.ref C3) (.ref C6) = some false) (s_NoStage_Nothing : PySem.W.subIn K (.ref C2) (.ref C6) = some false) (s_Wrong_Nothing : PySem.W.subIn K (.ref C1) (.ref C6) = some false) (s_Stopped_Stopped : PySem.W.subIn K (.ref C7) (.ref C7) = some true) (s_NoDeed_Stopped : PySem.W.subIn K (.ref C5) (.ref C7) = some false) (s_TooMany_Stopped : PySem.W.subIn K (.ref C4) (.ref C7) = some false) (s_NoStep_Stopped : PySem.W.subIn K (.ref C3) (.ref C7) = some false) (s_NoStage_Stopped : PySem.W.subIn K (.ref C2) (.ref C7) = some false) (s_Wrong_Stopped : PySem.W.subIn K (.ref C1) (.ref C7) = some false) (s_NoDeed_ValueError : PySem.W.subIn K (.ref C5) (.type "ValueError") = some true) (s_TooMany_ValueError : PySem.W.subIn K (.ref C4) (.type "ValueError") = some true) (s_NoStep_ValueError : PySem.W.subIn K (.ref C3) (.type "ValueError") = some true) (s_NoStage_ValueError : PySem.W.subIn K (.ref C2) (.type "ValueError") = some true) (s_Wrong_ValueError : PySem.W.subIn K (.ref C1) (.type "ValueError") = some true) (s_NoDeed_LayerError : PySem.W.subIn K (.ref C5) (.ref C0) = some true) (s_TooMany_LayerError : PySem.W.subIn K (.ref C4) (.ref C0) = some true) (s_NoStep_LayerError : PySem.W.subIn K (.ref C3) (.ref C0) = some true) (s_NoStage_LayerError : PySem.W.subIn K (.ref C2) (.ref C0) = some true) (s_Wrong_LayerError : PySem.W.subIn K (.ref C1) (.ref C0) = some true) (o_Recipe : OCls K C8) (o_Cache : OCls K C9) (o_Book : OCls K C10) (n_Book_deeds : PySem.W.findIn K (.ref C10) "deeds" = some none) (n_Book_own_cache : PySem.W.findIn K (.ref C10) "own_cache" = some none) (n_Book_recipes_kept : PySem.W.findIn K (.ref C10) "recipes_kept" = some none) (n_Book_undone : PySem.W.findIn K (.ref C10) "undone" = some none) (n_Cache_kept_pairs : PySem.W.findIn K (.ref C9) "kept_pairs" = some none) (n_Recipe_stage_rows : PySem.W.findIn K (.ref C8) "stage_rows" = some none) (j_Recipe : IsC K C8) (s_Recipe_Recipe : PySem.W.subIn K (.ref C8) (.ref C8) = some true) (j_Book : IsC K C10) (s_Book_Book : PySem.W.subIn K (.ref C10) (.ref C10) = some true) (ne_Book : PySem.W.findIn K (.ref C10) "__ne__" = some (some (.builtin "object.__ne__"))) (d_Book_first : MethOk K C10 "first" "Book.first" s_Book_first ["self"]) (d_Recipe___eq__ : MethOk K C8 "__eq__" "Recipe.__eq__" s_Recipe___eq__ ["self", "other"]) (d_Book___eq__ : MethOk K C10 "__eq__" "Book.__eq__" s_Book___eq__ ["self", "other"]) (d_Cache___init__ : MethOk K C9 "__init__" "Cache.__init__" s_Cache___init__ ["self"]) (d_Book___init__ : MethOk K C10 "__init__" "Book.__init__" s_Book___init__ ["self", "recipe"]) (d_Book_recipe : MethOk K C10 "recipe" "Book.recipe" s_Book_recipe ["self"]) (d_Recipe___init__ : MethOk K C8 "__init__" "Recipe.__init__" s_Recipe___init__ ["self", "stages"]) (d_Recipe_stages : MethOk K C8 "stages" "Recipe.stages" s_Recipe_stages ["self"]) (d_Book___len__ : MethOk K C10 "__len__" "Book.__len__" s_Book___len__ ["self"]) (d_Book_log : MethOk K C10 "log" "Book.log" s_Book_log ["self"]) (d_Recipe_stage_named : MethOk K C8 "stage_named" "Recipe.stage_named" s_Recipe_stage_named ["self", "name"]) (d_Recipe_steps : MethOk K C8 "steps" "Recipe.steps" s_Recipe_steps ["self", "name"]) (d_Recipe_with_steps : MethOk K C8 "with_steps" "Recipe.with_steps" s_Recipe_with_steps ["self", "name", "steps"]) (d_Book_do : MethOk K C10 "do" "Book.do" s_Book_do ["self", "deed"]) : ∃ Γ, Txt K mg Γ :=
  ⟨fun n => [C0, C1, C2, C3, C4, C5, C6, C7, C8, C9, C10].getD n 0, ⟨d_is_name,
    d_is_word,
    d_is_argument,
    d_is_path,
    d_is_short,
    d_is_target,
    d_is_text,
    d_is_read,
    d_are_reads,
    d_is_integer,
    d_is_rights,
    d_is_told,
    d_is_step,
    d_are_steps,
    d_is_stage,
    d_are_stages,
    d_sources_of,
    d__law_alike,
    d__law_bag,
    d__law_behind,
    d__law_book_right,
    d_last_name,
    d_changed,
    d_is_deed,
    d__law_error,
    d__law_did,
    d__law_take,
    d__law_names,
    d__law_path,
    d__law_text,
    d__law_said,
    d__law_step,
    d__law_some_deed,
    d__law_mixed,
    d__law_steps,
    d__law_recipe,
    d__law_stages,
    d_law,
    n_ValueError,
    n_abs,
    n_all,
    n_bool,
    n_enumerate,
    n_int,
    n_isinstance,
    n_len,
    n_list,
    n_range,
    n_repr,
    n_set,
    n_str,
    n_sum,
    n_tuple,
    k_LETTERS,
    k_MOST_DEEDS,
    k_MOST_LETTERS,
    k_MOST_NAMES,
    k_MOST_READS,
    k_MOST_RIGHTS,
    k_MOST_RUNS,
    k_MOST_SIGNS,
    k_MOST_STAGES,
    k_MOST_STEPS,
    PySem.W.mg_of X G g_LayerError,
    PySem.W.mg_of X G g_Wrong,
    PySem.W.mg_of X G g_NoStage,
    PySem.W.mg_of X G g_NoStep,
    PySem.W.mg_of X G g_TooMany,
    PySem.W.mg_of X G g_NoDeed,
    PySem.W.mg_of X G g_Nothing,
    PySem.W.mg_of X G g_Stopped,
    PySem.W.mg_of X G g_Recipe,
    PySem.W.mg_of X G g_Cache,
    PySem.W.mg_of X G g_Book,
    d_Wrong_init,
    d_NoStage_init,
    d_NoStep_init,
    d_TooMany_init,
    x_LayerError,
    x_Wrong,
    x_NoStage,
    x_NoStep,
    x_TooMany,
    x_NoDeed,
    x_Nothing,
    x_Stopped,
    f_NoStage_name,
    f_NoStep_at,
    f_TooMany_limit,
    f_Wrong_place,
    e_NoDeed,
    ⟨r1_LayerError, r2_LayerError⟩,
    a_LayerError,
    anL_skip (anL_cons ⟨x_Wrong, kitOne_refT x_Wrong s_Wrong_Wrong⟩ (anL_cons ⟨x_NoStage, kitOne_refF x_Wrong s_NoStage_Wrong s_Wrong_Wrong⟩ (anL_cons ⟨x_NoStep, kitOne_refF x_Wrong s_NoStep_Wrong s_Wrong_Wrong⟩ (anL_cons ⟨x_TooMany, kitOne_refF x_Wrong s_TooMany_Wrong s_Wrong_Wrong⟩ (anL_cons ⟨x_NoDeed, kitOne_refF x_Wrong s_NoDeed_Wrong s_Wrong_Wrong⟩ (anL_skip (anL_skip (anL_nil)))))))),
    anL_skip (anL_cons ⟨x_Wrong, kitOne_refF x_NoStage s_Wrong_NoStage s_NoStage_NoStage⟩ (anL_cons ⟨x_NoStage, kitOne_refT x_NoStage s_NoStage_NoStage⟩ (anL_cons ⟨x_NoStep, kitOne_refF x_NoStage s_NoStep_NoStage s_NoStage_NoStage⟩ (anL_cons ⟨x_TooMany, kitOne_refF x_NoStage s_TooMany_NoStage s_NoStage_NoStage⟩ (anL_cons ⟨x_NoDeed, kitOne_refF x_NoStage s_NoDeed_NoStage s_NoStage_NoStage⟩ (anL_skip (anL_skip (anL_nil)))))))),
    anL_skip (anL_cons ⟨x_Wrong, kitOne_refF x_NoStep s_Wrong_NoStep s_NoStep_NoStep⟩ (anL_cons ⟨x_NoStage, kitOne_refF x_NoStep s_NoStage_NoStep s_NoStep_NoStep⟩ (anL_cons ⟨x_NoStep, kitOne_refT x_NoStep s_NoStep_NoStep⟩ (anL_cons ⟨x_TooMany, kitOne_refF x_NoStep s_TooMany_NoStep s_NoStep_NoStep⟩ (anL_cons ⟨x_NoDeed, kitOne_refF x_NoStep s_NoDeed_NoStep s_NoStep_NoStep⟩ (anL_skip (anL_skip (anL_nil)))))))),
    anL_skip (anL_cons ⟨x_Wrong, kitOne_refF x_TooMany s_Wrong_TooMany s_TooMany_TooMany⟩ (anL_cons ⟨x_NoStage, kitOne_refF x_TooMany s_NoStage_TooMany s_TooMany_TooMany⟩ (anL_cons ⟨x_NoStep, kitOne_refF x_TooMany s_NoStep_TooMany s_TooMany_TooMany⟩ (anL_cons ⟨x_TooMany, kitOne_refT x_TooMany s_TooMany_TooMany⟩ (anL_cons ⟨x_NoDeed, kitOne_refF x_TooMany s_NoDeed_TooMany s_TooMany_TooMany⟩ (anL_skip (anL_skip (anL_nil)))))))),
    anL_skip (anL_cons ⟨x_Wrong, kitOne_refF x_NoDeed s_Wrong_NoDeed s_NoDeed_NoDeed⟩ (anL_cons ⟨x_NoStage, kitOne_refF x_NoDeed s_NoStage_NoDeed s_NoDeed_NoDeed⟩ (anL_cons ⟨x_NoStep, kitOne_refF x_NoDeed s_NoStep_NoDeed s_NoDeed_NoDeed⟩ (anL_cons ⟨x_TooMany, kitOne_refF x_NoDeed s_TooMany_NoDeed s_NoDeed_NoDeed⟩ (anL_cons ⟨x_NoDeed, kitOne_refT x_NoDeed s_NoDeed_NoDeed⟩ (anL_skip (anL_skip (anL_nil)))))))),
    anL_skip (anL_cons ⟨x_Wrong, kitOne_refF x_Nothing s_Wrong_Nothing s_Nothing_Nothing⟩ (anL_cons ⟨x_NoStage, kitOne_refF x_Nothing s_NoStage_Nothing s_Nothing_Nothing⟩ (anL_cons ⟨x_NoStep, kitOne_refF x_Nothing s_NoStep_Nothing s_Nothing_Nothing⟩ (anL_cons ⟨x_TooMany, kitOne_refF x_Nothing s_TooMany_Nothing s_Nothing_Nothing⟩ (anL_cons ⟨x_NoDeed, kitOne_refF x_Nothing s_NoDeed_Nothing s_Nothing_Nothing⟩ (anL_skip (anL_skip (anL_nil)))))))),
    anL_skip (anL_cons ⟨x_Wrong, kitOne_refF x_Stopped s_Wrong_Stopped s_Stopped_Stopped⟩ (anL_cons ⟨x_NoStage, kitOne_refF x_Stopped s_NoStage_Stopped s_Stopped_Stopped⟩ (anL_cons ⟨x_NoStep, kitOne_refF x_Stopped s_NoStep_Stopped s_Stopped_Stopped⟩ (anL_cons ⟨x_TooMany, kitOne_refF x_Stopped s_TooMany_Stopped s_Stopped_Stopped⟩ (anL_cons ⟨x_NoDeed, kitOne_refF x_Stopped s_NoDeed_Stopped s_Stopped_Stopped⟩ (anL_skip (anL_skip (anL_nil)))))))),
    anL_skip (anL_cons ⟨x_Wrong, kitOne_ty (by decide +kernel) s_Wrong_ValueError⟩ (anL_cons ⟨x_NoStage, kitOne_ty (by decide +kernel) s_NoStage_ValueError⟩ (anL_cons ⟨x_NoStep, kitOne_ty (by decide +kernel) s_NoStep_ValueError⟩ (anL_cons ⟨x_TooMany, kitOne_ty (by decide +kernel) s_TooMany_ValueError⟩ (anL_cons ⟨x_NoDeed, kitOne_ty (by decide +kernel) s_NoDeed_ValueError⟩ (anL_skip (anL_skip (anL_nil)))))))),
    anL_skip (anL_cons (exm_mk x_LayerError s_Wrong_LayerError) (anL_cons (exm_mk x_LayerError s_NoStage_LayerError) (anL_cons (exm_mk x_LayerError s_NoStep_LayerError) (anL_cons (exm_mk x_LayerError s_TooMany_LayerError) (anL_cons (exm_mk x_LayerError s_NoDeed_LayerError) (anL_skip (anL_skip (anL_nil)))))))),
    o_Recipe,
    o_Cache,
    o_Book,
    n_Book_deeds,
    n_Book_own_cache,
    n_Book_recipes_kept,
    n_Book_undone,
    n_Cache_kept_pairs,
    n_Recipe_stage_rows,
    j_Recipe,
    anL_skip (anL_skip (anL_skip (anL_skip (anL_skip (anL_skip (anL_skip (anL_skip (anL_cons ⟨o_Recipe.ic, j_Recipe.yes s_Recipe_Recipe⟩ anL_nil)))))))),
    j_Book,
    anL_skip (anL_skip (anL_skip (anL_skip (anL_skip (anL_skip (anL_skip (anL_skip (anL_skip (anL_skip (anL_cons ⟨o_Book.ic, j_Book.yes s_Book_Book⟩ anL_nil)))))))))),
    ne_Book,
    d_Book_first,
    d_Recipe___eq__,
    d_Book___eq__,
    d_Cache___init__,
    d_Book___init__,
    d_Book_recipe,
    d_Recipe___init__,
    d_Recipe_stages,
    d_Book___len__,
    d_Book_log,
    d_Recipe_stage_named,
    d_Recipe_steps,
    d_Recipe_with_steps,
    d_Book_do⟩⟩
theorem okx_Wrong (T : Txt K mg Γ) (Z : SysIn base) : CalleeX P w K mg base Γ 1 1 2 m_Wrong_init := by
  refine calleeX_mk T.d_Wrong_init sc_Wrong_init fun f cdv A fr s H E hq hr => ?_
  show RSs _ _ _ _ b_Wrong_init
  exact ((rss_cons (rs_expr (re_xinit (mem_one T.x_Wrong.oex) rfl T.g_LayerError T.r_LayerError T.a_LayerError (re_var 0)))
    (rss_one (rs_xset (mem_one ⟨T.x_Wrong.oex, T.f_Wrong_place⟩) (re_var 0) (re_var 1)))))
theorem okx_NoStage (T : Txt K mg Γ) (Z : SysIn base) : CalleeX P w K mg base Γ 1 2 2 m_NoStage_init := by
  refine calleeX_mk T.d_NoStage_init sc_NoStage_init fun f cdv A fr s H E hq hr => ?_
  show RSs _ _ _ _ b_NoStage_init
  exact ((rss_cons (rs_expr (re_xinit (mem_one T.x_NoStage.oex) rfl T.g_LayerError T.r_LayerError T.a_LayerError (re_var 0)))
    (rss_one (rs_xset (mem_one ⟨T.x_NoStage.oex, T.f_NoStage_name⟩) (re_var 0) (re_var 1)))))
theorem okx_NoStep (T : Txt K mg Γ) (Z : SysIn base) : CalleeX P w K mg base Γ 1 3 2 m_NoStep_init := by
  refine calleeX_mk T.d_NoStep_init sc_NoStep_init fun f cdv A fr s H E hq hr => ?_
  show RSs _ _ _ _ b_NoStep_init
  exact ((rss_cons (rs_expr (re_xinit (mem_one T.x_NoStep.oex) rfl T.g_LayerError T.r_LayerError T.a_LayerError (re_var 0)))
    (rss_one (rs_xset (mem_one ⟨T.x_NoStep.oex, T.f_NoStep_at⟩) (re_var 0) (re_var 1)))))
theorem okx_TooMany (T : Txt K mg Γ) (Z : SysIn base) : CalleeX P w K mg base Γ 1 4 2 m_TooMany_init := by
  refine calleeX_mk T.d_TooMany_init sc_TooMany_init fun f cdv A fr s H E hq hr => ?_
  show RSs _ _ _ _ b_TooMany_init
  exact ((rss_cons (rs_expr (re_xinit (mem_one T.x_TooMany.oex) rfl T.g_LayerError T.r_LayerError T.a_LayerError (re_var 0)))
    (rss_one (rs_xset (mem_one ⟨T.x_TooMany.oex, T.f_TooMany_limit⟩) (re_var 0) (re_var 1)))))
theorem okm_Book_first (T : Txt K mg Γ) (Z : SysIn base) : CalleeM CX0 P w K mg base Γ 1 10 "first" 1 m_Book_first := by
  refine calleeM_mk T.d_Book_first sc_Book_first fun f cdv A fr s H E hq hr => ?_
  show RSs _ _ _ _ b_Book_first
  exact ((rss_one (rs_ret (re_ix xd_seq (re_fld (mem_one ⟨T.o_Book.ic.cl, T.n_Book_recipes_kept⟩) (re_var 0)) re_int))))
theorem okm_Recipe___eq__ (T : Txt K mg Γ) (Z : SysIn base) : CalleeM CX0 P w K mg base Γ 1 8 "__eq__" 2 m_Recipe___eq__ := by
  refine calleeM_mk T.d_Recipe___eq__ sc_Recipe___eq__ fun f cdv A fr s H E hq hr => ?_
  show RSs _ _ _ _ b_Recipe___eq__
  exact ((rss_one (rs_ret (re_and (re_iso T.w_Recipe T.j_Recipe.no (re_var 1) rfl T.n_isinstance rfl T.g_Recipe) (re_one (re_cmp (od_eq (room_eq hr)) (re_fld (mem_one ⟨T.o_Recipe.ic.cl, T.n_Recipe_stage_rows⟩) (re_var 0)) (re_fld (mem_one ⟨T.o_Recipe.ic.cl, T.n_Recipe_stage_rows⟩) (re_var 1))))))))
theorem okm_Book___eq__ (T : Txt K mg Γ) (Z : SysIn base) : CalleeM CX0 P w K mg base Γ 2 10 "__eq__" 2 m_Book___eq__ := by
  have M_Book_first := okm_Book_first (P := P) (w := w) (base := base) (Γ := Γ) T Z
  have M_Recipe___eq__ := okm_Recipe___eq__ (P := P) (w := w) (base := base) (Γ := Γ) T Z
  refine calleeM_mk T.d_Book___eq__ sc_Book___eq__ fun f cdv A fr s H E hq hr => ?_
  show RSs _ _ _ _ b_Book___eq__
  exact ((rss_one (rs_ret (re_and (re_iso T.w_Book T.j_Book.no (re_var 1) rfl T.n_isinstance rfl T.g_Book) (re_and (re_cmp (eqO_C M_Recipe___eq__ T.o_Recipe T.j_Recipe.ns pass0 hq (hr.mono (by omega))) (re_methC0 M_Book_first T.o_Book pass0 hq (hr.mono (by omega)) (re_var 0)) (re_methC0 M_Book_first T.o_Book pass0 hq (hr.mono (by omega)) (re_var 1))) (re_one (re_cmp (od_eq (room_eq hr)) (re_fld (mem_one ⟨T.o_Book.ic.cl, T.n_Book_deeds⟩) (re_var 0)) (re_fld (mem_one ⟨T.o_Book.ic.cl, T.n_Book_deeds⟩) (re_var 1)))))))))
theorem okm_Cache___init__ (T : Txt K mg Γ) (Z : SysIn base) : CalleeM CX0 P w K mg base Γ 1 9 "__init__" 1 m_Cache___init__ := by
  refine calleeM_mk T.d_Cache___init__ sc_Cache___init__ fun f cdv A fr s H E hq hr => ?_
  show RSs _ _ _ _ b_Cache___init__
  exact ((rss_one (rs_fset (mem_one ⟨T.o_Cache.ic.cl, T.n_Cache_kept_pairs⟩) (re_var 0) re_dnew)))
theorem okm_Book___init__ (T : Txt K mg Γ) (Z : SysIn base) : CalleeM (CXL P w) P w K mg base Γ 3 10 "__init__" 2 m_Book___init__ := by
  have M_Cache___init__ := okm_Cache___init__ (P := P) (w := w) (base := base) (Γ := Γ) T Z
  have X_Wrong := okx_Wrong (P := P) (w := w) (base := base) (Γ := Γ) T Z
  refine calleeML_mk T.d_Book___init__ sc_Book___init__ fun f cdv A fr s H E hq hr => ?_
  show RSs _ _ _ _ b_Book___init__
  exact ((rss_cons (rs_if (rt_not (rt_val (re_iso T.w_Recipe T.j_Recipe.no (re_var 1) rfl T.n_isinstance rfl T.g_Recipe))) (rss_one (rs_raise rfl takesL X_Wrong T.x_Wrong T.g_Wrong sets_Wrong hq (hr.mono (by omega)) re_int)) rss_nil)
    (rss_cons (rs_fset (mem_one ⟨T.o_Book.ic.cl, T.n_Book_recipes_kept⟩) (re_var 0) (re_lst (ra_cons (re_var 1) ra_nil)))
    (rss_cons (rs_fset (mem_one ⟨T.o_Book.ic.cl, T.n_Book_deeds⟩) (re_var 0) (re_lst ra_nil))
    (rss_cons (rs_fset (mem_one ⟨T.o_Book.ic.cl, T.n_Book_undone⟩) (re_var 0) (re_lst ra_nil))
    (rss_one (rs_fset (mem_one ⟨T.o_Book.ic.cl, T.n_Book_own_cache⟩) (re_var 0) (re_makeO0 M_Cache___init__ T.o_Cache T.g_Cache pass0 hq (hr.mono (by omega))))))))))
theorem okm_Book_recipe (T : Txt K mg Γ) (Z : SysIn base) : CalleeM CX0 P w K mg base Γ 1 10 "recipe" 1 m_Book_recipe := by
  refine calleeM_mk T.d_Book_recipe sc_Book_recipe fun f cdv A fr s H E hq hr => ?_
  show RSs _ _ _ _ b_Book_recipe
  exact ((rss_one (rs_ret (re_ix xd_seq (re_fld (mem_one ⟨T.o_Book.ic.cl, T.n_Book_recipes_kept⟩) (re_var 0)) (re_un ud_neg re_int)))))
theorem ok_is_name (T : Txt K mg Γ) (Z : SysIn base) : Callee P w K mg base Γ 1 "is_name" 1 m_is_name := by
  refine callee_mk T.d_is_name sc_is_name fun f cdv A fr s H E hq hr => ?_
  show RSs _ _ _ _ b_is_name
  exact ((rss_cons (rs_if (L2.PW.pt (rw_or (rt_not (rt_val (re_isi .tStr (re_var 0) rfl T.n_isinstance rfl T.n_str))) (rw_or1 (rt_not (rt_chain od_le od_le re_int (re_callB cd_len rfl T.n_len bt_len (ra_cons (re_var 0) ra_nil)) (let ⟨_, _, h1, h2, h3⟩ := T.k_MOST_LETTERS; re_glob rfl h1 h2 h3)))))) (rss_one (rs_ret re_bl)) rss_nil)
    (rss_one (rs_ret (re_callB (cd_all rfl) rfl T.n_all bt_all (ra_cons (re_lc (own := [("letter", 1)]) rfl sc_is_name.nd (ri_any (re_var 0)) (blkOk_by (N := ["thing", "letter"]) (sc := defScope s_is_name) (by decide +kernel)) (fun _ _ _ _ _ => (cg_name (i := 1) sc_is_name.nd rfl (by first | exact Or.inl rfl | exact Or.inr rfl))) (fun _ _ _ _ _ => rts_nil) (fun _ _ _ _ _ => (re_cmp (od_in (room_in hr)) (re_var 1) (let ⟨_, _, h1, h2, h3⟩ := T.k_LETTERS; re_glob rfl h1 h2 h3)))) ra_nil))))))
theorem ok_is_word (T : Txt K mg Γ) (Z : SysIn base) : Callee P w K mg base Γ 1 "is_word" 2 m_is_word := by
  refine callee_mk T.d_is_word sc_is_word fun f cdv A fr s H E hq hr => ?_
  show RSs _ _ _ _ b_is_word
  exact ((rss_one (rs_ret (re_and (re_isi .tStr (re_var 0) rfl T.n_isinstance rfl T.n_str) (re_one (re_cmp (od_eq (room_eq hr)) (re_var 0) (re_var 1)))))))
theorem ok_is_argument (T : Txt K mg Γ) (Z : SysIn base) : Callee P w K mg base Γ 2 "is_argument" 1 m_is_argument := by
  have C_is_name := ok_is_name (P := P) (w := w) (base := base) (Γ := Γ) T Z
  have C_is_word := ok_is_word (P := P) (w := w) (base := base) (Γ := Γ) T Z
  refine callee_mk T.d_is_argument sc_is_argument fun f cdv A fr s H E hq hr => ?_
  show RSs _ _ _ _ b_is_argument
  exact ((rss_one (rs_ret (re_and (re_isi .tTuple (re_var 0) rfl T.n_isinstance rfl T.n_tuple) (re_and (re_cmp (od_eq (room_eq hr)) (re_callB cd_len rfl T.n_len bt_len (ra_cons (re_var 0) ra_nil)) re_int) (re_and (re_callC C_is_word hq (hr.mono (by omega)) (ra_cons (re_ix xd_seq (re_var 0) re_int) (ra_cons re_str ra_nil)) (lenA_cons (lenA_cons lenA_nil))) (re_one (re_callC C_is_name hq (hr.mono (by omega)) (ra_cons (re_ix xd_seq (re_var 0) re_int) ra_nil) (lenA_cons lenA_nil)))))))))
theorem ok_is_path (T : Txt K mg Γ) (Z : SysIn base) : Callee P w K mg base Γ 2 "is_path" 1 m_is_path := by
  have C_is_name := ok_is_name (P := P) (w := w) (base := base) (Γ := Γ) T Z
  refine callee_mk T.d_is_path sc_is_path fun f cdv A fr s H E hq hr => ?_
  show RSs _ _ _ _ b_is_path
  exact ((rss_one (rs_ret (re_and (re_isi .tTuple (re_var 0) rfl T.n_isinstance rfl T.n_tuple) (re_one (re_callB (cd_all rfl) rfl T.n_all bt_all (ra_cons (re_lc (own := [("name", 1)]) rfl sc_is_path.nd (ri_any (re_var 0)) (blkOk_by (N := ["thing", "name"]) (sc := defScope s_is_path) (by decide +kernel)) (fun _ _ _ _ _ => (cg_name (i := 1) sc_is_path.nd rfl (by first | exact Or.inl rfl | exact Or.inr rfl))) (fun _ _ _ _ _ => rts_nil) (fun _ _ _ _ _ => (re_callC C_is_name hq (hr.mono (by omega)) (ra_cons (re_var 1) ra_nil) (lenA_cons lenA_nil)))) ra_nil)))))))
theorem ok_is_short (T : Txt K mg Γ) (Z : SysIn base) : Callee P w K mg base Γ 3 "is_short" 1 m_is_short := by
  have C_is_path := ok_is_path (P := P) (w := w) (base := base) (Γ := Γ) T Z
  refine callee_mk T.d_is_short sc_is_short fun f cdv A fr s H E hq hr => ?_
  show RSs _ _ _ _ b_is_short
  exact ((rss_one (rs_ret (re_and (re_callC C_is_path hq (hr.mono (by omega)) (ra_cons (re_var 0) ra_nil) (lenA_cons lenA_nil)) (re_one (re_cmp od_le (re_callB cd_len rfl T.n_len bt_len (ra_cons (re_var 0) ra_nil)) (let ⟨_, _, h1, h2, h3⟩ := T.k_MOST_NAMES; re_glob rfl h1 h2 h3)))))))
theorem ok_is_target (T : Txt K mg Γ) (Z : SysIn base) : Callee P w K mg base Γ 4 "is_target" 1 m_is_target := by
  have C_is_short := ok_is_short (P := P) (w := w) (base := base) (Γ := Γ) T Z
  refine callee_mk T.d_is_target sc_is_target fun f cdv A fr s H E hq hr => ?_
  show RSs _ _ _ _ b_is_target
  exact ((rss_one (rs_ret (re_and (re_callC C_is_short hq (hr.mono (by omega)) (ra_cons (re_var 0) ra_nil) (lenA_cons lenA_nil)) (re_one (re_cmp (od_ne (room_eq hr)) (re_var 0) (re_tup ra_nil)))))))
theorem ok_is_text (T : Txt K mg Γ) (Z : SysIn base) : Callee P w K mg base Γ 1 "is_text" 1 m_is_text := by
  refine callee_mk T.d_is_text sc_is_text fun f cdv A fr s H E hq hr => ?_
  show RSs _ _ _ _ b_is_text
  exact ((rss_one (rs_ret (re_and (re_isi .tStr (re_var 0) rfl T.n_isinstance rfl T.n_str) (re_one (re_cmp od_le (re_callB cd_len rfl T.n_len bt_len (ra_cons (re_var 0) ra_nil)) (let ⟨_, _, h1, h2, h3⟩ := T.k_MOST_SIGNS; re_glob rfl h1 h2 h3)))))))
theorem ok_is_read (T : Txt K mg Γ) (Z : SysIn base) : Callee P w K mg base Γ 5 "is_read" 1 m_is_read := by
  have C_is_argument := ok_is_argument (P := P) (w := w) (base := base) (Γ := Γ) T Z
  have C_is_target := ok_is_target (P := P) (w := w) (base := base) (Γ := Γ) T Z
  have C_is_text := ok_is_text (P := P) (w := w) (base := base) (Γ := Γ) T Z
  have C_is_word := ok_is_word (P := P) (w := w) (base := base) (Γ := Γ) T Z
  refine callee_mk T.d_is_read sc_is_read fun f cdv A fr s H E hq hr => ?_
  show RSs _ _ _ _ b_is_read
  exact ((rss_cons (rs_if (L2.PW.pt (rw_or (rt_not (rt_val (re_isi .tTuple (re_var 0) rfl T.n_isinstance rfl T.n_tuple))) (rw_or1 (rt_cmp (od_ne (room_eq hr)) (re_callB cd_len rfl T.n_len bt_len (ra_cons (re_var 0) ra_nil)) re_int)))) (rss_one (rs_ret re_bl)) rss_nil)
    (rss_cons (rs_if (rt_val (re_callC C_is_word hq (hr.mono (by omega)) (ra_cons (re_ix xd_seq (re_var 0) re_int) (ra_cons re_str ra_nil)) (lenA_cons (lenA_cons lenA_nil)))) (rss_one (rs_ret (re_callC C_is_target hq (hr.mono (by omega)) (ra_cons (re_ix xd_seq (re_var 0) re_int) ra_nil) (lenA_cons lenA_nil)))) rss_nil)
    (rss_cons (rs_if (rt_val (re_callC C_is_word hq (hr.mono (by omega)) (ra_cons (re_ix xd_seq (re_var 0) re_int) (ra_cons re_str ra_nil)) (lenA_cons (lenA_cons lenA_nil)))) (rss_one (rs_ret (re_callC C_is_text hq (hr.mono (by omega)) (ra_cons (re_ix xd_seq (re_var 0) re_int) ra_nil) (lenA_cons lenA_nil)))) rss_nil)
    (rss_one (rs_ret (re_callC C_is_argument hq (hr.mono (by omega)) (ra_cons (re_var 0) ra_nil) (lenA_cons lenA_nil))))))))
theorem ok_are_reads (T : Txt K mg Γ) (Z : SysIn base) : Callee P w K mg base Γ 6 "are_reads" 1 m_are_reads := by
  have C_is_read := ok_is_read (P := P) (w := w) (base := base) (Γ := Γ) T Z
  refine callee_mk T.d_are_reads sc_are_reads fun f cdv A fr s H E hq hr => ?_
  show RSs _ _ _ _ b_are_reads
  exact ((rss_one (rs_ret (re_and (re_isi .tTuple (re_var 0) rfl T.n_isinstance rfl T.n_tuple) (re_and (re_cmp od_le (re_callB cd_len rfl T.n_len bt_len (ra_cons (re_var 0) ra_nil)) (let ⟨_, _, h1, h2, h3⟩ := T.k_MOST_READS; re_glob rfl h1 h2 h3)) (re_one (re_callB (cd_all rfl) rfl T.n_all bt_all (ra_cons (re_lc (own := [("part", 1)]) rfl sc_are_reads.nd (ri_any (re_var 0)) (blkOk_by (N := ["thing", "part"]) (sc := defScope s_are_reads) (by decide +kernel)) (fun _ _ _ _ _ => (cg_name (i := 1) sc_are_reads.nd rfl (by first | exact Or.inl rfl | exact Or.inr rfl))) (fun _ _ _ _ _ => rts_nil) (fun _ _ _ _ _ => (re_callC C_is_read hq (hr.mono (by omega)) (ra_cons (re_var 1) ra_nil) (lenA_cons lenA_nil)))) ra_nil))))))))
theorem ok_is_integer (T : Txt K mg Γ) (Z : SysIn base) : Callee P w K mg base Γ 1 "is_integer" 1 m_is_integer := by
  refine callee_mk T.d_is_integer sc_is_integer fun f cdv A fr s H E hq hr => ?_
  show RSs _ _ _ _ b_is_integer
  exact ((rss_one (rs_ret (re_and (re_isi .tInt (re_var 0) rfl T.n_isinstance rfl T.n_int) (re_one (re_not (re_isi .tBool (re_var 0) rfl T.n_isinstance rfl T.n_bool)))))))
theorem ok_is_rights (T : Txt K mg Γ) (Z : SysIn base) : Callee P w K mg base Γ 2 "is_rights" 1 m_is_rights := by
  have C_is_integer := ok_is_integer (P := P) (w := w) (base := base) (Γ := Γ) T Z
  refine callee_mk T.d_is_rights sc_is_rights fun f cdv A fr s H E hq hr => ?_
  show RSs _ _ _ _ b_is_rights
  exact ((rss_one (rs_ret (re_and (re_callC C_is_integer hq (hr.mono (by omega)) (ra_cons (re_var 0) ra_nil) (lenA_cons lenA_nil)) (re_one (re_chain od_le od_le re_int (re_var 0) (let ⟨_, _, h1, h2, h3⟩ := T.k_MOST_RIGHTS; re_glob rfl h1 h2 h3)))))))
theorem ok_is_told (T : Txt K mg Γ) (Z : SysIn base) : Callee P w K mg base Γ 3 "is_told" 1 m_is_told := by
  have C_is_argument := ok_is_argument (P := P) (w := w) (base := base) (Γ := Γ) T Z
  have C_is_text := ok_is_text (P := P) (w := w) (base := base) (Γ := Γ) T Z
  refine callee_mk T.d_is_told sc_is_told fun f cdv A fr s H E hq hr => ?_
  show RSs _ _ _ _ b_is_told
  exact ((rss_one (rs_ret (re_or (re_callC C_is_text hq (hr.mono (by omega)) (ra_cons (re_var 0) ra_nil) (lenA_cons lenA_nil)) (re_one (re_callC C_is_argument hq (hr.mono (by omega)) (ra_cons (re_var 0) ra_nil) (lenA_cons lenA_nil)))))))
theorem ok_is_step (T : Txt K mg Γ) (Z : SysIn base) : Callee P w K mg base Γ 7 "is_step" 1 m_is_step := by
  have C_are_reads := ok_are_reads (P := P) (w := w) (base := base) (Γ := Γ) T Z
  have C_is_name := ok_is_name (P := P) (w := w) (base := base) (Γ := Γ) T Z
  have C_is_rights := ok_is_rights (P := P) (w := w) (base := base) (Γ := Γ) T Z
  have C_is_short := ok_is_short (P := P) (w := w) (base := base) (Γ := Γ) T Z
  have C_is_target := ok_is_target (P := P) (w := w) (base := base) (Γ := Γ) T Z
  have C_is_told := ok_is_told (P := P) (w := w) (base := base) (Γ := Γ) T Z
  refine callee_mk T.d_is_step sc_is_step fun f cdv A fr s H E hq hr => ?_
  show RSs _ _ _ _ b_is_step
  exact ((rss_cons (rs_if (L2.PW.pt (rw_or (rt_not (rt_val (re_isi .tTuple (re_var 0) rfl T.n_isinstance rfl T.n_tuple))) (rw_or (rt_not (rt_chain od_le od_le re_int (re_callB cd_len rfl T.n_len bt_len (ra_cons (re_var 0) ra_nil)) re_int)) (rw_or1 (rt_not (rt_val (re_isi .tStr (re_ix xd_seq (re_var 0) re_int) rfl T.n_isinstance rfl T.n_str))))))) (rss_one (rs_ret re_bl)) rss_nil)
    (rss_cons (rs_if (rt_cmp (od_in (room_in hr)) (re_ix xd_seq (re_var 0) re_int) (re_tup (ra_cons re_str (ra_cons re_str ra_nil)))) (rss_one (rs_ret (re_and (re_cmp (od_eq (room_eq hr)) (re_callB cd_len rfl T.n_len bt_len (ra_cons (re_var 0) ra_nil)) re_int) (re_one (re_callC C_is_target hq (hr.mono (by omega)) (ra_cons (re_ix xd_seq (re_var 0) re_int) ra_nil) (lenA_cons lenA_nil)))))) rss_nil)
    (rss_cons (rs_if (rt_cmp (od_in (room_in hr)) (re_ix xd_seq (re_var 0) re_int) (re_tup (ra_cons re_str (ra_cons re_str ra_nil)))) (rss_one (rs_ret (re_and (re_cmp (od_eq (room_eq hr)) (re_callB cd_len rfl T.n_len bt_len (ra_cons (re_var 0) ra_nil)) re_int) (re_and (re_callC C_is_target hq (hr.mono (by omega)) (ra_cons (re_ix xd_seq (re_var 0) re_int) ra_nil) (lenA_cons lenA_nil)) (re_one (re_callC C_is_rights hq (hr.mono (by omega)) (ra_cons (re_ix xd_seq (re_var 0) re_int) ra_nil) (lenA_cons lenA_nil))))))) rss_nil)
    (rss_cons (rs_if (rt_cmp (od_eq (room_eq hr)) (re_ix xd_seq (re_var 0) re_int) re_str) (rss_one (rs_ret (re_and (re_cmp (od_eq (room_eq hr)) (re_callB cd_len rfl T.n_len bt_len (ra_cons (re_var 0) ra_nil)) re_int) (re_and (re_callC C_is_target hq (hr.mono (by omega)) (ra_cons (re_ix xd_seq (re_var 0) re_int) ra_nil) (lenA_cons lenA_nil)) (re_one (re_callC C_is_told hq (hr.mono (by omega)) (ra_cons (re_ix xd_seq (re_var 0) re_int) ra_nil) (lenA_cons lenA_nil))))))) rss_nil)
    (rss_cons (rs_if (rt_cmp (od_ne (room_eq hr)) (re_callB cd_len rfl T.n_len bt_len (ra_cons (re_var 0) ra_nil)) re_int) (rss_one (rs_ret re_bl)) rss_nil)
    (rss_cons (rs_if (rt_cmp (od_eq (room_eq hr)) (re_ix xd_seq (re_var 0) re_int) re_str) (rss_one (rs_ret (re_and (re_callC C_is_target hq (hr.mono (by omega)) (ra_cons (re_ix xd_seq (re_var 0) re_int) ra_nil) (lenA_cons lenA_nil)) (re_and (re_callC C_is_told hq (hr.mono (by omega)) (ra_cons (re_ix xd_seq (re_var 0) re_int) ra_nil) (lenA_cons lenA_nil)) (re_one (re_callC C_is_rights hq (hr.mono (by omega)) (ra_cons (re_ix xd_seq (re_var 0) re_int) ra_nil) (lenA_cons lenA_nil))))))) rss_nil)
    (rss_cons (rs_if (rt_cmp (od_eq (room_eq hr)) (re_ix xd_seq (re_var 0) re_int) re_str) (rss_one (rs_ret (re_and (re_callC C_is_name hq (hr.mono (by omega)) (ra_cons (re_ix xd_seq (re_var 0) re_int) ra_nil) (lenA_cons lenA_nil)) (re_and (re_callC C_is_short hq (hr.mono (by omega)) (ra_cons (re_ix xd_seq (re_var 0) re_int) ra_nil) (lenA_cons lenA_nil)) (re_one (re_callC C_is_short hq (hr.mono (by omega)) (ra_cons (re_ix xd_seq (re_var 0) re_int) ra_nil) (lenA_cons lenA_nil))))))) rss_nil)
    (rss_one (rs_ret (re_and (re_cmp (od_eq (room_eq hr)) (re_ix xd_seq (re_var 0) re_int) re_str) (re_and (re_callC C_is_name hq (hr.mono (by omega)) (ra_cons (re_ix xd_seq (re_var 0) re_int) ra_nil) (lenA_cons lenA_nil)) (re_and (re_callC C_are_reads hq (hr.mono (by omega)) (ra_cons (re_ix xd_seq (re_var 0) re_int) ra_nil) (lenA_cons lenA_nil)) (re_one (re_callC C_is_target hq (hr.mono (by omega)) (ra_cons (re_ix xd_seq (re_var 0) re_int) ra_nil) (lenA_cons lenA_nil))))))))))))))))
theorem ok_are_steps (T : Txt K mg Γ) (Z : SysIn base) : Callee P w K mg base Γ 8 "are_steps" 1 m_are_steps := by
  have C_is_step := ok_is_step (P := P) (w := w) (base := base) (Γ := Γ) T Z
  refine callee_mk T.d_are_steps sc_are_steps fun f cdv A fr s H E hq hr => ?_
  show RSs _ _ _ _ b_are_steps
  exact ((rss_one (rs_ret (re_and (re_isi .tList (re_var 0) rfl T.n_isinstance rfl T.n_list) (re_and (re_cmp od_le (re_callB cd_len rfl T.n_len bt_len (ra_cons (re_var 0) ra_nil)) (let ⟨_, _, h1, h2, h3⟩ := T.k_MOST_STEPS; re_glob rfl h1 h2 h3)) (re_one (re_callB (cd_all rfl) rfl T.n_all bt_all (ra_cons (re_lc (own := [("step", 1)]) rfl sc_are_steps.nd (ri_any (re_var 0)) (blkOk_by (N := ["thing", "step"]) (sc := defScope s_are_steps) (by decide +kernel)) (fun _ _ _ _ _ => (cg_name (i := 1) sc_are_steps.nd rfl (by first | exact Or.inl rfl | exact Or.inr rfl))) (fun _ _ _ _ _ => rts_nil) (fun _ _ _ _ _ => (re_callC C_is_step hq (hr.mono (by omega)) (ra_cons (re_var 1) ra_nil) (lenA_cons lenA_nil)))) ra_nil))))))))
theorem ok_is_stage (T : Txt K mg Γ) (Z : SysIn base) : Callee P w K mg base Γ 9 "is_stage" 1 m_is_stage := by
  have C_are_steps := ok_are_steps (P := P) (w := w) (base := base) (Γ := Γ) T Z
  have C_is_name := ok_is_name (P := P) (w := w) (base := base) (Γ := Γ) T Z
  refine callee_mk T.d_is_stage sc_is_stage fun f cdv A fr s H E hq hr => ?_
  show RSs _ _ _ _ b_is_stage
  exact ((rss_cons (rs_if (L2.PW.pt (rw_or (rt_not (rt_val (re_isi .tTuple (re_var 0) rfl T.n_isinstance rfl T.n_tuple))) (rw_or (rt_cmp (od_ne (room_eq hr)) (re_callB cd_len rfl T.n_len bt_len (ra_cons (re_var 0) ra_nil)) re_int) (rw_or1 (rt_not (rt_val (re_callC C_is_name hq (hr.mono (by omega)) (ra_cons (re_ix xd_seq (re_var 0) re_int) ra_nil) (lenA_cons lenA_nil)))))))) (rss_one (rs_ret re_bl)) rss_nil)
    (rss_one (rs_ret (re_and (re_or (re_cmp od_isN (re_ix xd_seq (re_var 0) re_int) re_non) (re_one (re_callC C_is_name hq (hr.mono (by omega)) (ra_cons (re_ix xd_seq (re_var 0) re_int) ra_nil) (lenA_cons lenA_nil)))) (re_one (re_callC C_are_steps hq (hr.mono (by omega)) (ra_cons (re_ix xd_seq (re_var 0) re_int) ra_nil) (lenA_cons lenA_nil))))))))
theorem ok_are_stages (T : Txt K mg Γ) (Z : SysIn base) : Callee P w K mg base Γ 10 "are_stages" 1 m_are_stages := by
  have C_is_stage := ok_is_stage (P := P) (w := w) (base := base) (Γ := Γ) T Z
  refine callee_mk T.d_are_stages sc_are_stages fun f cdv A fr s H E hq hr => ?_
  show RSs _ _ _ _ b_are_stages
  exact ((rss_cons (rs_if (L2.PW.pt (rw_or (rt_not (rt_val (re_isi .tList (re_var 0) rfl T.n_isinstance rfl T.n_list))) (rw_or1 (rt_not (rt_chain od_le od_le re_int (re_callB cd_len rfl T.n_len bt_len (ra_cons (re_var 0) ra_nil)) (let ⟨_, _, h1, h2, h3⟩ := T.k_MOST_STAGES; re_glob rfl h1 h2 h3)))))) (rss_one (rs_ret re_bl)) rss_nil)
    (rss_cons (rs_if (rt_not (rt_val (re_callB (cd_all rfl) rfl T.n_all bt_all (ra_cons (re_lc (own := [("stage", 1)]) rfl sc_are_stages.nd (ri_any (re_var 0)) (blkOk_by (N := ["thing", "stage"]) (sc := defScope s_are_stages) (by decide +kernel)) (fun _ _ _ _ _ => (cg_name (i := 1) sc_are_stages.nd rfl (by first | exact Or.inl rfl | exact Or.inr rfl))) (fun _ _ _ _ _ => rts_nil) (fun _ _ _ _ _ => (re_callC C_is_stage hq (hr.mono (by omega)) (ra_cons (re_var 1) ra_nil) (lenA_cons lenA_nil)))) ra_nil)))) (rss_one (rs_ret re_bl)) rss_nil)
    (rss_one (rs_ret (re_cmp (od_eq (room_eq hr)) (re_lenSet rfl T.n_len T.n_set (re_lc (own := [("stage", 1)]) rfl sc_are_stages.nd (ri_any (re_var 0)) (blkOk_by (N := ["thing", "stage"]) (sc := defScope s_are_stages) (by decide +kernel)) (fun _ _ _ _ _ => (cg_name (i := 1) sc_are_stages.nd rfl (by first | exact Or.inl rfl | exact Or.inr rfl))) (fun _ _ _ _ _ => rts_nil) (fun _ _ _ _ _ => (re_ix xd_seq (re_var 1) re_int)))) (re_callB cd_len rfl T.n_len bt_len (ra_cons (re_var 0) ra_nil))))))))
theorem ok_sources_of (T : Txt K mg Γ) (Z : SysIn base) : Callee P w K mg base Γ 1 "sources_of" 2 m_sources_of := by
  refine callee_mk T.d_sources_of sc_sources_of fun f cdv A fr s H E hq hr => ?_
  show RSs _ _ _ _ b_sources_of
  exact ((rss_cons (rs_set (i := 2) sc_sources_of.nd rfl (by first | exact Or.inl rfl | exact Or.inr rfl) (re_if (rt_cmp od_isN (re_var 0) re_non) (re_lst ra_nil) (re_lst (ra_cons (re_var 0) ra_nil))))
    (rss_one (rs_ret (re_bin od_add (re_var 2) (re_lc (own := [("step", 3)]) rfl sc_sources_of.nd (ri_any (re_var 1)) (blkOk_by (N := ["start", "steps", "first", "step"]) (sc := defScope s_sources_of) (by decide +kernel)) (fun _ _ _ _ _ => (cg_name (i := 3) sc_sources_of.nd rfl (by first | exact Or.inl rfl | exact Or.inr rfl))) (fun _ _ _ _ _ => (rts_one (rt_cmp (od_eq (room_eq hr)) (re_ix xd_seq (re_var 3) re_int) re_str))) (fun _ _ _ _ _ => (re_ix xd_seq (re_var 3) re_int))))))))
theorem okm_Recipe___init__ (T : Txt K mg Γ) (Z : SysIn base) : CalleeM (CXL P w) P w K mg base Γ 11 8 "__init__" 2 m_Recipe___init__ := by
  have C_are_stages := ok_are_stages (P := P) (w := w) (base := base) (Γ := Γ) T Z
  have C_sources_of := ok_sources_of (P := P) (w := w) (base := base) (Γ := Γ) T Z
  have X_NoStage := okx_NoStage (P := P) (w := w) (base := base) (Γ := Γ) T Z
  have X_TooMany := okx_TooMany (P := P) (w := w) (base := base) (Γ := Γ) T Z
  have X_Wrong := okx_Wrong (P := P) (w := w) (base := base) (Γ := Γ) T Z
  refine calleeML_mk T.d_Recipe___init__ sc_Recipe___init__ fun f cdv A fr s H E hq hr => ?_
  show RSs _ _ _ _ b_Recipe___init__
  exact ((rss_cons (rs_if (rt_not (rt_val (re_callC C_are_stages hq (hr.mono (by omega)) (ra_cons (re_var 1) ra_nil) (lenA_cons lenA_nil)))) (rss_one (rs_raise rfl takesL X_Wrong T.x_Wrong T.g_Wrong sets_Wrong hq (hr.mono (by omega)) re_int)) rss_nil)
    (rss_cons (rs_setLc (i := 2) (own := [("name", 4), ("start", 5), ("steps", 6)]) rfl sc_Recipe___init__.nd rfl rfl (sw_true rfl rfl rfl (by decide +kernel)) (ri_any (re_var 1)) (blkOk_by (N := ["self", "stages", "names", "at", "name", "start", "steps", "source", "step"]) (sc := defScope s_Recipe___init__) (by decide +kernel)) (fun _ _ _ _ _ => (cg_tup (is := [4, 5, 6]) rfl (pgs_cons (pg_name (i := 4) sc_Recipe___init__.nd rfl (by first | exact Or.inl rfl | exact Or.inr rfl)) (pgs_cons (pg_name (i := 5) sc_Recipe___init__.nd rfl (by first | exact Or.inl rfl | exact Or.inr rfl)) (pgs_cons (pg_name (i := 6) sc_Recipe___init__.nd rfl (by first | exact Or.inl rfl | exact Or.inr rfl)) pgs_nil))))) (fun _ _ _ _ _ => rts_nil) (fun _ _ _ _ _ => (re_var 4)))
    (rss_cons (rs_for ownL rfl (ri_enum T.n_enumerate (re_var 1)) (rg_tupN (i := 3) (is := [4, 5, 6]) rfl (pgs_cons (pg_name (i := 4) sc_Recipe___init__.nd rfl (by first | exact Or.inl rfl | exact Or.inr rfl)) (pgs_cons (pg_name (i := 5) sc_Recipe___init__.nd rfl (by first | exact Or.inl rfl | exact Or.inr rfl)) (pgs_cons (pg_name (i := 6) sc_Recipe___init__.nd rfl (by first | exact Or.inl rfl | exact Or.inr rfl)) pgs_nil))) (pg_name (i := 3) sc_Recipe___init__.nd rfl (by first | exact Or.inl rfl | exact Or.inr rfl))) (rss_one (rs_for ownL rfl (ri_any (re_callC C_sources_of hq (hr.mono (by omega)) (ra_cons (re_var 5) (ra_cons (re_var 6) ra_nil)) (lenA_cons (lenA_cons lenA_nil)))) (rg_name (i := 7) sc_Recipe___init__.nd rfl (by first | exact Or.inl rfl | exact Or.inr rfl)) (rss_one (rs_if (rt_cmp (od_in (room_in hr)) (re_var 7) (re_slice (re_var 2) (ro_some (re_var 3)) ro_none)) (rss_one (rs_raise rfl takesL X_NoStage T.x_NoStage T.g_NoStage sets_NoStage hq (hr.mono (by omega)) (re_var 7))) rss_nil)))))
    (rss_cons (rs_if (rt_cmp od_gt (re_callB cd_len rfl T.n_len bt_len (ra_cons (re_lc2 (own := [("name", 4), ("start", 5), ("steps", 6), ("step", 8)]) (own1 := [8]) rfl sc_Recipe___init__.nd (ri_any (re_var 1)) (blkOk_by (N := ["self", "stages", "names", "at", "name", "start", "steps", "source", "step"]) (sc := defScope s_Recipe___init__) (by decide +kernel)) (by decide) (fun _ _ _ _ _ => (cg_more (cg_tup (is := [4, 5, 6]) rfl (pgs_cons (pg_name (i := 4) sc_Recipe___init__.nd rfl (by first | exact Or.inl rfl | exact Or.inr rfl)) (pgs_cons (pg_name (i := 5) sc_Recipe___init__.nd rfl (by first | exact Or.inl rfl | exact Or.inr rfl)) (pgs_cons (pg_name (i := 6) sc_Recipe___init__.nd rfl (by first | exact Or.inl rfl | exact Or.inr rfl)) pgs_nil)))) (by decide))) (fun _ _ _ _ _ => rts_nil) (fun _ _ _ _ _ => (ri_any (re_var 6))) (fun _ _ _ _ _ => (cg_name (i := 8) sc_Recipe___init__.nd rfl (by first | exact Or.inl rfl | exact Or.inr rfl))) (fun _ _ _ _ _ => (rts_one (rt_cmp (od_eq (room_eq hr)) (re_ix xd_seq (re_var 8) re_int) re_str))) (fun _ _ _ _ _ => (re_var 8))) ra_nil)) (let ⟨_, _, h1, h2, h3⟩ := T.k_MOST_RUNS; re_glob rfl h1 h2 h3)) (rss_one (rs_raise rfl takesL X_TooMany T.x_TooMany T.g_TooMany sets_TooMany hq (hr.mono (by omega)) (let ⟨_, _, h1, h2, h3⟩ := T.k_MOST_RUNS; re_glob rfl h1 h2 h3))) rss_nil)
    (rss_one (rs_fset (mem_one ⟨T.o_Recipe.ic.cl, T.n_Recipe_stage_rows⟩) (re_var 0) (re_lc (own := [("name", 4), ("start", 5), ("steps", 6)]) rfl sc_Recipe___init__.nd (ri_any (re_var 1)) (blkOk_by (N := ["self", "stages", "names", "at", "name", "start", "steps", "source", "step"]) (sc := defScope s_Recipe___init__) (by decide +kernel)) (fun _ _ _ _ _ => (cg_tup (is := [4, 5, 6]) rfl (pgs_cons (pg_name (i := 4) sc_Recipe___init__.nd rfl (by first | exact Or.inl rfl | exact Or.inr rfl)) (pgs_cons (pg_name (i := 5) sc_Recipe___init__.nd rfl (by first | exact Or.inl rfl | exact Or.inr rfl)) (pgs_cons (pg_name (i := 6) sc_Recipe___init__.nd rfl (by first | exact Or.inl rfl | exact Or.inr rfl)) pgs_nil))))) (fun _ _ _ _ _ => rts_nil) (fun _ _ _ _ _ => (re_tup (ra_cons (re_var 4) (ra_cons (re_var 5) (ra_cons (re_callTy cd_list rfl T.n_list bt_list (ra_cons (re_var 6) ra_nil)) ra_nil)))))))))))))
theorem okm_Recipe_stages (T : Txt K mg Γ) (Z : SysIn base) : CalleeM CX0 P w K mg base Γ 1 8 "stages" 1 m_Recipe_stages := by
  refine calleeM_mk T.d_Recipe_stages sc_Recipe_stages fun f cdv A fr s H E hq hr => ?_
  show RSs _ _ _ _ b_Recipe_stages
  exact ((rss_one (rs_ret (re_lc (own := [("name", 1), ("start", 2), ("steps", 3)]) rfl sc_Recipe_stages.nd (ri_any (re_fld (mem_one ⟨T.o_Recipe.ic.cl, T.n_Recipe_stage_rows⟩) (re_var 0))) (blkOk_by (N := ["self", "name", "start", "steps"]) (sc := defScope s_Recipe_stages) (by decide +kernel)) (fun _ _ _ _ _ => (cg_tup (is := [1, 2, 3]) rfl (pgs_cons (pg_name (i := 1) sc_Recipe_stages.nd rfl (by first | exact Or.inl rfl | exact Or.inr rfl)) (pgs_cons (pg_name (i := 2) sc_Recipe_stages.nd rfl (by first | exact Or.inl rfl | exact Or.inr rfl)) (pgs_cons (pg_name (i := 3) sc_Recipe_stages.nd rfl (by first | exact Or.inl rfl | exact Or.inr rfl)) pgs_nil))))) (fun _ _ _ _ _ => rts_nil) (fun _ _ _ _ _ => (re_tup (ra_cons (re_var 1) (ra_cons (re_var 2) (ra_cons (re_callTy cd_list rfl T.n_list bt_list (ra_cons (re_var 3) ra_nil)) ra_nil)))))))))
theorem ok__law_alike (T : Txt K mg Γ) (Z : SysIn base) : Callee P w K mg base Γ 1 "_law_alike" 2 m__law_alike := by
  refine callee_mk T.d__law_alike sc__law_alike fun f cdv A fr s H E hq hr => ?_
  show RSs _ _ _ _ b__law_alike
  exact ((rss_one (rs_ret (re_and (re_cmp (od_eq (room_eq hr)) (re_var 0) (re_var 1)) (re_one (re_cmp (od_eq (room_eq hr)) (re_callB (cd_repr Z hq (room_re hr)) rfl T.n_repr bt_repr (ra_cons (re_var 0) ra_nil)) (re_callB (cd_repr Z hq (room_re hr)) rfl T.n_repr bt_repr (ra_cons (re_var 1) ra_nil))))))))
theorem ok__law_bag (T : Txt K mg Γ) (Z : SysIn base) : Callee P w K mg base Γ 1 "_law_bag" 1 m__law_bag := by
  refine callee_mk T.d__law_bag sc__law_bag fun f cdv A fr s H E hq hr => ?_
  show RSs _ _ _ _ b__law_bag
  exact ((rss_one (rs_ret (re_lst (ra_cons re_int (ra_cons re_int (ra_cons re_int (ra_cons (re_lc (own := [("_law_cell", 1)]) rfl sc__law_bag.nd (ri_any (re_slice (re_var 0) ro_none (ro_some re_int))) (blkOk_by (N := ["_law_script", "_law_cell"]) (sc := defScope s__law_bag) (by decide +kernel)) (fun _ _ _ _ _ => (cg_name (i := 1) sc__law_bag.nd rfl (by first | exact Or.inl rfl | exact Or.inr rfl))) (fun _ _ _ _ _ => rts_nil) (fun _ _ _ _ _ => (re_callB cd_abs rfl T.n_abs bt_abs (ra_cons (re_var 1) ra_nil)))) ra_nil))))))))
theorem ok__law_behind (T : Txt K mg Γ) (Z : SysIn base) : Callee P w K mg base Γ 1 "_law_behind" 2 m__law_behind := by
  refine callee_mk T.d__law_behind sc__law_behind fun f cdv A fr s H E hq hr => ?_
  show RSs _ _ _ _ b__law_behind
  exact ((rss_cons (rs_asg (re_ix xd_seq (re_var 0) (re_un ud_neg re_int)) (rg_tup (is := [2, 3, 4]) rfl (pgs_cons (pg_name (i := 2) sc__law_behind.nd rfl (by first | exact Or.inl rfl | exact Or.inr rfl)) (pgs_cons (pg_name (i := 3) sc__law_behind.nd rfl (by first | exact Or.inl rfl | exact Or.inr rfl)) (pgs_cons (pg_name (i := 4) sc__law_behind.nd rfl (by first | exact Or.inl rfl | exact Or.inr rfl)) pgs_nil)))))
    (rss_cons (rs_par (i := 5) (j := 6) rfl sc__law_behind.nd rfl rfl (by decide) rfl rfl (ra_cons (re_cmp (od_eq (room_eq hr)) (re_ix xd_seq (re_var 1) re_int) re_str) (ra_cons (re_ix xd_seq (re_var 1) re_int) ra_nil)) (by rfl))
    (rss_cons (rs_if (L2.PW.pt (rw_or (rt_cmp od_gt (re_var 6) (re_callB cd_len rfl T.n_len bt_len (ra_cons (re_var 4) ra_nil))) (rw_or1 (L2.PW.pt (rw_and (rt_cmp (od_eq (room_eq hr)) (re_var 6) (re_callB cd_len rfl T.n_len bt_len (ra_cons (re_var 4) ra_nil))) (rw_and1 (rt_not (rt_val (re_var 5))))))))) (rss_one (rs_ret (re_tup (ra_cons re_str (ra_cons (re_var 6) ra_nil))))) rss_nil)
    (rss_cons (rs_if (L2.PW.pt (rw_and (rt_val (re_var 5)) (rw_and1 (rt_cmp (od_eq (room_eq hr)) (re_callB cd_len rfl T.n_len bt_len (ra_cons (re_var 4) ra_nil)) re_int)))) (rss_one (rs_ret (re_tup (ra_cons re_str (ra_cons re_int ra_nil))))) rss_nil)
    (rss_cons (rs_set (i := 7) sc__law_behind.nd rfl (by first | exact Or.inl rfl | exact Or.inr rfl) (re_bin od_add (re_bin od_add (re_slice (re_var 4) ro_none (ro_some (re_var 6))) (re_callTy cd_list rfl T.n_list bt_list (ra_cons (re_slice (re_var 1) (ro_some re_int) ro_none) ra_nil))) (re_slice (re_var 4) (ro_some (re_bin od_add (re_var 6) (re_callTy cd_int rfl T.n_int bt_int (ra_cons (re_not (re_var 5)) ra_nil)))) ro_none)))
    (rss_cons (rs_if (rt_cmp (od_ne (room_eq hr)) (re_lc (own := [("_law_step_here", 9)]) rfl sc__law_behind.nd (ri_any (re_var 7)) (blkOk_by (N := ["_law_stages_here", "_law_deed", "_law_name", "_law_start", "_law_steps_here", "_law_put", "_law_at", "_law_later", "_law_both", "_law_step_here", "_law_stage"]) (sc := defScope s__law_behind) (by decide +kernel)) (fun _ _ _ _ _ => (cg_name (i := 9) sc__law_behind.nd rfl (by first | exact Or.inl rfl | exact Or.inr rfl))) (fun _ _ _ _ _ => (rts_one (L2.PW.pt (rw_and (rt_cmp (od_eq (room_eq hr)) (re_ix xd_seq (re_var 9) re_int) re_str) (rw_and1 (rt_cmp (od_eq (room_eq hr)) (re_ix xd_seq (re_var 9) re_int) (re_var 2))))))) (fun _ _ _ _ _ => (re_var 9))) (re_lst ra_nil)) (rss_one (rs_ret (re_tup (ra_cons re_str (ra_cons (re_var 2) ra_nil))))) rss_nil)
    (rss_cons (rs_set (i := 8) sc__law_behind.nd rfl (by first | exact Or.inl rfl | exact Or.inr rfl) (re_bin od_add (re_slice (re_var 0) ro_none (ro_some (re_un ud_neg re_int))) (re_lst (ra_cons (re_tup (ra_cons (re_var 2) (ra_cons (re_var 3) (ra_cons (re_var 7) ra_nil)))) ra_nil))))
    (rss_cons (rs_if (rt_cmp od_gt (re_callB (cd_sum rfl) rfl T.n_sum bt_sum (ra_cons (re_lc (own := [("_law_stage", 10)]) rfl sc__law_behind.nd (ri_any (re_var 8)) (blkOk_by (N := ["_law_stages_here", "_law_deed", "_law_name", "_law_start", "_law_steps_here", "_law_put", "_law_at", "_law_later", "_law_both", "_law_step_here", "_law_stage"]) (sc := defScope s__law_behind) (by decide +kernel)) (fun _ _ _ _ _ => (cg_name (i := 10) sc__law_behind.nd rfl (by first | exact Or.inl rfl | exact Or.inr rfl))) (fun _ _ _ _ _ => rts_nil) (fun _ _ _ _ _ => (re_callB cd_len rfl T.n_len bt_len (ra_cons (re_lc (own := [("_law_step_here", 9)]) rfl sc__law_behind.nd (ri_any (re_ix xd_seq (re_var 10) re_int)) (blkOk_by (N := ["_law_stages_here", "_law_deed", "_law_name", "_law_start", "_law_steps_here", "_law_put", "_law_at", "_law_later", "_law_both", "_law_step_here", "_law_stage"]) (by rfl)) (fun _ _ _ _ _ => (cg_name (i := 9) sc__law_behind.nd rfl (by first | exact Or.inl rfl | exact Or.inr rfl))) (fun _ _ _ _ _ => (rts_one (rt_cmp (od_eq (room_eq hr)) (re_ix xd_seq (re_var 9) re_int) re_str))) (fun _ _ _ _ _ => (re_var 9))) ra_nil)))) ra_nil)) re_int) (rss_one (rs_ret (re_tup (ra_cons re_str (ra_cons re_int ra_nil))))) rss_nil)
    (rss_one (rs_ret (re_tup (ra_cons re_str (ra_cons (re_var 8) ra_nil))))))))))))))
theorem okm_Book___len__ (T : Txt K mg Γ) (Z : SysIn base) : CalleeM CX0 P w K mg base Γ 1 10 "__len__" 1 m_Book___len__ := by
  refine calleeM_mk T.d_Book___len__ sc_Book___len__ fun f cdv A fr s H E hq hr => ?_
  show RSs _ _ _ _ b_Book___len__
  exact ((rss_one (rs_ret (re_callB cd_len rfl T.n_len bt_len (ra_cons (re_fld (mem_one ⟨T.o_Book.ic.cl, T.n_Book_deeds⟩) (re_var 0)) ra_nil)))))
theorem okm_Book_log (T : Txt K mg Γ) (Z : SysIn base) : CalleeM CX0 P w K mg base Γ 1 10 "log" 1 m_Book_log := by
  refine calleeM_mk T.d_Book_log sc_Book_log fun f cdv A fr s H E hq hr => ?_
  show RSs _ _ _ _ b_Book_log
  exact ((rss_one (rs_ret (re_callTy cd_list rfl T.n_list bt_list (ra_cons (re_fld (mem_one ⟨T.o_Book.ic.cl, T.n_Book_deeds⟩) (re_var 0)) ra_nil)))))
theorem ok__law_book_right (T : Txt K mg Γ) (Z : SysIn base) : Callee P w K mg base Γ 3 "_law_book_right" 4 m__law_book_right := by
  have M_Book___len__ := okm_Book___len__ (P := P) (w := w) (base := base) (Γ := Γ) T Z
  have M_Book_first := okm_Book_first (P := P) (w := w) (base := base) (Γ := Γ) T Z
  have M_Book_log := okm_Book_log (P := P) (w := w) (base := base) (Γ := Γ) T Z
  have M_Book_recipe := okm_Book_recipe (P := P) (w := w) (base := base) (Γ := Γ) T Z
  have M_Recipe_stages := okm_Recipe_stages (P := P) (w := w) (base := base) (Γ := Γ) T Z
  refine callee_mk T.d__law_book_right sc__law_book_right fun f cdv A fr s H E hq hr => ?_
  show RSs _ _ _ _ b__law_book_right
  exact ((rss_cons (rs_if (L2.PW.pt (rw_or (rt_cmp (od_ne (room_eq hr)) (re_methC0 M_Recipe_stages T.o_Recipe pass0 hq (hr.mono (by omega)) (re_methC0 M_Book_first T.o_Book pass0 hq (hr.mono (by omega)) (re_var 0))) (re_var 1)) (rw_or (rt_cmp (od_ne (room_eq hr)) (re_methC0 M_Recipe_stages T.o_Recipe pass0 hq (hr.mono (by omega)) (re_methC0 M_Book_recipe T.o_Book pass0 hq (hr.mono (by omega)) (re_var 0))) (re_var 3)) (rw_or1 (rt_cmp (od_ne (room_eq hr)) (re_methC0 M_Book_log T.o_Book pass0 hq (hr.mono (by omega)) (re_var 0)) (re_var 2)))))) (rss_one (rs_ret re_bl)) rss_nil)
    (rss_cons (rs_set (i := 4) sc__law_book_right.nd rfl (by first | exact Or.inl rfl | exact Or.inr rfl) (re_methC0 M_Book_log T.o_Book pass0 hq (hr.mono (by omega)) (re_var 0)))
    (rss_cons (rs_expr (re_mt (T := "list") md_append PySem.F.plainAttrs_list PySem.F.slot_list_append PySem.F.type_list_append (re_var 4) (ra_cons re_non ra_nil)))
    (rss_one (rs_ret (re_and (re_cmp (od_eq (room_eq hr)) (re_callB (lenO_C M_Book___len__ pass0 hq (hr.mono (by omega))) rfl T.n_len bt_len (ra_cons (re_var 0) ra_nil)) (re_callB cd_len rfl T.n_len bt_len (ra_cons (re_var 2) ra_nil))) (re_one (re_cmp (od_eq (room_eq hr)) (re_methC0 M_Book_log T.o_Book pass0 hq (hr.mono (by omega)) (re_var 0)) (re_var 2))))))))))
theorem okm_Recipe_stage_named (T : Txt K mg Γ) (Z : SysIn base) : CalleeM (CXL P w) P w K mg base Γ 3 8 "stage_named" 2 m_Recipe_stage_named := by
  have X_NoStage := okx_NoStage (P := P) (w := w) (base := base) (Γ := Γ) T Z
  refine calleeML_mk T.d_Recipe_stage_named sc_Recipe_stage_named fun f cdv A fr s H E hq hr => ?_
  show RSs _ _ _ _ b_Recipe_stage_named
  exact ((rss_cons (rs_for ownL rfl (ri_any (re_fld (mem_one ⟨T.o_Recipe.ic.cl, T.n_Recipe_stage_rows⟩) (re_var 0))) (rg_name (i := 2) sc_Recipe_stage_named.nd rfl (by first | exact Or.inl rfl | exact Or.inr rfl)) (rss_one (rs_if (rt_cmp (od_eq (room_eq hr)) (re_ix xd_seq (re_var 2) re_int) (re_var 1)) (rss_one (rs_ret (re_var 2))) rss_nil)))
    (rss_one (rs_raise rfl takesL X_NoStage T.x_NoStage T.g_NoStage sets_NoStage hq (hr.mono (by omega)) (re_var 1)))))
theorem okm_Recipe_steps (T : Txt K mg Γ) (Z : SysIn base) : CalleeM (CXL P w) P w K mg base Γ 4 8 "steps" 2 m_Recipe_steps := by
  have M_Recipe_stage_named := okm_Recipe_stage_named (P := P) (w := w) (base := base) (Γ := Γ) T Z
  refine calleeML_mk T.d_Recipe_steps sc_Recipe_steps fun f cdv A fr s H E hq hr => ?_
  show RSs _ _ _ _ b_Recipe_steps
  exact ((rss_one (rs_ret (re_callTy cd_list rfl T.n_list bt_list (ra_cons (re_ix xd_seq (re_methC M_Recipe_stage_named T.o_Recipe passL hq (hr.mono (by omega)) (re_var 0) (ra_cons (re_var 1) ra_nil) (len_succ (lenA_cons lenA_nil))) re_int) ra_nil)))))
theorem okm_Recipe_with_steps (T : Txt K mg Γ) (Z : SysIn base) : CalleeM (CXL P w) P w K mg base Γ 13 8 "with_steps" 3 m_Recipe_with_steps := by
  have M_Recipe___init__ := okm_Recipe___init__ (P := P) (w := w) (base := base) (Γ := Γ) T Z
  have M_Recipe_stage_named := okm_Recipe_stage_named (P := P) (w := w) (base := base) (Γ := Γ) T Z
  have M_Recipe_stages := okm_Recipe_stages (P := P) (w := w) (base := base) (Γ := Γ) T Z
  have C_are_steps := ok_are_steps (P := P) (w := w) (base := base) (Γ := Γ) T Z
  have C_is_name := ok_is_name (P := P) (w := w) (base := base) (Γ := Γ) T Z
  have X_Wrong := okx_Wrong (P := P) (w := w) (base := base) (Γ := Γ) T Z
  refine calleeML_mk T.d_Recipe_with_steps sc_Recipe_with_steps fun f cdv A fr s H E hq hr => ?_
  show RSs _ _ _ _ b_Recipe_with_steps
  exact ((rss_cons (rs_if (rt_not (rt_val (re_callC C_is_name hq (hr.mono (by omega)) (ra_cons (re_var 1) ra_nil) (lenA_cons lenA_nil)))) (rss_one (rs_raise rfl takesL X_Wrong T.x_Wrong T.g_Wrong sets_Wrong hq (hr.mono (by omega)) re_int)) rss_nil)
    (rss_cons (rs_if (rt_not (rt_val (re_callC C_are_steps hq (hr.mono (by omega)) (ra_cons (re_var 2) ra_nil) (lenA_cons lenA_nil)))) (rss_one (rs_raise rfl takesL X_Wrong T.x_Wrong T.g_Wrong sets_Wrong hq (hr.mono (by omega)) re_int)) rss_nil)
    (rss_cons (rs_set (i := 3) sc_Recipe_with_steps.nd rfl (by first | exact Or.inl rfl | exact Or.inr rfl) (re_mt (T := "list") (md_index (room_in hr)) PySem.F.plainAttrs_list PySem.F.slot_list_index PySem.F.type_list_index (re_lc (own := [("stage", 5)]) rfl sc_Recipe_with_steps.nd (ri_any (re_fld (mem_one ⟨T.o_Recipe.ic.cl, T.n_Recipe_stage_rows⟩) (re_var 0))) (blkOk_by (N := ["self", "name", "steps", "at", "stages", "stage"]) (sc := defScope s_Recipe_with_steps) (by decide +kernel)) (fun _ _ _ _ _ => (cg_name (i := 5) sc_Recipe_with_steps.nd rfl (by first | exact Or.inl rfl | exact Or.inr rfl))) (fun _ _ _ _ _ => rts_nil) (fun _ _ _ _ _ => (re_ix xd_seq (re_var 5) re_int))) (ra_cons (re_ix xd_seq (re_methC M_Recipe_stage_named T.o_Recipe passL hq (hr.mono (by omega)) (re_var 0) (ra_cons (re_var 1) ra_nil) (len_succ (lenA_cons lenA_nil))) re_int) ra_nil)))
    (rss_cons (rs_set (i := 4) sc_Recipe_with_steps.nd rfl (by first | exact Or.inl rfl | exact Or.inr rfl) (re_methC0 M_Recipe_stages T.o_Recipe pass0 hq (hr.mono (by omega)) (re_var 0)))
    (rss_cons (rs_asg (re_tup (ra_cons (re_var 1) (ra_cons (re_ix xd_seq (re_ix xd_seq (re_var 4) (re_var 3)) re_int) (ra_cons (re_callTy cd_list rfl T.n_list bt_list (ra_cons (re_var 2) ra_nil)) ra_nil)))) (rg_sub (re_var 4) (re_var 3) sd_list))
    (rss_one (rs_ret (re_makeO M_Recipe___init__ T.o_Recipe T.g_Recipe passL hq (hr.mono (by omega)) (ra_cons (re_var 4) ra_nil) (len_succ (lenA_cons lenA_nil)))))))))))
theorem ok_last_name (T : Txt K mg Γ) (Z : SysIn base) : Callee P w K mg base Γ 2 "last_name" 1 m_last_name := by
  have M_Recipe_stages := okm_Recipe_stages (P := P) (w := w) (base := base) (Γ := Γ) T Z
  refine callee_mk T.d_last_name sc_last_name fun f cdv A fr s H E hq hr => ?_
  show RSs _ _ _ _ b_last_name
  exact ((rss_one (rs_ret (re_ix xd_seq (re_ix xd_seq (re_methC0 M_Recipe_stages T.o_Recipe pass0 hq (hr.mono (by omega)) (re_var 0)) (re_un ud_neg re_int)) re_int))))
theorem ok_changed (T : Txt K mg Γ) (Z : SysIn base) : CalleeL P w K mg base Γ 14 "changed" 2 m_changed := by
  have M_Recipe_steps := okm_Recipe_steps (P := P) (w := w) (base := base) (Γ := Γ) T Z
  have M_Recipe_with_steps := okm_Recipe_with_steps (P := P) (w := w) (base := base) (Γ := Γ) T Z
  have C_last_name := ok_last_name (P := P) (w := w) (base := base) (Γ := Γ) T Z
  have X_NoStep := okx_NoStep (P := P) (w := w) (base := base) (Γ := Γ) T Z
  have X_TooMany := okx_TooMany (P := P) (w := w) (base := base) (Γ := Γ) T Z
  refine calleeL_mk T.d_changed sc_changed fun f cdv A fr s H E hq hr => ?_
  show RSs _ _ _ _ b_changed
  exact ((rss_cons (rs_set (i := 2) sc_changed.nd rfl (by first | exact Or.inl rfl | exact Or.inr rfl) (re_callC C_last_name hq (hr.mono (by omega)) (ra_cons (re_var 0) ra_nil) (lenA_cons lenA_nil)))
    (rss_cons (rs_par3 (i := 3) (j := 4) (l := 5) rfl sc_changed.nd rfl rfl rfl (by decide) (by decide) (by decide) rfl rfl rfl (ra_cons (re_methC M_Recipe_steps T.o_Recipe passL hq (hr.mono (by omega)) (re_var 0) (ra_cons (re_var 2) ra_nil) (len_succ (lenA_cons lenA_nil))) (ra_cons (re_ix xd_seq (re_var 1) re_int) (ra_cons (re_cmp (od_eq (room_eq hr)) (re_ix xd_seq (re_var 1) re_int) re_str) ra_nil))) (by rfl))
    (rss_cons (rs_if (L2.PW.pt (rw_or (rt_cmp od_gt (re_var 4) (re_callB cd_len rfl T.n_len bt_len (ra_cons (re_var 3) ra_nil))) (rw_or1 (L2.PW.pt (rw_and (rt_cmp (od_eq (room_eq hr)) (re_var 4) (re_callB cd_len rfl T.n_len bt_len (ra_cons (re_var 3) ra_nil))) (rw_and1 (rt_not (rt_val (re_var 5))))))))) (rss_one (rs_raise rfl takesL X_NoStep T.x_NoStep T.g_NoStep sets_NoStep hq (hr.mono (by omega)) (re_var 4))) rss_nil)
    (rss_cons (rs_if (L2.PW.pt (rw_and (rt_val (re_var 5)) (rw_and1 (rt_cmp (od_eq (room_eq hr)) (re_callB cd_len rfl T.n_len bt_len (ra_cons (re_var 3) ra_nil)) (let ⟨_, _, h1, h2, h3⟩ := T.k_MOST_STEPS; re_glob rfl h1 h2 h3))))) (rss_one (rs_raise rfl takesL X_TooMany T.x_TooMany T.g_TooMany sets_TooMany hq (hr.mono (by omega)) (let ⟨_, _, h1, h2, h3⟩ := T.k_MOST_STEPS; re_glob rfl h1 h2 h3))) rss_nil)
    (rss_one (rs_ret (re_methC M_Recipe_with_steps T.o_Recipe passL hq (hr.mono (by omega)) (re_var 0) (ra_cons (re_var 2) (ra_cons (re_bin od_add (re_bin od_add (re_slice (re_var 3) ro_none (ro_some (re_var 4))) (re_callTy cd_list rfl T.n_list bt_list (ra_cons (re_slice (re_var 1) (ro_some re_int) ro_none) ra_nil))) (re_slice (re_var 3) (ro_some (re_bin od_add (re_var 4) (re_callTy cd_int rfl T.n_int bt_int (ra_cons (re_not (re_var 5)) ra_nil)))) ro_none)) ra_nil)) (len_succ (lenA_cons (lenA_cons lenA_nil)))))))))))
theorem ok_is_deed (T : Txt K mg Γ) (Z : SysIn base) : Callee P w K mg base Γ 8 "is_deed" 1 m_is_deed := by
  have C_is_integer := ok_is_integer (P := P) (w := w) (base := base) (Γ := Γ) T Z
  have C_is_step := ok_is_step (P := P) (w := w) (base := base) (Γ := Γ) T Z
  have C_is_word := ok_is_word (P := P) (w := w) (base := base) (Γ := Γ) T Z
  refine callee_mk T.d_is_deed sc_is_deed fun f cdv A fr s H E hq hr => ?_
  show RSs _ _ _ _ b_is_deed
  exact ((rss_cons (rs_if (L2.PW.pt (rw_or (rt_not (rt_val (re_isi .tTuple (re_var 0) rfl T.n_isinstance rfl T.n_tuple))) (rw_or (rt_cmp (od_notIn (room_in hr)) (re_callB cd_len rfl T.n_len bt_len (ra_cons (re_var 0) ra_nil)) (re_tup (ra_cons re_int (ra_cons re_int ra_nil)))) (rw_or (rt_not (rt_val (re_callC C_is_integer hq (hr.mono (by omega)) (ra_cons (re_ix xd_seq (re_var 0) re_int) ra_nil) (lenA_cons lenA_nil)))) (rw_or1 (rt_cmp od_lt (re_ix xd_seq (re_var 0) re_int) re_int)))))) (rss_one (rs_ret re_bl)) rss_nil)
    (rss_cons (rs_if (rt_cmp (od_eq (room_eq hr)) (re_callB cd_len rfl T.n_len bt_len (ra_cons (re_var 0) ra_nil)) re_int) (rss_one (rs_ret (re_callC C_is_word hq (hr.mono (by omega)) (ra_cons (re_ix xd_seq (re_var 0) re_int) (ra_cons re_str ra_nil)) (lenA_cons (lenA_cons lenA_nil))))) rss_nil)
    (rss_one (rs_ret (re_and (re_or (re_callC C_is_word hq (hr.mono (by omega)) (ra_cons (re_ix xd_seq (re_var 0) re_int) (ra_cons re_str ra_nil)) (lenA_cons (lenA_cons lenA_nil))) (re_one (re_callC C_is_word hq (hr.mono (by omega)) (ra_cons (re_ix xd_seq (re_var 0) re_int) (ra_cons re_str ra_nil)) (lenA_cons (lenA_cons lenA_nil))))) (re_one (re_callC C_is_step hq (hr.mono (by omega)) (ra_cons (re_ix xd_seq (re_var 0) re_int) ra_nil) (lenA_cons lenA_nil)))))))))
theorem okm_Book_do (T : Txt K mg Γ) (Z : SysIn base) : CalleeM (CXL P w) P w K mg base Γ 15 10 "do" 2 m_Book_do := by
  have M_Book_recipe := okm_Book_recipe (P := P) (w := w) (base := base) (Γ := Γ) T Z
  have M_Recipe_steps := okm_Recipe_steps (P := P) (w := w) (base := base) (Γ := Γ) T Z
  have C_changed := ok_changed (P := P) (w := w) (base := base) (Γ := Γ) T Z
  have C_is_deed := ok_is_deed (P := P) (w := w) (base := base) (Γ := Γ) T Z
  have C_last_name := ok_last_name (P := P) (w := w) (base := base) (Γ := Γ) T Z
  have X_TooMany := okx_TooMany (P := P) (w := w) (base := base) (Γ := Γ) T Z
  refine calleeML_mk T.d_Book_do sc_Book_do fun f cdv A fr s H E hq hr => ?_
  show RSs _ _ _ _ b_Book_do
  exact ((rss_cons (rs_if (rt_not (rt_val (re_callC C_is_deed hq (hr.mono (by omega)) (ra_cons (re_var 1) ra_nil) (lenA_cons lenA_nil)))) (rss_one (rs_raise0 rfl takesL T.e_NoDeed T.x_NoDeed T.g_NoDeed)) rss_nil)
    (rss_cons (rs_if (rt_cmp (od_eq (room_eq hr)) (re_callB cd_len rfl T.n_len bt_len (ra_cons (re_fld (mem_one ⟨T.o_Book.ic.cl, T.n_Book_deeds⟩) (re_var 0)) ra_nil)) (let ⟨_, _, h1, h2, h3⟩ := T.k_MOST_DEEDS; re_glob rfl h1 h2 h3)) (rss_one (rs_raise rfl takesL X_TooMany T.x_TooMany T.g_TooMany sets_TooMany hq (hr.mono (by omega)) (let ⟨_, _, h1, h2, h3⟩ := T.k_MOST_DEEDS; re_glob rfl h1 h2 h3))) rss_nil)
    (rss_cons (rs_set (i := 2) sc_Book_do.nd rfl (by first | exact Or.inl rfl | exact Or.inr rfl) (re_methC0 M_Book_recipe T.o_Book pass0 hq (hr.mono (by omega)) (re_var 0)))
    (rss_cons (rs_expr (re_mt (T := "list") md_append PySem.F.plainAttrs_list PySem.F.slot_list_append PySem.F.type_list_append (re_fld (mem_one ⟨T.o_Book.ic.cl, T.n_Book_recipes_kept⟩) (re_var 0)) (ra_cons (re_callL C_changed passL hq (hr.mono (by omega)) (ra_cons (re_var 2) (ra_cons (re_var 1) ra_nil)) (lenA_cons (lenA_cons lenA_nil))) ra_nil)))
    (rss_cons (rs_expr (re_mt (T := "list") md_append PySem.F.plainAttrs_list PySem.F.slot_list_append PySem.F.type_list_append (re_fld (mem_one ⟨T.o_Book.ic.cl, T.n_Book_deeds⟩) (re_var 0)) (ra_cons (re_var 1) ra_nil)))
    (rss_cons (rs_fset (mem_one ⟨T.o_Book.ic.cl, T.n_Book_undone⟩) (re_var 0) (re_lst ra_nil))
    (rss_one (rs_ret (re_if (rt_cmp (od_eq (room_eq hr)) (re_ix xd_seq (re_var 1) re_int) re_str) re_non (re_ix xd_seq (re_methC M_Recipe_steps T.o_Recipe passL hq (hr.mono (by omega)) (re_var 2) (ra_cons (re_callC C_last_name hq (hr.mono (by omega)) (ra_cons (re_var 2) ra_nil) (lenA_cons lenA_nil)) ra_nil) (len_succ (lenA_cons lenA_nil))) (re_ix xd_seq (re_var 1) re_int))))))))))))
theorem okp__law_error (T : Txt K mg Γ) (Z : SysIn base) (a : Addr) (oe : Obj) (c : Nat) (dd : Option Addr) (hz : L2N.Zn (.ref (Γ c)) dd oe) (hfl : ∃ vs, oe.data = .fields vs) : CalleeP P w K mg base Γ 1 "_law_error" 1 (m__law_error a dd c) (a, oe) := by
  refine calleeP_mk T.d__law_error sc__law_error fun f cdv A fr s H E hr => ?_
  show RSs _ _ _ _ (b__law_error a dd c)
  have P1 : Pin1 (L2H.cxH CX0 P w K mg base ["_law_e", "_law_kinds"] "_law_error" (defScope s__law_error) f cdv A fr s H E (a, oe)) a (Γ c) dd := ⟨⟨oe, List.mem_cons_self, hz, hfl⟩⟩
  exact ((rss_cons (rs_set (i := 1) sc__law_error.nd rfl (by first | exact Or.inl rfl | exact Or.inr rfl) (re_lst (ra_cons (re_isA P1 T.i_NoDeed (re_var 0) rfl T.n_isinstance rfl T.g_NoDeed) (ra_cons (re_isA P1 T.i_Nothing (re_var 0) rfl T.n_isinstance rfl T.g_Nothing) (ra_cons (re_isA P1 T.i_TooMany (re_var 0) rfl T.n_isinstance rfl T.g_TooMany) (ra_cons (re_isA P1 T.i_NoStep (re_var 0) rfl T.n_isinstance rfl T.g_NoStep) ra_nil))))))
    (rss_cons (rs_set (i := 1) sc__law_error.nd rfl (by first | exact Or.inl rfl | exact Or.inr rfl) (re_bin od_add (re_var 1) (re_lst (ra_cons (re_isA P1 T.i_NoStage (re_var 0) rfl T.n_isinstance rfl T.g_NoStage) (ra_cons (re_isA P1 T.i_Stopped (re_var 0) rfl T.n_isinstance rfl T.g_Stopped) (ra_cons (re_isA P1 T.i_Wrong (re_var 0) rfl T.n_isinstance rfl T.g_Wrong) ra_nil))))))
    (rss_cons (rs_if (L2.PW.pt (rw_or (rt_cmp (od_ne (roomP_eq hr)) (re_mt (T := "list") (md_count Z (roomP_re hr)) PySem.F.plainAttrs_list PySem.F.slot_list_count PySem.F.type_list_count (re_var 1) (ra_cons re_bl ra_nil)) re_int) (rw_or1 (rt_not (rt_val (re_isAT P1 T.i_ValueError (re_var 0) rfl T.n_isinstance rfl T.n_ValueError bt_ValueError)))))) (rss_one (rs_ret (re_tup (ra_cons re_str (ra_cons re_non ra_nil))))) rss_nil)
    (rss_cons (rs_if (L2.PW.pt (rw_or (rt_val (re_ix xd_seq (re_var 1) re_int)) (rw_or1 (rt_val (re_ix xd_seq (re_var 1) re_int))))) (rss_one (rs_ret (re_tup (ra_cons (re_ix xd_seq (re_lst (ra_cons re_str (ra_cons re_str ra_nil))) (re_callTy cd_int rfl T.n_int bt_int (ra_cons (re_ix xd_seq (re_var 1) re_int) ra_nil))) (ra_cons re_non ra_nil))))) rss_nil)
    (rss_cons (rs_if (rt_val (re_ix xd_seq (re_var 1) re_int)) (rss_one (rs_ret (re_tup (ra_cons re_str (ra_cons (re_xfldA P1 (mem_cons' ⟨T.x_TooMany.xf, T.f_TooMany_limit⟩ (fun c h => (by cases h))) (re_var 0)) ra_nil))))) rss_nil)
    (rss_cons (rs_if (L2.PW.pt (rw_or (rt_val (re_ix xd_seq (re_var 1) re_int)) (rw_or1 (rt_val (re_ix xd_seq (re_var 1) re_int))))) (rss_one (rs_ret (re_tup (ra_cons (re_ix xd_seq (re_lst (ra_cons re_str (ra_cons re_str ra_nil))) (re_callTy cd_int rfl T.n_int bt_int (ra_cons (re_ix xd_seq (re_var 1) re_int) ra_nil))) (ra_cons (re_xfldA P1 (mem_cons' ⟨T.x_NoStep.xf, T.f_NoStep_at⟩ (fun c h => (by cases h))) (re_var 0)) ra_nil))))) rss_nil)
    (rss_one (rs_ret (re_if (rt_val (re_ix xd_seq (re_var 1) re_int)) (re_tup (ra_cons re_str (ra_cons (re_xfldA P1 (mem_cons' ⟨T.x_NoStage.xf, T.f_NoStage_name⟩ (fun c h => (by cases h))) (re_var 0)) ra_nil))) (re_tup (ra_cons re_str (ra_cons (re_xfldA P1 (mem_cons' ⟨T.x_Wrong.xf, T.f_Wrong_place⟩ (fun c h => (by cases h))) (re_var 0)) ra_nil)))))))))))))
theorem ok__law_did (T : Txt K mg Γ) (Z : SysIn base) : Callee P w K mg base Γ 16 "_law_did" 4 m__law_did := by
  have M_Book_do := okm_Book_do (P := P) (w := w) (base := base) (Γ := Γ) T Z
  have P__law_error := okp__law_error (P := P) (w := w) (base := base) (Γ := Γ) T Z
  refine callee_mk T.d__law_did sc__law_did fun f cdv A fr s H E hq hr => ?_
  show RSs _ _ _ _ b__law_did
  exact ((rss_one (rs_try rfl rfl sc__law_did.nd (i := 4) rfl rfl ⟨rfl, by decide, .inl T.g_LayerError⟩ (fun h => Bool.noConfusion h) T.t_LayerError (fun E' pn xe hx po => (rss_cons (rs_if (rt_cmp (od_eq (room_eq hr)) (re_var 1) re_str) (rss_one (rs_ret (re_tup (ra_cons re_str (ra_cons (re_methC M_Book_do T.o_Book hx hq (hr.mono (by omega)) (re_var 0) (ra_cons (re_var 3) ra_nil) (len_succ (lenA_cons lenA_nil))) ra_nil))))) rss_nil)
    rss_never))
    (fun a oe c dd pn p1 hot hz hfl => rss_one (rs_ret (re_callP (P__law_error a oe c dd hz hfl) (roomP_mark hr (by omega)) hot List.mem_cons_self (ra_cons (re_var 4) ra_nil) (lenA_cons lenA_nil)))))))
theorem ok__law_take (T : Txt K mg Γ) (Z : SysIn base) : Callee P w K mg base Γ 1 "_law_take" 2 m__law_take := by
  refine callee_mk T.d__law_take sc__law_take fun f cdv A fr s H E hq hr => ?_
  show RSs _ _ _ _ b__law_take
  exact ((rss_cons (rs_if (rt_cmp (od_eq (room_eq hr)) (re_ix xd_seq (re_var 0) re_int) re_int) (rss_cons (rs_set (i := 2) sc__law_take.nd rfl (by first | exact Or.inl rfl | exact Or.inr rfl) re_int)
    (rss_cons (rs_if (rt_cmp od_lt (re_ix xd_seq (re_var 0) re_int) (re_callB cd_len rfl T.n_len bt_len (ra_cons (re_ix xd_seq (re_var 0) re_int) ra_nil))) (rss_one (rs_set (i := 2) sc__law_take.nd rfl (by first | exact Or.inl rfl | exact Or.inr rfl) (re_ix xd_seq (re_ix xd_seq (re_var 0) re_int) (re_ix xd_seq (re_var 0) re_int)))) rss_nil)
    (rss_cons (rs_augS (re_var 0) re_int gd_list re_int ip_addI sd_list)
    (rss_cons (rs_if (rt_cmp od_ge (re_var 2) re_int) (rss_one (rs_asg (re_var 2) (rg_sub (re_var 0) re_int sd_list))) rss_nil)
    (rss_one (rs_asg (re_bin od_mod (re_bin od_add (re_bin od_add (re_bin od_mul (re_ix xd_seq (re_var 0) re_int) re_int) (re_bin od_mod (re_var 2) re_int)) (re_bin od_mul re_int (re_ix xd_seq (re_var 0) re_int))) re_int) (rg_sub (re_var 0) re_int sd_list))))))) rss_nil)
    (rss_cons (rs_if (rt_cmp od_gt (re_ix xd_seq (re_var 0) re_int) re_int) (rss_cons (rs_set (i := 3) sc__law_take.nd rfl (by first | exact Or.inl rfl | exact Or.inr rfl) (re_bin od_mod (re_ix xd_seq (re_var 0) re_int) (re_var 1)))
    (rss_cons (rs_asg (re_bin od_fdiv (re_ix xd_seq (re_var 0) re_int) (re_var 1)) (rg_sub (re_var 0) re_int sd_list))
    (rss_one (rs_ret (re_var 3))))) rss_nil)
    (rss_cons (rs_set (i := 4) sc__law_take.nd rfl (by first | exact Or.inl rfl | exact Or.inr rfl) (re_bin od_mod (re_bin od_mul (re_bin od_add (re_ix xd_seq (re_var 0) re_int) re_int) re_int) re_int))
    (rss_cons (rs_set (i := 5) sc__law_take.nd rfl (by first | exact Or.inl rfl | exact Or.inr rfl) (re_bin od_mod (re_bin od_mul (re_bin od_mod (re_bin od_mul (re_var 4) (re_var 4)) re_int) re_int) re_int))
    (rss_cons (rs_if (rt_cmp od_gt (re_var 1) re_int) (rss_one (rs_ret (re_bin od_mod (re_bin od_add (re_bin od_mul (re_var 5) re_int) (re_var 4)) (re_var 1)))) rss_nil)
    (rss_one (rs_ret (re_bin od_mod (re_bin od_fdiv (re_var 5) re_int) (re_var 1))))))))))
theorem ok__law_names (T : Txt K mg Γ) (Z : SysIn base) : Callee P w K mg base Γ 2 "_law_names" 2 m__law_names := by
  have C__law_take := ok__law_take (P := P) (w := w) (base := base) (Γ := Γ) T Z
  refine callee_mk T.d__law_names sc__law_names fun f cdv A fr s H E hq hr => ?_
  show RSs _ _ _ _ b__law_names
  exact ((rss_cons (rs_set (i := 2) sc__law_names.nd rfl (by first | exact Or.inl rfl | exact Or.inr rfl) re_str)
    (rss_cons (rs_set (i := 3) sc__law_names.nd rfl (by first | exact Or.inl rfl | exact Or.inr rfl) re_str)
    (rss_cons (rs_set (i := 3) sc__law_names.nd rfl (by first | exact Or.inl rfl | exact Or.inr rfl) (re_mt (T := "str") md_split PySem.F.plainAttrs_str PySem.F.slot_str_split PySem.F.type_str_split (re_bin od_add (re_var 3) re_str) (ra_cons re_str ra_nil)))
    (rss_cons (rs_asg (re_tup (ra_cons (re_callC C__law_take hq (hr.mono (by omega)) (ra_cons (re_var 0) (ra_cons re_int ra_nil)) (lenA_cons (lenA_cons lenA_nil))) (ra_cons (re_callC C__law_take hq (hr.mono (by omega)) (ra_cons (re_var 0) (ra_cons re_int ra_nil)) (lenA_cons (lenA_cons lenA_nil))) ra_nil))) (rg_tup (is := [4, 5]) rfl (pgs_cons (pg_name (i := 4) sc__law_names.nd rfl (by first | exact Or.inl rfl | exact Or.inr rfl)) (pgs_cons (pg_name (i := 5) sc__law_names.nd rfl (by first | exact Or.inl rfl | exact Or.inr rfl)) pgs_nil))))
    (rss_cons (rs_set (i := 6) sc__law_names.nd rfl (by first | exact Or.inl rfl | exact Or.inr rfl) (re_mt (T := "str") md_join PySem.F.plainAttrs_str PySem.F.slot_str_join PySem.F.type_str_join re_str (ra_cons (re_lc (own := [("_law_k", 8)]) rfl sc__law_names.nd (ri_rng1 rfl T.n_range (ra_cons (re_bin od_add re_int (re_callC C__law_take hq (hr.mono (by omega)) (ra_cons (re_var 0) (ra_cons re_int ra_nil)) (lenA_cons (lenA_cons lenA_nil)))) ra_nil)) (blkOk_by (N := ["_law_bag_here", "_law_many", "_law_letters", "_law_words", "_law_way", "_law_turn", "_law_base", "_law_at", "_law_k"]) (sc := defScope s__law_names) (by decide +kernel)) (fun _ _ _ _ _ => (cg_name (i := 8) sc__law_names.nd rfl (by first | exact Or.inl rfl | exact Or.inr rfl))) (fun _ _ _ _ _ => rts_nil) (fun _ _ _ _ _ => (re_ix xd_seq (re_var 2) (re_callC C__law_take hq (hr.mono (by omega)) (ra_cons (re_var 0) (ra_cons re_int ra_nil)) (lenA_cons (lenA_cons lenA_nil)))))) ra_nil)))
    (rss_cons (rs_set (i := 7) sc__law_names.nd rfl (by first | exact Or.inl rfl | exact Or.inr rfl) (re_callC C__law_take hq (hr.mono (by omega)) (ra_cons (re_var 0) (ra_cons (re_bin od_add (re_callB cd_len rfl T.n_len bt_len (ra_cons (re_var 6) ra_nil)) re_int) ra_nil)) (lenA_cons (lenA_cons lenA_nil))))
    (rss_cons (rs_if (rt_cmp (od_eq (room_eq hr)) (re_var 4) re_int) (rss_one (rs_ret (re_slice (re_bin od_add (re_slice (re_var 3) (ro_some (re_var 5)) ro_none) (re_slice (re_var 3) ro_none (ro_some (re_var 5)))) ro_none (ro_some (re_var 1))))) rss_nil)
    (rss_cons (rs_if (rt_cmp (od_eq (room_eq hr)) (re_var 4) re_int) (rss_one (rs_ret (re_lc (own := [("_law_k", 8)]) rfl sc__law_names.nd (ri_rng1 rfl T.n_range (ra_cons (re_var 1) ra_nil)) (blkOk_by (N := ["_law_bag_here", "_law_many", "_law_letters", "_law_words", "_law_way", "_law_turn", "_law_base", "_law_at", "_law_k"]) (sc := defScope s__law_names) (by decide +kernel)) (fun _ _ _ _ _ => (cg_name (i := 8) sc__law_names.nd rfl (by first | exact Or.inl rfl | exact Or.inr rfl))) (fun _ _ _ _ _ => rts_nil) (fun _ _ _ _ _ => (re_ix xd_seq (re_var 2) (re_bin od_mod (re_bin od_add (re_var 5) (re_bin od_mul re_int (re_var 8))) re_int)))))) rss_nil)
    (rss_one (rs_ret (re_lc (own := [("_law_k", 8)]) rfl sc__law_names.nd (ri_rng1 rfl T.n_range (ra_cons (re_var 1) ra_nil)) (blkOk_by (N := ["_law_bag_here", "_law_many", "_law_letters", "_law_words", "_law_way", "_law_turn", "_law_base", "_law_at", "_law_k"]) (sc := defScope s__law_names) (by decide +kernel)) (fun _ _ _ _ _ => (cg_name (i := 8) sc__law_names.nd rfl (by first | exact Or.inl rfl | exact Or.inr rfl))) (fun _ _ _ _ _ => rts_nil) (fun _ _ _ _ _ => (re_bin od_add (re_bin od_add (re_slice (re_var 6) ro_none (ro_some (re_var 7))) (re_ix xd_seq (re_var 2) (re_bin od_mod (re_bin od_add (re_var 5) (re_bin od_mul re_int (re_var 8))) re_int))) (re_slice (re_var 6) (ro_some (re_var 7)) ro_none)))))))))))))))
theorem ok__law_path (T : Txt K mg Γ) (Z : SysIn base) : Callee P w K mg base Γ 2 "_law_path" 3 m__law_path := by
  have C__law_take := ok__law_take (P := P) (w := w) (base := base) (Γ := Γ) T Z
  refine callee_mk T.d__law_path sc__law_path fun f cdv A fr s H E hq hr => ?_
  show RSs _ _ _ _ b__law_path
  exact ((rss_one (rs_ret (re_callTy cd_tuple rfl T.n_tuple bt_tuple (ra_cons (re_lc (own := [("_law_k", 3)]) rfl sc__law_path.nd (ri_rng1 rfl T.n_range (ra_cons (re_bin od_add (re_var 2) (re_callC C__law_take hq (hr.mono (by omega)) (ra_cons (re_var 0) (ra_cons re_int ra_nil)) (lenA_cons (lenA_cons lenA_nil)))) ra_nil)) (blkOk_by (N := ["_law_bag_here", "_law_names_here", "_law_least", "_law_k"]) (sc := defScope s__law_path) (by decide +kernel)) (fun _ _ _ _ _ => (cg_name (i := 3) sc__law_path.nd rfl (by first | exact Or.inl rfl | exact Or.inr rfl))) (fun _ _ _ _ _ => rts_nil) (fun _ _ _ _ _ => (re_ix xd_seq (re_var 1) (re_callC C__law_take hq (hr.mono (by omega)) (ra_cons (re_var 0) (ra_cons (re_callB cd_len rfl T.n_len bt_len (ra_cons (re_var 1) ra_nil)) ra_nil)) (lenA_cons (lenA_cons lenA_nil)))))) ra_nil)))))
theorem ok__law_text (T : Txt K mg Γ) (Z : SysIn base) : Callee P w K mg base Γ 2 "_law_text" 1 m__law_text := by
  have C__law_take := ok__law_take (P := P) (w := w) (base := base) (Γ := Γ) T Z
  refine callee_mk T.d__law_text sc__law_text fun f cdv A fr s H E hq hr => ?_
  show RSs _ _ _ _ b__law_text
  exact ((rss_cons (rs_set (i := 1) sc__law_text.nd rfl (by first | exact Or.inl rfl | exact Or.inr rfl) (re_lst (ra_cons re_str (ra_cons re_str (ra_cons re_str (ra_cons re_str (ra_cons re_str (ra_cons re_str (ra_cons re_str (ra_cons re_str (ra_cons re_str (ra_cons re_str (ra_cons re_str (ra_cons (re_bin od_mul re_str re_int) ra_nil))))))))))))))
    (rss_one (rs_ret (re_ix xd_seq (re_var 1) (re_callC C__law_take hq (hr.mono (by omega)) (ra_cons (re_var 0) (ra_cons re_int ra_nil)) (lenA_cons (lenA_cons lenA_nil))))))))
theorem ok__law_said (T : Txt K mg Γ) (Z : SysIn base) : Callee P w K mg base Γ 3 "_law_said" 2 m__law_said := by
  have C__law_take := ok__law_take (P := P) (w := w) (base := base) (Γ := Γ) T Z
  have C__law_text := ok__law_text (P := P) (w := w) (base := base) (Γ := Γ) T Z
  refine callee_mk T.d__law_said sc__law_said fun f cdv A fr s H E hq hr => ?_
  show RSs _ _ _ _ b__law_said
  exact ((rss_one (rs_ret (re_ix xd_seq (re_lst (ra_cons (re_callC C__law_text hq (hr.mono (by omega)) (ra_cons (re_var 0) ra_nil) (lenA_cons lenA_nil)) (ra_cons (re_tup (ra_cons re_str (ra_cons (re_ix xd_seq (re_var 1) (re_callC C__law_take hq (hr.mono (by omega)) (ra_cons (re_var 0) (ra_cons (re_callB cd_len rfl T.n_len bt_len (ra_cons (re_var 1) ra_nil)) ra_nil)) (lenA_cons (lenA_cons lenA_nil)))) ra_nil))) ra_nil))) (re_callTy cd_int rfl T.n_int bt_int (ra_cons (re_cmp (od_eq (room_eq hr)) (re_callC C__law_take hq (hr.mono (by omega)) (ra_cons (re_var 0) (ra_cons re_int ra_nil)) (lenA_cons (lenA_cons lenA_nil))) re_int) ra_nil))))))
theorem ok__law_step (T : Txt K mg Γ) (Z : SysIn base) : Callee P w K mg base Γ 4 "_law_step" 4 m__law_step := by
  have C__law_path := ok__law_path (P := P) (w := w) (base := base) (Γ := Γ) T Z
  have C__law_said := ok__law_said (P := P) (w := w) (base := base) (Γ := Γ) T Z
  have C__law_take := ok__law_take (P := P) (w := w) (base := base) (Γ := Γ) T Z
  have C__law_text := ok__law_text (P := P) (w := w) (base := base) (Γ := Γ) T Z
  refine callee_mk T.d__law_step sc__law_step fun f cdv A fr s H E hq hr => ?_
  show RSs _ _ _ _ b__law_step
  exact ((rss_cons (rs_par3 (i := 4) (j := 5) (l := 6) rfl sc__law_step.nd rfl rfl rfl (by decide) (by decide) (by decide) rfl rfl rfl (ra_cons (re_callC C__law_take hq (hr.mono (by omega)) (ra_cons (re_var 0) (ra_cons re_int ra_nil)) (lenA_cons (lenA_cons lenA_nil))) (ra_cons (re_callC C__law_path hq (hr.mono (by omega)) (ra_cons (re_var 0) (ra_cons (re_var 1) (ra_cons re_int ra_nil))) (lenA_cons (lenA_cons (lenA_cons lenA_nil)))) (ra_cons (re_callC C__law_take hq (hr.mono (by omega)) (ra_cons (re_var 0) (ra_cons re_int ra_nil)) (lenA_cons (lenA_cons lenA_nil))) ra_nil))) (by rfl))
    (rss_cons (rs_if (rt_cmp (od_eq (room_eq hr)) (re_var 4) re_int) (rss_one (rs_ret (re_tup (ra_cons re_str (ra_cons (re_var 5) (ra_cons (re_callC C__law_said hq (hr.mono (by omega)) (ra_cons (re_var 0) (ra_cons (re_var 1) ra_nil)) (lenA_cons (lenA_cons lenA_nil))) (ra_cons (re_var 6) ra_nil))))))) rss_nil)
    (rss_cons (rs_if (rt_cmp (od_eq (room_eq hr)) (re_var 4) re_int) (rss_one (rs_ret (re_tup (ra_cons re_str (ra_cons (re_var 5) (ra_cons (re_var 6) ra_nil)))))) rss_nil)
    (rss_cons (rs_if (rt_cmp (od_eq (room_eq hr)) (re_var 4) re_int) (rss_one (rs_ret (re_tup (ra_cons re_str (ra_cons (re_var 5) (ra_cons (re_callC C__law_said hq (hr.mono (by omega)) (ra_cons (re_var 0) (ra_cons (re_var 1) ra_nil)) (lenA_cons (lenA_cons lenA_nil))) ra_nil)))))) rss_nil)
    (rss_cons (rs_if (rt_cmp od_lt (re_var 4) re_int) (rss_one (rs_ret (re_tup (ra_cons (re_ix xd_seq (re_lst (ra_cons re_str (ra_cons re_str ra_nil))) (re_bin od_sub (re_var 4) re_int)) (ra_cons (re_var 5) ra_nil))))) rss_nil)
    (rss_cons (rs_if (rt_cmp (od_eq (room_eq hr)) (re_var 4) re_int) (rss_one (rs_ret (re_tup (ra_cons re_str (ra_cons (re_var 5) (ra_cons (re_var 6) ra_nil)))))) rss_nil)
    (rss_cons (rs_if (L2.PW.pt (rw_and (rt_cmp od_lt (re_var 4) re_int) (rw_and1 (rt_cmp od_gt (re_var 3) re_int)))) (rss_cons (rs_setLc (i := 7) (own := [("_law_k", 9)]) rfl sc__law_step.nd rfl rfl (sw_true rfl rfl rfl (by decide +kernel)) (ri_rng1 rfl T.n_range (ra_cons (re_callC C__law_take hq (hr.mono (by omega)) (ra_cons (re_var 0) (ra_cons re_int ra_nil)) (lenA_cons (lenA_cons lenA_nil))) ra_nil)) (blkOk_by (N := ["_law_bag_here", "_law_names_here", "_law_sources", "_law_runs", "_law_way", "_law_path_here", "_law_rights", "_law_reads", "_law_back", "_law_k"]) (sc := defScope s__law_step) (by decide +kernel)) (fun _ _ _ _ _ => (cg_name (i := 9) sc__law_step.nd rfl (by first | exact Or.inl rfl | exact Or.inr rfl))) (fun _ _ _ _ _ => rts_nil) (fun _ _ _ _ _ => (re_tup (ra_cons re_str (ra_cons (re_callC C__law_path hq (hr.mono (by omega)) (ra_cons (re_var 0) (ra_cons (re_var 1) (ra_cons re_int ra_nil))) (lenA_cons (lenA_cons (lenA_cons lenA_nil)))) ra_nil)))))
    (rss_cons (rs_set (i := 7) sc__law_step.nd rfl (by first | exact Or.inl rfl | exact Or.inr rfl) (re_bin od_add (re_var 7) (re_bin od_mul (re_lst (ra_cons (re_ix xd_seq (re_lst (ra_cons (re_tup (ra_cons re_str (ra_cons (re_ix xd_seq (re_var 1) re_int) ra_nil))) (ra_cons (re_tup (ra_cons re_str (ra_cons (re_callC C__law_text hq (hr.mono (by omega)) (ra_cons (re_var 0) ra_nil) (lenA_cons lenA_nil)) ra_nil))) ra_nil))) (re_callC C__law_take hq (hr.mono (by omega)) (ra_cons (re_var 0) (ra_cons re_int ra_nil)) (lenA_cons (lenA_cons lenA_nil)))) ra_nil)) (re_callC C__law_take hq (hr.mono (by omega)) (ra_cons (re_var 0) (ra_cons re_int ra_nil)) (lenA_cons (lenA_cons lenA_nil))))))
    (rss_one (rs_ret (re_tup (ra_cons re_str (ra_cons (re_ix xd_seq (re_lst (ra_cons re_str (ra_cons re_str ra_nil))) (re_callC C__law_take hq (hr.mono (by omega)) (ra_cons (re_var 0) (ra_cons re_int ra_nil)) (lenA_cons (lenA_cons lenA_nil)))) (ra_cons (re_callTy cd_tuple rfl T.n_tuple bt_tuple (ra_cons (re_step (re_var 7) (re_ix xd_seq (re_lst (ra_cons re_int (ra_cons (re_un ud_neg re_int) ra_nil))) (re_callC C__law_take hq (hr.mono (by omega)) (ra_cons (re_var 0) (ra_cons re_int ra_nil)) (lenA_cons (lenA_cons lenA_nil))))) ra_nil)) (ra_cons (re_var 5) ra_nil))))))))) rss_nil)
    (rss_cons (rs_set (i := 8) sc__law_step.nd rfl (by first | exact Or.inl rfl | exact Or.inr rfl) (re_callC C__law_path hq (hr.mono (by omega)) (ra_cons (re_var 0) (ra_cons (re_var 1) (ra_cons (re_callTy cd_int rfl T.n_int bt_int (ra_cons (re_cmp od_gt (re_callC C__law_take hq (hr.mono (by omega)) (ra_cons (re_var 0) (ra_cons re_int ra_nil)) (lenA_cons (lenA_cons lenA_nil))) re_int) ra_nil)) ra_nil))) (lenA_cons (lenA_cons (lenA_cons lenA_nil)))))
    (rss_one (rs_ret (re_tup (ra_cons re_str (ra_cons (re_ix xd_seq (re_var 2) (re_callC C__law_take hq (hr.mono (by omega)) (ra_cons (re_var 0) (ra_cons (re_callB cd_len rfl T.n_len bt_len (ra_cons (re_var 2) ra_nil)) ra_nil)) (lenA_cons (lenA_cons lenA_nil)))) (ra_cons (re_var 8) (ra_cons (re_slice (re_var 5) ro_none (ro_some (re_bin od_mul (re_callB cd_len rfl T.n_len bt_len (ra_cons (re_var 5) ra_nil)) (re_callTy cd_int rfl T.n_int bt_int (ra_cons (re_cmp od_gt (re_callC C__law_take hq (hr.mono (by omega)) (ra_cons (re_var 0) (ra_cons re_int ra_nil)) (lenA_cons (lenA_cons lenA_nil))) re_int) ra_nil))))) ra_nil))))))))))))))))
theorem ok__law_some_deed (T : Txt K mg Γ) (Z : SysIn base) : Callee P w K mg base Γ 5 "_law_some_deed" 3 m__law_some_deed := by
  have C__law_step := ok__law_step (P := P) (w := w) (base := base) (Γ := Γ) T Z
  have C__law_take := ok__law_take (P := P) (w := w) (base := base) (Γ := Γ) T Z
  refine callee_mk T.d__law_some_deed sc__law_some_deed fun f cdv A fr s H E hq hr => ?_
  show RSs _ _ _ _ b__law_some_deed
  exact ((rss_cons (rs_par (i := 3) (j := 4) rfl sc__law_some_deed.nd rfl rfl (by decide) rfl rfl (ra_cons (re_callB cd_len rfl T.n_len bt_len (ra_cons (re_ix xd_seq (re_ix xd_seq (re_var 2) (re_un ud_neg re_int)) re_int) ra_nil)) (ra_cons (re_ix xd_seq (re_ix xd_seq (re_var 2) (re_un ud_neg re_int)) re_int) ra_nil)) (by rfl))
    (rss_cons (rs_par3 (i := 5) (j := 6) (l := 7) rfl sc__law_some_deed.nd rfl rfl rfl (by decide) (by decide) (by decide) rfl rfl rfl (ra_cons (re_callC C__law_take hq (hr.mono (by omega)) (ra_cons (re_var 0) (ra_cons re_int ra_nil)) (lenA_cons (lenA_cons lenA_nil))) (ra_cons (re_callC C__law_take hq (hr.mono (by omega)) (ra_cons (re_var 0) (ra_cons (re_bin od_add (re_var 3) re_int) ra_nil)) (lenA_cons (lenA_cons lenA_nil))) (ra_cons (re_bin od_add (re_bin od_add (re_var 3) re_int) (re_bin od_mul (re_callC C__law_take hq (hr.mono (by omega)) (ra_cons (re_var 0) (ra_cons re_int ra_nil)) (lenA_cons (lenA_cons lenA_nil))) (re_bin od_pow re_int re_int))) ra_nil))) (by rfl))
    (rss_cons (rs_set (i := 8) sc__law_some_deed.nd rfl (by first | exact Or.inl rfl | exact Or.inr rfl) (re_bin od_add (re_lst (ra_cons re_str (ra_cons re_str ra_nil))) (re_bin od_mul (re_lc (own := [("_law_stage", 10)]) rfl sc__law_some_deed.nd (ri_any (re_slice (re_var 2) ro_none (ro_some (re_un ud_neg re_int)))) (blkOk_by (N := ["_law_bag_here", "_law_names_here", "_law_stages_here", "_law_many", "_law_own", "_law_way", "_law_at", "_law_far", "_law_sources", "_law_step_here", "_law_stage"]) (sc := defScope s__law_some_deed) (by decide +kernel)) (fun _ _ _ _ _ => (cg_name (i := 10) sc__law_some_deed.nd rfl (by first | exact Or.inl rfl | exact Or.inr rfl))) (fun _ _ _ _ _ => rts_nil) (fun _ _ _ _ _ => (re_ix xd_seq (re_var 10) re_int))) re_int)))
    (rss_cons (rs_set (i := 9) sc__law_some_deed.nd rfl (by first | exact Or.inl rfl | exact Or.inr rfl) (re_callC C__law_step hq (hr.mono (by omega)) (ra_cons (re_var 0) (ra_cons (re_var 1) (ra_cons (re_bin od_add (re_var 8) (re_bin od_mul (re_lst (ra_cons (re_var 4) ra_nil)) (re_callTy cd_int rfl T.n_int bt_int (ra_cons (re_cmp (od_eq (room_eq hr)) (re_callC C__law_take hq (hr.mono (by omega)) (ra_cons (re_var 0) (ra_cons re_int ra_nil)) (lenA_cons (lenA_cons lenA_nil))) re_int) ra_nil)))) (ra_cons re_int ra_nil)))) (lenA_cons (lenA_cons (lenA_cons (lenA_cons lenA_nil))))))
    (rss_cons (rs_if (rt_cmp od_lt (re_var 5) re_int) (rss_one (rs_ret (re_tup (ra_cons re_str (ra_cons (re_ix xd_seq (re_lst (ra_cons (re_var 6) (ra_cons (re_var 7) ra_nil))) (re_callTy cd_int rfl T.n_int bt_int (ra_cons (re_cmp (od_eq (room_eq hr)) (re_callC C__law_take hq (hr.mono (by omega)) (ra_cons (re_var 0) (ra_cons re_int ra_nil)) (lenA_cons (lenA_cons lenA_nil))) re_int) ra_nil))) ra_nil))))) rss_nil)
    (rss_cons (rs_if (rt_cmp (od_eq (room_eq hr)) (re_var 5) re_int) (rss_one (rs_ret (re_tup (ra_cons re_str (ra_cons (re_ix xd_seq (re_lst (ra_cons (re_var 6) (ra_cons (re_var 7) ra_nil))) (re_callTy cd_int rfl T.n_int bt_int (ra_cons (re_cmp (od_eq (room_eq hr)) (re_callC C__law_take hq (hr.mono (by omega)) (ra_cons (re_var 0) (ra_cons re_int ra_nil)) (lenA_cons (lenA_cons lenA_nil))) re_int) ra_nil))) (ra_cons (re_var 9) ra_nil)))))) rss_nil)
    (rss_one (rs_ret (re_tup (ra_cons re_str (ra_cons (re_ix xd_seq (re_lst (ra_cons (re_var 6) (ra_cons (re_var 7) ra_nil))) (re_callTy cd_int rfl T.n_int bt_int (ra_cons (re_cmp (od_eq (room_eq hr)) (re_callC C__law_take hq (hr.mono (by omega)) (ra_cons (re_var 0) (ra_cons re_int ra_nil)) (lenA_cons (lenA_cons lenA_nil))) re_int) ra_nil))) (ra_cons (re_var 9) ra_nil)))))))))))))
theorem ok__law_mixed (T : Txt K mg Γ) (Z : SysIn base) : Callee P w K mg base Γ 2 "_law_mixed" 2 m__law_mixed := by
  have C__law_take := ok__law_take (P := P) (w := w) (base := base) (Γ := Γ) T Z
  refine callee_mk T.d__law_mixed sc__law_mixed fun f cdv A fr s H E hq hr => ?_
  show RSs _ _ _ _ b__law_mixed
  exact ((rss_cons (rs_set (i := 2) sc__law_mixed.nd rfl (by first | exact Or.inl rfl | exact Or.inr rfl) (re_lst ra_nil))
    (rss_cons (rs_for PassesOwn.never rfl (ri_any (re_var 1)) (rg_name (i := 3) sc__law_mixed.nd rfl (by first | exact Or.inl rfl | exact Or.inr rfl)) (rss_one (rs_expr (re_mt (T := "list") md_insert PySem.F.plainAttrs_list PySem.F.slot_list_insert PySem.F.type_list_insert (re_var 2) (ra_cons (re_callC C__law_take hq (hr.mono (by omega)) (ra_cons (re_var 0) (ra_cons (re_bin od_add (re_callB cd_len rfl T.n_len bt_len (ra_cons (re_var 2) ra_nil)) re_int) ra_nil)) (lenA_cons (lenA_cons lenA_nil))) (ra_cons (re_var 3) ra_nil))))))
    (rss_one (rs_ret (re_var 2))))))
theorem ok__law_steps (T : Txt K mg Γ) (Z : SysIn base) : Callee P w K mg base Γ 5 "_law_steps" 5 m__law_steps := by
  have C__law_step := ok__law_step (P := P) (w := w) (base := base) (Γ := Γ) T Z
  have C__law_take := ok__law_take (P := P) (w := w) (base := base) (Γ := Γ) T Z
  refine callee_mk T.d__law_steps sc__law_steps fun f cdv A fr s H E hq hr => ?_
  show RSs _ _ _ _ b__law_steps
  exact ((rss_cons (rs_set (i := 5) sc__law_steps.nd rfl (by first | exact Or.inl rfl | exact Or.inr rfl) (re_lst ra_nil))
    (rss_cons (rs_for PassesOwn.never rfl (ri_rng1 rfl T.n_range (ra_cons (re_callC C__law_take hq (hr.mono (by omega)) (ra_cons (re_var 0) (ra_cons (re_bin od_add (re_var 3) re_int) ra_nil)) (lenA_cons (lenA_cons lenA_nil))) ra_nil)) (rg_name (i := 6) sc__law_steps.nd rfl (by first | exact Or.inl rfl | exact Or.inr rfl)) (rss_cons (rs_set (i := 7) sc__law_steps.nd rfl (by first | exact Or.inl rfl | exact Or.inr rfl) (re_bin od_sub (re_var 4) (re_callB cd_len rfl T.n_len bt_len (ra_cons (re_lc (own := [("_law_step_here", 8)]) rfl sc__law_steps.nd (ri_any (re_var 5)) (blkOk_by (N := ["_law_bag_here", "_law_names_here", "_law_sources", "_law_many", "_law_runs", "_law_found", "_law_k", "_law_left", "_law_step_here"]) (sc := defScope s__law_steps) (by decide +kernel)) (fun _ _ _ _ _ => (cg_name (i := 8) sc__law_steps.nd rfl (by first | exact Or.inl rfl | exact Or.inr rfl))) (fun _ _ _ _ _ => (rts_one (rt_cmp (od_eq (room_eq hr)) (re_ix xd_seq (re_var 8) re_int) re_str))) (fun _ _ _ _ _ => (re_var 8))) ra_nil))))
    (rss_one (rs_expr (re_mt (T := "list") md_append PySem.F.plainAttrs_list PySem.F.slot_list_append PySem.F.type_list_append (re_var 5) (ra_cons (re_callC C__law_step hq (hr.mono (by omega)) (ra_cons (re_var 0) (ra_cons (re_var 1) (ra_cons (re_var 2) (ra_cons (re_var 7) ra_nil)))) (lenA_cons (lenA_cons (lenA_cons (lenA_cons lenA_nil))))) ra_nil))))))
    (rss_one (rs_ret (re_var 5))))))
theorem ok__law_recipe (T : Txt K mg Γ) (Z : SysIn base) : Callee P w K mg base Γ 6 "_law_recipe" 5 m__law_recipe := by
  have C__law_mixed := ok__law_mixed (P := P) (w := w) (base := base) (Γ := Γ) T Z
  have C__law_steps := ok__law_steps (P := P) (w := w) (base := base) (Γ := Γ) T Z
  have C__law_take := ok__law_take (P := P) (w := w) (base := base) (Γ := Γ) T Z
  refine callee_mk T.d__law_recipe sc__law_recipe fun f cdv A fr s H E hq hr => ?_
  show RSs _ _ _ _ b__law_recipe
  exact ((rss_cons (rs_par (i := 5) (j := 6) rfl sc__law_recipe.nd rfl rfl (by decide) rfl rfl (ra_cons (re_lst ra_nil) (ra_cons (re_callC C__law_mixed hq (hr.mono (by omega)) (ra_cons (re_var 0) (ra_cons (re_lst (ra_cons re_str (ra_cons re_str (ra_cons re_str (ra_cons re_str ra_nil))))) ra_nil)) (lenA_cons (lenA_cons lenA_nil))) ra_nil)) (by rfl))
    (rss_cons (rs_for PassesOwn.never rfl (ri_rng1 rfl T.n_range (ra_cons (re_bin od_add re_int (re_callC C__law_take hq (hr.mono (by omega)) (ra_cons (re_var 0) (ra_cons (re_var 4) ra_nil)) (lenA_cons (lenA_cons lenA_nil)))) ra_nil)) (rg_name (i := 7) sc__law_recipe.nd rfl (by first | exact Or.inl rfl | exact Or.inr rfl)) (rss_cons (rs_set (i := 8) sc__law_recipe.nd rfl (by first | exact Or.inl rfl | exact Or.inr rfl) (re_bin od_add (re_callTy cd_list rfl T.n_list bt_list (ra_cons (re_var 2) ra_nil)) (re_bin od_mul (re_slice (re_var 6) ro_none (ro_some (re_var 7))) re_int)))
    (rss_cons (rs_set (i := 9) sc__law_recipe.nd rfl (by first | exact Or.inl rfl | exact Or.inr rfl) (re_ix xd_seq (re_bin od_add (re_lst (ra_cons re_non ra_nil)) (re_var 8)) (re_callC C__law_take hq (hr.mono (by omega)) (ra_cons (re_var 0) (ra_cons (re_bin od_add re_int (re_callB cd_len rfl T.n_len bt_len (ra_cons (re_var 8) ra_nil))) ra_nil)) (lenA_cons (lenA_cons lenA_nil)))))
    (rss_one (rs_expr (re_mt (T := "list") md_append PySem.F.plainAttrs_list PySem.F.slot_list_append PySem.F.type_list_append (re_var 5) (ra_cons (re_tup (ra_cons (re_ix xd_seq (re_var 6) (re_var 7)) (ra_cons (re_var 9) (ra_cons (re_callC C__law_steps hq (hr.mono (by omega)) (ra_cons (re_var 0) (ra_cons (re_var 1) (ra_cons (re_var 8) (ra_cons (re_var 3) (ra_cons (re_bin od_add re_int (re_callTy cd_int rfl T.n_int bt_int (ra_cons (re_cmp (od_eq (room_eq hr)) (re_var 7) re_int) ra_nil))) ra_nil))))) (lenA_cons (lenA_cons (lenA_cons (lenA_cons (lenA_cons lenA_nil)))))) ra_nil)))) ra_nil)))))))
    (rss_one (rs_ret (re_var 5))))))
theorem ok__law_stages (T : Txt K mg Γ) (Z : SysIn base) : Callee P w K mg base Γ 7 "_law_stages" 2 m__law_stages := by
  have C__law_recipe := ok__law_recipe (P := P) (w := w) (base := base) (Γ := Γ) T Z
  have C__law_take := ok__law_take (P := P) (w := w) (base := base) (Γ := Γ) T Z
  refine callee_mk T.d__law_stages sc__law_stages fun f cdv A fr s H E hq hr => ?_
  show RSs _ _ _ _ b__law_stages
  exact ((rss_cons (rs_set (i := 2) sc__law_stages.nd rfl (by first | exact Or.inl rfl | exact Or.inr rfl) (re_callTy cd_int rfl T.n_int bt_int (ra_cons (re_cmp (od_eq (room_eq hr)) (re_callC C__law_take hq (hr.mono (by omega)) (ra_cons (re_var 0) (ra_cons re_int ra_nil)) (lenA_cons (lenA_cons lenA_nil))) re_int) ra_nil)))
    (rss_one (rs_ret (re_callC C__law_recipe hq (hr.mono (by omega)) (ra_cons (re_var 0) (ra_cons (re_var 1) (ra_cons (re_lst (ra_cons re_str (ra_cons re_str ra_nil))) (ra_cons (re_ix xd_seq (re_lst (ra_cons re_int (ra_cons re_int ra_nil))) (re_var 2)) (ra_cons (re_ix xd_seq (re_lst (ra_cons re_int (ra_cons re_int ra_nil))) (re_var 2)) ra_nil))))) (lenA_cons (lenA_cons (lenA_cons (lenA_cons (lenA_cons lenA_nil))))))))))
theorem ok_law {f : Addr} {fd : FuncData} (F : Fun K "law" "law" s_law f fd) (T : Txt K mg Γ) (Z : SysIn base) : FnG P w K mg base CX0 17 f fd ["_law_script"] (spM K Γ 1 m_law) := by
  have M_Book___eq__ := okm_Book___eq__ (P := P) (w := w) (base := base) (Γ := Γ) T Z
  have M_Book___init__ := okm_Book___init__ (P := P) (w := w) (base := base) (Γ := Γ) T Z
  have M_Book_recipe := okm_Book_recipe (P := P) (w := w) (base := base) (Γ := Γ) T Z
  have M_Recipe___init__ := okm_Recipe___init__ (P := P) (w := w) (base := base) (Γ := Γ) T Z
  have M_Recipe_stages := okm_Recipe_stages (P := P) (w := w) (base := base) (Γ := Γ) T Z
  have C__law_alike := ok__law_alike (P := P) (w := w) (base := base) (Γ := Γ) T Z
  have C__law_bag := ok__law_bag (P := P) (w := w) (base := base) (Γ := Γ) T Z
  have C__law_behind := ok__law_behind (P := P) (w := w) (base := base) (Γ := Γ) T Z
  have C__law_book_right := ok__law_book_right (P := P) (w := w) (base := base) (Γ := Γ) T Z
  have C__law_did := ok__law_did (P := P) (w := w) (base := base) (Γ := Γ) T Z
  have C__law_names := ok__law_names (P := P) (w := w) (base := base) (Γ := Γ) T Z
  have C__law_some_deed := ok__law_some_deed (P := P) (w := w) (base := base) (Γ := Γ) T Z
  have C__law_stages := ok__law_stages (P := P) (w := w) (base := base) (Γ := Γ) T Z
  refine fn_okG F sc_law fun cdv A fr s H E hq hr => ?_
  show RSs _ _ _ _ b_law
  exact ((rss_cons (rs_set (i := 1) sc_law.nd rfl (by first | exact Or.inl rfl | exact Or.inr rfl) (re_callC C__law_bag hq (hr.mono (by omega)) (ra_cons (re_var 0) ra_nil) (lenA_cons lenA_nil)))
    (rss_cons (rs_set (i := 2) sc_law.nd rfl (by first | exact Or.inl rfl | exact Or.inr rfl) (re_callC C__law_names hq (hr.mono (by omega)) (ra_cons (re_var 1) (ra_cons re_int ra_nil)) (lenA_cons (lenA_cons lenA_nil))))
    (rss_cons (rs_set (i := 3) sc_law.nd rfl (by first | exact Or.inl rfl | exact Or.inr rfl) (re_callC C__law_stages hq (hr.mono (by omega)) (ra_cons (re_var 1) (ra_cons (re_var 2) ra_nil)) (lenA_cons (lenA_cons lenA_nil))))
    (rss_cons (rs_setLc (i := 4) (own := [("_law_name", 16), ("_law_start", 17), ("_law_steps_here", 18)]) rfl sc_law.nd rfl rfl (sw_true rfl rfl rfl (by decide +kernel)) (ri_any (re_var 3)) (blkOk_by (N := ["_law_script", "_law_bag_here", "_law_names_here", "_law_handed", "_law_first", "_law_given", "_law_told", "_law_book", "_law_log", "_law_stages_here", "_law_turn", "_law_deed", "_law_due", "_law_found", "_law_taken", "_law_kept", "_law_name", "_law_start", "_law_steps_here", "_law_recipe_here", "_law_rows"]) (sc := defScope s_law) (by decide +kernel)) (fun _ _ _ _ _ => (cg_tup (is := [16, 17, 18]) rfl (pgs_cons (pg_name (i := 16) sc_law.nd rfl (by first | exact Or.inl rfl | exact Or.inr rfl)) (pgs_cons (pg_name (i := 17) sc_law.nd rfl (by first | exact Or.inl rfl | exact Or.inr rfl)) (pgs_cons (pg_name (i := 18) sc_law.nd rfl (by first | exact Or.inl rfl | exact Or.inr rfl)) pgs_nil))))) (fun _ _ _ _ _ => rts_nil) (fun _ _ _ _ _ => (re_tup (ra_cons (re_var 16) (ra_cons (re_var 17) (ra_cons (re_callTy cd_list rfl T.n_list bt_list (ra_cons (re_var 18) ra_nil)) ra_nil))))))
    (rss_cons (rs_par (i := 5) (j := 6) rfl sc_law.nd rfl rfl (by decide) rfl rfl (ra_cons (re_makeO M_Recipe___init__.hush T.o_Recipe T.g_Recipe pass0 hq (hr.mono (by omega)) (ra_cons (re_var 3) ra_nil) (len_succ (lenA_cons lenA_nil))) (ra_cons (re_lst ra_nil) ra_nil)) (by rfl))
    (rss_cons (rs_par3 (i := 7) (j := 8) (l := 9) rfl sc_law.nd rfl rfl rfl (by decide) (by decide) (by decide) rfl rfl rfl (ra_cons (re_makeO M_Book___init__.hush T.o_Book T.g_Book pass0 hq (hr.mono (by omega)) (ra_cons (re_var 5) ra_nil) (len_succ (lenA_cons lenA_nil))) (ra_cons (re_lst ra_nil) (ra_cons (re_var 4) ra_nil))) (by rfl))
    (rss_cons (rs_expr (re_mt (T := "list") md_append PySem.F.plainAttrs_list PySem.F.slot_list_append PySem.F.type_list_append (re_ix xd_seq (re_ix xd_seq (re_var 3) (re_un ud_neg re_int)) re_int) (ra_cons re_int ra_nil)))
    (rss_cons (rs_for PassesOwn.never rfl (ri_rng1 rfl T.n_range (ra_cons re_int ra_nil)) (rg_name (i := 10) sc_law.nd rfl (by first | exact Or.inl rfl | exact Or.inr rfl)) (rss_cons (rs_set (i := 11) sc_law.nd rfl (by first | exact Or.inl rfl | exact Or.inr rfl) (re_callC C__law_some_deed hq (hr.mono (by omega)) (ra_cons (re_var 1) (ra_cons (re_var 2) (ra_cons (re_var 9) ra_nil))) (lenA_cons (lenA_cons (lenA_cons lenA_nil)))))
    (rss_cons (rs_set (i := 12) sc_law.nd rfl (by first | exact Or.inl rfl | exact Or.inr rfl) (re_callC C__law_behind hq (hr.mono (by omega)) (ra_cons (re_var 9) (ra_cons (re_var 11) ra_nil)) (lenA_cons (lenA_cons lenA_nil))))
    (rss_cons (rs_set (i := 13) sc_law.nd rfl (by first | exact Or.inl rfl | exact Or.inr rfl) (re_callC C__law_did hq (hr.mono (by omega)) (ra_cons (re_var 7) (ra_cons re_str (ra_cons re_int (ra_cons (re_var 11) ra_nil)))) (lenA_cons (lenA_cons (lenA_cons (lenA_cons lenA_nil))))))
    (rss_cons (rs_if (rt_cmp (od_ne (room_eq hr)) (re_ix xd_seq (re_var 12) re_int) re_str) (rss_one (rs_if (rt_not (rt_val (re_callC C__law_alike hq (hr.mono (by omega)) (ra_cons (re_var 13) (ra_cons (re_var 12) ra_nil)) (lenA_cons (lenA_cons lenA_nil))))) (rss_one (rs_ret re_bl)) rss_nil)) (rss_cons (rs_set (i := 14) sc_law.nd rfl (by first | exact Or.inl rfl | exact Or.inr rfl) (re_if (rt_cmp (od_eq (room_eq hr)) (re_ix xd_seq (re_var 11) re_int) re_str) re_non (re_ix xd_seq (re_ix xd_seq (re_ix xd_seq (re_var 9) (re_un ud_neg re_int)) re_int) (re_ix xd_seq (re_var 11) re_int))))
    (rss_cons (rs_if (rt_not (rt_val (re_callC C__law_alike hq (hr.mono (by omega)) (ra_cons (re_var 13) (ra_cons (re_tup (ra_cons re_str (ra_cons (re_var 14) ra_nil))) ra_nil)) (lenA_cons (lenA_cons lenA_nil))))) (rss_one (rs_ret re_bl)) rss_nil)
    (rss_one (rs_par (i := 8) (j := 9) rfl sc_law.nd rfl rfl (by decide) rfl rfl (ra_cons (re_bin od_add (re_var 8) (re_lst (ra_cons (re_var 11) ra_nil))) (ra_cons (re_ix xd_seq (re_var 12) re_int) ra_nil)) (by rfl))))))
    (rss_cons (rs_if (rt_not (rt_val (re_callC C__law_book_right hq (hr.mono (by omega)) (ra_cons (re_var 7) (ra_cons (re_var 4) (ra_cons (re_var 8) (ra_cons (re_var 9) ra_nil)))) (lenA_cons (lenA_cons (lenA_cons (lenA_cons lenA_nil))))))) (rss_one (rs_ret re_bl)) rss_nil)
    (rss_one (rs_expr (re_mt (T := "list") md_append PySem.F.plainAttrs_list PySem.F.slot_list_append PySem.F.type_list_append (re_var 6) (ra_cons (re_tup (ra_cons (re_methC0 M_Book_recipe T.o_Book pass0 hq (hr.mono (by omega)) (re_var 7)) (ra_cons (re_var 9) ra_nil))) ra_nil))))))))))
    (rss_cons (rs_set (i := 15) sc_law.nd rfl (by first | exact Or.inl rfl | exact Or.inr rfl) (re_lst (ra_cons (re_lc (own := [("_law_recipe_here", 19), ("_law_rows", 20)]) rfl sc_law.nd (ri_any (re_var 6)) (blkOk_by (N := ["_law_script", "_law_bag_here", "_law_names_here", "_law_handed", "_law_first", "_law_given", "_law_told", "_law_book", "_law_log", "_law_stages_here", "_law_turn", "_law_deed", "_law_due", "_law_found", "_law_taken", "_law_kept", "_law_name", "_law_start", "_law_steps_here", "_law_recipe_here", "_law_rows"]) (sc := defScope s_law) (by decide +kernel)) (fun _ _ _ _ _ => (cg_tup (is := [19, 20]) rfl (pgs_cons (pg_name (i := 19) sc_law.nd rfl (by first | exact Or.inl rfl | exact Or.inr rfl)) (pgs_cons (pg_name (i := 20) sc_law.nd rfl (by first | exact Or.inl rfl | exact Or.inr rfl)) pgs_nil)))) (fun _ _ _ _ _ => rts_nil) (fun _ _ _ _ _ => (re_methC0 M_Recipe_stages T.o_Recipe pass0 hq (hr.mono (by omega)) (re_var 19)))) (ra_cons (re_lc (own := [("_law_recipe_here", 19), ("_law_rows", 20)]) rfl sc_law.nd (ri_any (re_var 6)) (blkOk_by (N := ["_law_script", "_law_bag_here", "_law_names_here", "_law_handed", "_law_first", "_law_given", "_law_told", "_law_book", "_law_log", "_law_stages_here", "_law_turn", "_law_deed", "_law_due", "_law_found", "_law_taken", "_law_kept", "_law_name", "_law_start", "_law_steps_here", "_law_recipe_here", "_law_rows"]) (sc := defScope s_law) (by decide +kernel)) (fun _ _ _ _ _ => (cg_tup (is := [19, 20]) rfl (pgs_cons (pg_name (i := 19) sc_law.nd rfl (by first | exact Or.inl rfl | exact Or.inr rfl)) (pgs_cons (pg_name (i := 20) sc_law.nd rfl (by first | exact Or.inl rfl | exact Or.inr rfl)) pgs_nil)))) (fun _ _ _ _ _ => rts_nil) (fun _ _ _ _ _ => (re_var 20))) ra_nil))))
    (rss_cons (rs_if (L2.PW.pt (rw_or (rt_cmp (od_ne (room_eq hr)) (re_methC0 M_Recipe_stages T.o_Recipe pass0 hq (hr.mono (by omega)) (re_var 5)) (re_var 4)) (rw_or1 (rt_cmp (od_ne (room_eq hr)) (re_ix xd_seq (re_var 15) re_int) (re_ix xd_seq (re_var 15) re_int))))) (rss_one (rs_ret re_bl)) rss_nil)
    (rss_one (rs_ret (re_or (re_cmp (neO_C M_Book___eq__ T.o_Book T.j_Book.ns T.ne_Book pass0 hq (hr.mono (by omega))) (re_makeO M_Book___init__.hush T.o_Book T.g_Book pass0 hq (hr.mono (by omega)) (ra_cons (re_makeO M_Recipe___init__.hush T.o_Recipe T.g_Recipe pass0 hq (hr.mono (by omega)) (ra_cons (re_var 4) ra_nil) (len_succ (lenA_cons lenA_nil))) ra_nil) (len_succ (lenA_cons lenA_nil))) (re_var 7)) (re_one (re_cmp (od_eq (room_eq hr)) (re_var 8) (re_lst ra_nil)))))))))))))))))
end

theorem facts {K : PySem.W.Frag} {h : Heap} {mg : Str → Option Value} (X : K.In h) (G : h.Ns mainGlobals mg) (c : DL.SaysB faL fnL exL K) : ∃ Γ, Txt K mg Γ :=
  txt_mk (C0 := He.ga K "LayerError") (C1 := He.ga K "Wrong") (C2 := He.ga K "NoStage") (C3 := He.ga K "NoStep") (C4 := He.ga K "TooMany") (C5 := He.ga K "NoDeed") (C6 := He.ga K "Nothing") (C7 := He.ga K "Stopped") (C8 := He.ga K "Recipe") (C9 := He.ga K "Cache") (C10 := He.ga K "Book") X G
    (DL.def_mkB X G c 0 0 rfl rfl (fun _ _ _ _ _ _ us hl => match us, hl with | [_], _ => rfl))
    (DL.def_mkB X G c 1 1 rfl rfl (fun _ _ _ _ _ _ us hl => match us, hl with | [_, _], _ => rfl))
    (DL.def_mkB X G c 2 2 rfl rfl (fun _ _ _ _ _ _ us hl => match us, hl with | [_], _ => rfl))
    (DL.def_mkB X G c 3 3 rfl rfl (fun _ _ _ _ _ _ us hl => match us, hl with | [_], _ => rfl))
    (DL.def_mkB X G c 4 4 rfl rfl (fun _ _ _ _ _ _ us hl => match us, hl with | [_], _ => rfl))
    (DL.def_mkB X G c 5 5 rfl rfl (fun _ _ _ _ _ _ us hl => match us, hl with | [_], _ => rfl))
    (DL.def_mkB X G c 6 6 rfl rfl (fun _ _ _ _ _ _ us hl => match us, hl with | [_], _ => rfl))
    (DL.def_mkB X G c 7 7 rfl rfl (fun _ _ _ _ _ _ us hl => match us, hl with | [_], _ => rfl))
    (DL.def_mkB X G c 8 8 rfl rfl (fun _ _ _ _ _ _ us hl => match us, hl with | [_], _ => rfl))
    (DL.def_mkB X G c 9 9 rfl rfl (fun _ _ _ _ _ _ us hl => match us, hl with | [_], _ => rfl))
    (DL.def_mkB X G c 10 10 rfl rfl (fun _ _ _ _ _ _ us hl => match us, hl with | [_], _ => rfl))
    (DL.def_mkB X G c 11 11 rfl rfl (fun _ _ _ _ _ _ us hl => match us, hl with | [_], _ => rfl))
    (DL.def_mkB X G c 12 12 rfl rfl (fun _ _ _ _ _ _ us hl => match us, hl with | [_], _ => rfl))
    (DL.def_mkB X G c 13 13 rfl rfl (fun _ _ _ _ _ _ us hl => match us, hl with | [_], _ => rfl))
    (DL.def_mkB X G c 14 14 rfl rfl (fun _ _ _ _ _ _ us hl => match us, hl with | [_], _ => rfl))
    (DL.def_mkB X G c 15 15 rfl rfl (fun _ _ _ _ _ _ us hl => match us, hl with | [_], _ => rfl))
    (DL.def_mkB X G c 16 16 rfl rfl (fun _ _ _ _ _ _ us hl => match us, hl with | [_, _], _ => rfl))
    (DL.def_mkB X G c 17 17 rfl rfl (fun _ _ _ _ _ _ us hl => match us, hl with | [_, _], _ => rfl))
    (DL.def_mkB X G c 18 18 rfl rfl (fun _ _ _ _ _ _ us hl => match us, hl with | [_], _ => rfl))
    (DL.def_mkB X G c 19 19 rfl rfl (fun _ _ _ _ _ _ us hl => match us, hl with | [_, _], _ => rfl))
    (DL.def_mkB X G c 20 20 rfl rfl (fun _ _ _ _ _ _ us hl => match us, hl with | [_, _, _, _], _ => rfl))
    (DL.def_mkB X G c 21 21 rfl rfl (fun _ _ _ _ _ _ us hl => match us, hl with | [_], _ => rfl))
    (DL.def_mkB X G c 22 22 rfl rfl (fun _ _ _ _ _ _ us hl => match us, hl with | [_, _], _ => rfl))
    (DL.def_mkB X G c 23 23 rfl rfl (fun _ _ _ _ _ _ us hl => match us, hl with | [_], _ => rfl))
    (DL.def_mkB X G c 24 24 rfl rfl (fun _ _ _ _ _ _ us hl => match us, hl with | [_], _ => rfl))
    (DL.def_mkB X G c 25 25 rfl rfl (fun _ _ _ _ _ _ us hl => match us, hl with | [_, _, _, _], _ => rfl))
    (DL.def_mkB X G c 26 26 rfl rfl (fun _ _ _ _ _ _ us hl => match us, hl with | [_, _], _ => rfl))
    (DL.def_mkB X G c 27 27 rfl rfl (fun _ _ _ _ _ _ us hl => match us, hl with | [_, _], _ => rfl))
    (DL.def_mkB X G c 28 28 rfl rfl (fun _ _ _ _ _ _ us hl => match us, hl with | [_, _, _], _ => rfl))
    (DL.def_mkB X G c 29 29 rfl rfl (fun _ _ _ _ _ _ us hl => match us, hl with | [_], _ => rfl))
    (DL.def_mkB X G c 30 30 rfl rfl (fun _ _ _ _ _ _ us hl => match us, hl with | [_, _], _ => rfl))
    (DL.def_mkB X G c 31 31 rfl rfl (fun _ _ _ _ _ _ us hl => match us, hl with | [_, _, _, _], _ => rfl))
    (DL.def_mkB X G c 32 32 rfl rfl (fun _ _ _ _ _ _ us hl => match us, hl with | [_, _, _], _ => rfl))
    (DL.def_mkB X G c 33 33 rfl rfl (fun _ _ _ _ _ _ us hl => match us, hl with | [_, _], _ => rfl))
    (DL.def_mkB X G c 34 34 rfl rfl (fun _ _ _ _ _ _ us hl => match us, hl with | [_, _, _, _, _], _ => rfl))
    (DL.def_mkB X G c 35 35 rfl rfl (fun _ _ _ _ _ _ us hl => match us, hl with | [_, _, _, _, _], _ => rfl))
    (DL.def_mkB X G c 36 36 rfl rfl (fun _ _ _ _ _ _ us hl => match us, hl with | [_, _], _ => rfl))
    (DL.def_mkB X G c 37 37 rfl rfl (fun _ _ _ _ _ _ us hl => match us, hl with | [_], _ => rfl))
    (He.free_ok X G (c.fact 38 (f := .free "ValueError") rfl))
    (He.free_ok X G (c.fact 39 (f := .free "abs") rfl))
    (He.free_ok X G (c.fact 40 (f := .free "all") rfl))
    (He.free_ok X G (c.fact 41 (f := .free "bool") rfl))
    (He.free_ok X G (c.fact 42 (f := .free "enumerate") rfl))
    (He.free_ok X G (c.fact 43 (f := .free "int") rfl))
    (He.free_ok X G (c.fact 44 (f := .free "isinstance") rfl))
    (He.free_ok X G (c.fact 45 (f := .free "len") rfl))
    (He.free_ok X G (c.fact 46 (f := .free "list") rfl))
    (He.free_ok X G (c.fact 47 (f := .free "range") rfl))
    (He.free_ok X G (c.fact 48 (f := .free "repr") rfl))
    (He.free_ok X G (c.fact 49 (f := .free "set") rfl))
    (He.free_ok X G (c.fact 50 (f := .free "str") rfl))
    (He.free_ok X G (c.fact 51 (f := .free "sum") rfl))
    (He.free_ok X G (c.fact 52 (f := .free "tuple") rfl))
    (DL.str_mkB X G c 53 rfl)
    (DL.int_mkB X G c 54 rfl)
    (DL.int_mkB X G c 55 rfl)
    (DL.int_mkB X G c 56 rfl)
    (DL.int_mkB X G c 57 rfl)
    (DL.int_mkB X G c 58 rfl)
    (DL.int_mkB X G c 59 rfl)
    (DL.int_mkB X G c 60 rfl)
    (DL.int_mkB X G c 61 rfl)
    (DL.int_mkB X G c 62 rfl)
    (He.eqO_ok (c.fact 63 (f := .glo "LayerError") rfl))
    (He.eqO_ok (c.fact 64 (f := .glo "Wrong") rfl))
    (He.eqO_ok (c.fact 65 (f := .glo "NoStage") rfl))
    (He.eqO_ok (c.fact 66 (f := .glo "NoStep") rfl))
    (He.eqO_ok (c.fact 67 (f := .glo "TooMany") rfl))
    (He.eqO_ok (c.fact 68 (f := .glo "NoDeed") rfl))
    (He.eqO_ok (c.fact 69 (f := .glo "Nothing") rfl))
    (He.eqO_ok (c.fact 70 (f := .glo "Stopped") rfl))
    (He.eqO_ok (c.fact 71 (f := .glo "Recipe") rfl))
    (He.eqO_ok (c.fact 72 (f := .glo "Cache") rfl))
    (He.eqO_ok (c.fact 73 (f := .glo "Book") rfl))
    (DL.init_mkB c 38 74 rfl rfl (fun _ _ _ _ _ _ us hl => match us, hl with | [_, _], _ => rfl))
    (DL.init_mkB c 39 75 rfl rfl (fun _ _ _ _ _ _ us hl => match us, hl with | [_, _], _ => rfl))
    (DL.init_mkB c 40 76 rfl rfl (fun _ _ _ _ _ _ us hl => match us, hl with | [_, _], _ => rfl))
    (DL.init_mkB c 41 77 rfl rfl (fun _ _ _ _ _ _ us hl => match us, hl with | [_, _], _ => rfl))
    (DL.xclsB_ok (c.own 0 (f := xclsB "LayerError") rfl))
    (DL.xclsB_ok (c.own 1 (f := xclsB "Wrong") rfl))
    (DL.xclsB_ok (c.own 2 (f := xclsB "NoStage") rfl))
    (DL.xclsB_ok (c.own 3 (f := xclsB "NoStep") rfl))
    (DL.xclsB_ok (c.own 4 (f := xclsB "TooMany") rfl))
    (DL.xclsB_ok (c.own 5 (f := xclsB "NoDeed") rfl))
    (DL.xclsB_ok (c.own 6 (f := xclsB "Nothing") rfl))
    (DL.xclsB_ok (c.own 7 (f := xclsB "Stopped") rfl))
    (He.eqO_ok (c.fact 78 (f := .noat "NoStage" "name") rfl))
    (He.eqO_ok (c.fact 79 (f := .noat "NoStep" "at") rfl))
    (He.eqO_ok (c.fact 80 (f := .noat "TooMany" "limit") rfl))
    (He.eqO_ok (c.fact 81 (f := .noat "Wrong" "place") rfl))
    (c.own 8 (f := excB "NoDeed") rfl)
    (c.own 9 (f := readsHB "LayerError") rfl)
    (He.eqO_ok (c.own 10 (f := specB "LayerError" "__getattribute__" "type.__getattribute__") rfl))
    (DL.fclsB_ok (c.own 11 (f := fclsB "LayerError" "__init__" "ValueError.__init__") rfl))
    (of_decide_eq_true (c.own 12 (f := subRB "Wrong" "Wrong" true) rfl))
    (of_decide_eq_true (c.own 13 (f := subRB "NoDeed" "Wrong" false) rfl))
    (of_decide_eq_true (c.own 14 (f := subRB "TooMany" "Wrong" false) rfl))
    (of_decide_eq_true (c.own 15 (f := subRB "NoStep" "Wrong" false) rfl))
    (of_decide_eq_true (c.own 16 (f := subRB "NoStage" "Wrong" false) rfl))
    (of_decide_eq_true (c.own 17 (f := subRB "NoStage" "NoStage" true) rfl))
    (of_decide_eq_true (c.own 18 (f := subRB "NoDeed" "NoStage" false) rfl))
    (of_decide_eq_true (c.own 19 (f := subRB "TooMany" "NoStage" false) rfl))
    (of_decide_eq_true (c.own 20 (f := subRB "NoStep" "NoStage" false) rfl))
    (of_decide_eq_true (c.own 21 (f := subRB "Wrong" "NoStage" false) rfl))
    (of_decide_eq_true (c.own 22 (f := subRB "NoStep" "NoStep" true) rfl))
    (of_decide_eq_true (c.own 23 (f := subRB "NoDeed" "NoStep" false) rfl))
    (of_decide_eq_true (c.own 24 (f := subRB "TooMany" "NoStep" false) rfl))
    (of_decide_eq_true (c.own 25 (f := subRB "NoStage" "NoStep" false) rfl))
    (of_decide_eq_true (c.own 26 (f := subRB "Wrong" "NoStep" false) rfl))
    (of_decide_eq_true (c.own 27 (f := subRB "TooMany" "TooMany" true) rfl))
    (of_decide_eq_true (c.own 28 (f := subRB "NoDeed" "TooMany" false) rfl))
    (of_decide_eq_true (c.own 29 (f := subRB "NoStep" "TooMany" false) rfl))
    (of_decide_eq_true (c.own 30 (f := subRB "NoStage" "TooMany" false) rfl))
    (of_decide_eq_true (c.own 31 (f := subRB "Wrong" "TooMany" false) rfl))
    (of_decide_eq_true (c.own 32 (f := subRB "NoDeed" "NoDeed" true) rfl))
    (of_decide_eq_true (c.own 33 (f := subRB "TooMany" "NoDeed" false) rfl))
    (of_decide_eq_true (c.own 34 (f := subRB "NoStep" "NoDeed" false) rfl))
    (of_decide_eq_true (c.own 35 (f := subRB "NoStage" "NoDeed" false) rfl))
    (of_decide_eq_true (c.own 36 (f := subRB "Wrong" "NoDeed" false) rfl))
    (of_decide_eq_true (c.own 37 (f := subRB "Nothing" "Nothing" true) rfl))
    (of_decide_eq_true (c.own 38 (f := subRB "NoDeed" "Nothing" false) rfl))
    (of_decide_eq_true (c.own 39 (f := subRB "TooMany" "Nothing" false) rfl))
    (of_decide_eq_true (c.own 40 (f := subRB "NoStep" "Nothing" false) rfl))
    (of_decide_eq_true (c.own 41 (f := subRB "NoStage" "Nothing" false) rfl))
    (of_decide_eq_true (c.own 42 (f := subRB "Wrong" "Nothing" false) rfl))
    (of_decide_eq_true (c.own 43 (f := subRB "Stopped" "Stopped" true) rfl))
    (of_decide_eq_true (c.own 44 (f := subRB "NoDeed" "Stopped" false) rfl))
    (of_decide_eq_true (c.own 45 (f := subRB "TooMany" "Stopped" false) rfl))
    (of_decide_eq_true (c.own 46 (f := subRB "NoStep" "Stopped" false) rfl))
    (of_decide_eq_true (c.own 47 (f := subRB "NoStage" "Stopped" false) rfl))
    (of_decide_eq_true (c.own 48 (f := subRB "Wrong" "Stopped" false) rfl))
    (of_decide_eq_true (c.own 49 (f := subTB "NoDeed" "ValueError" true) rfl))
    (of_decide_eq_true (c.own 50 (f := subTB "TooMany" "ValueError" true) rfl))
    (of_decide_eq_true (c.own 51 (f := subTB "NoStep" "ValueError" true) rfl))
    (of_decide_eq_true (c.own 52 (f := subTB "NoStage" "ValueError" true) rfl))
    (of_decide_eq_true (c.own 53 (f := subTB "Wrong" "ValueError" true) rfl))
    (of_decide_eq_true (c.own 54 (f := subRB "NoDeed" "LayerError" true) rfl))
    (of_decide_eq_true (c.own 55 (f := subRB "TooMany" "LayerError" true) rfl))
    (of_decide_eq_true (c.own 56 (f := subRB "NoStep" "LayerError" true) rfl))
    (of_decide_eq_true (c.own 57 (f := subRB "NoStage" "LayerError" true) rfl))
    (of_decide_eq_true (c.own 58 (f := subRB "Wrong" "LayerError" true) rfl))
    (DL.oclsB_ok (c.own 59 (f := oclsB "Recipe") rfl))
    (DL.oclsB_ok (c.own 60 (f := oclsB "Cache") rfl))
    (DL.oclsB_ok (c.own 61 (f := oclsB "Book") rfl))
    (He.eqO_ok (c.fact 82 (f := .noat "Book" "deeds") rfl))
    (He.eqO_ok (c.fact 83 (f := .noat "Book" "own_cache") rfl))
    (He.eqO_ok (c.fact 84 (f := .noat "Book" "recipes_kept") rfl))
    (He.eqO_ok (c.fact 85 (f := .noat "Book" "undone") rfl))
    (He.eqO_ok (c.fact 86 (f := .noat "Cache" "kept_pairs") rfl))
    (He.eqO_ok (c.fact 87 (f := .noat "Recipe" "stage_rows") rfl))
    (DL.iscB_ok (c.own 62 (f := iscB "Recipe") rfl))
    (of_decide_eq_true (c.own 63 (f := subRB "Recipe" "Recipe" true) rfl))
    (DL.iscB_ok (c.own 64 (f := iscB "Book") rfl))
    (of_decide_eq_true (c.own 65 (f := subRB "Book" "Book" true) rfl))
    (He.eqO_ok (c.own 66 (f := attrB "Book" "__ne__" "object.__ne__") rfl))
    (DL.meth_mkB c 42 88 rfl rfl (fun _ _ _ _ _ _ us hl => match us, hl with | [_], _ => rfl))
    (DL.meth_mkB c 43 89 rfl rfl (fun _ _ _ _ _ _ us hl => match us, hl with | [_, _], _ => rfl))
    (DL.meth_mkB c 44 90 rfl rfl (fun _ _ _ _ _ _ us hl => match us, hl with | [_, _], _ => rfl))
    (DL.meth_mkB c 45 91 rfl rfl (fun _ _ _ _ _ _ us hl => match us, hl with | [_], _ => rfl))
    (DL.meth_mkB c 46 92 rfl rfl (fun _ _ _ _ _ _ us hl => match us, hl with | [_, _], _ => rfl))
    (DL.meth_mkB c 47 93 rfl rfl (fun _ _ _ _ _ _ us hl => match us, hl with | [_], _ => rfl))
    (DL.meth_mkB c 48 94 rfl rfl (fun _ _ _ _ _ _ us hl => match us, hl with | [_, _], _ => rfl))
    (DL.meth_mkB c 49 95 rfl rfl (fun _ _ _ _ _ _ us hl => match us, hl with | [_], _ => rfl))
    (DL.meth_mkB c 50 96 rfl rfl (fun _ _ _ _ _ _ us hl => match us, hl with | [_], _ => rfl))
    (DL.meth_mkB c 51 97 rfl rfl (fun _ _ _ _ _ _ us hl => match us, hl with | [_], _ => rfl))
    (DL.meth_mkB c 52 98 rfl rfl (fun _ _ _ _ _ _ us hl => match us, hl with | [_, _], _ => rfl))
    (DL.meth_mkB c 53 99 rfl rfl (fun _ _ _ _ _ _ us hl => match us, hl with | [_, _], _ => rfl))
    (DL.meth_mkB c 54 100 rfl rfl (fun _ _ _ _ _ _ us hl => match us, hl with | [_, _, _], _ => rfl))
    (DL.meth_mkB c 55 101 rfl rfl (fun _ _ _ _ _ _ us hl => match us, hl with | [_, _], _ => rfl))

local macro_rules | `(tactic| walk_at "dl") => `(tactic| first
  | (with_reducible first
  | refine run_fn.mpr ?_ | refine run_seq.mpr ?_ | refine on_nx.mpr ?_ | refine on_rt.mpr ?_ | refine ret_rt.mpr ?_ | refine ret_nx.mpr ?_ | refine run_nx.mpr ?_ | refine run_ret.mpr ?_ | refine run_drop.mpr ?_ | refine run_ifS.mpr ?_ | refine run_asg.mpr ?_ | refine run_gNm.mpr ?_
  | refine run_par.mpr ?_ | refine run_aug.mpr ?_ | refine run_gSb.mpr ?_ | refine run_tst.mpr ?_ | refine run_asB.mpr ?_ | refine run_bin.mpr ?_ | refine run_un.mpr ?_ | refine run_cl.mpr ?_ | refine run_consA.mpr ?_ | refine run_nilA.mpr ?_ | refine run_cst.mpr ?_
  | refine run_ifM.mpr ?_ | refine run_andT.mpr ?_ | refine run_orT.mpr ?_ | refine run_notT.mpr ?_ | refine run_andV.mpr ?_ | refine run_orV.mpr ?_ | refine run_notV.mpr ?_ | refine run_tup.mpr ?_ | refine run_lst.mpr ?_ | refine run_slM.mpr ?_ | refine run_noP.mpr ?_ | refine run_someP.mpr ?_
  | refine run_addI.mpr ?_ | refine run_addI'.mpr ?_ | refine run_subI.mpr ?_ | refine run_ltI.mpr ?_ | refine run_leI.mpr ?_ | refine run_gtI.mpr ?_ | refine run_geI.mpr ?_ | refine run_isN.mpr ?_ | refine run_notN.mpr ?_ | refine run_eqI.mpr ?_ | refine run_absI.mpr ?_ | refine run_intB.mpr ?_ | refine run_tupT.mpr ?_ | refine run_lenT.mpr ?_ | refine run_lenF.mpr ?_
  | refine run_pure.mpr ?_)
  | ((with_reducible refine' (run_getv ?dlh).mpr ?_); (case dlh => rfl)) | ((with_reducible refine' (run_ixT ?dlh).mpr ?_); (case dlh => rfl)))
local macro_rules | `(tactic| walk_at "dm") => `(tactic| with_reducible first
  | refine run_for.mpr ?_ | refine run_lc.mpr ?_ | refine run_itR.mpr ?_ | refine run_itA.mpr ?_ | refine run_yes.mpr ?_ | refine for_nx.mpr ?_)
local macro_rules | `(tactic| walk_at "dn") => `(tactic| with_reducible first
  | refine run_fld.mpr ?_ | refine run_fset.mpr ?_ | refine run_meth.mpr ?_ | refine run_raise.mpr ?_ | refine run_raise0.mpr ?_ | refine run_mt.mpr ?_ | refine run_lenSet.mpr ?_ | refine run_itEnu.mpr ?_ | refine run_lc2.mpr ?_ | refine run_iso.mpr ?_ | refine run_isi.mpr ?_
  | refine run_chM.mpr ?_ | refine run_eqS.mpr ?_ | refine run_neI.mpr ?_ | refine run_neS.mpr ?_ | refine run_negI.mpr ?_ | refine (run_ixT at0).mpr ?_ | refine (run_ixT at1).mpr ?_ | refine ite_tr rfl ?_ | refine ite_fr rfl ?_)
local macro_rules | `(tactic| walk_at "dw") => `(tactic| repeat (first | walk_at "dl" | walk_at "dm" | walk_at "dn" | refine ⟨Nat.le_of_ble_eq_true rfl, ?_⟩ | ((with_reducible refine' (run_gTp ?dlh).mpr ?_); (case dlh => rfl)) | ((with_reducible refine' (run_gTpN ?dlh).mpr ?_); (case dlh => rfl))))
local macro_rules | `(tactic| walk_at "de") => `(tactic| repeat (first | walk_at "dl" | walk_at "dm" | walk_at "dn" | refine ⟨Nat.le_of_ble_eq_true rfl, ?_⟩ | (with_reducible refine run_isxA.mpr ?_) | (with_reducible refine run_xfA.mpr ?_) | ((with_reducible refine' (run_isxAD ?dlh).mpr ?_); (case dlh => rfl)) | ((with_reducible refine' (run_isxA0 ?dlh).mpr ?_); (case dlh => rfl))))
open PySem PySem.Spec PyProof.Rows L2 DL
theorem e_step : m__law_step = stepM := rfl
theorem e_is_step : m_is_step = isStepM := rfl
theorem e_is_name : m_is_name = isNameM := rfl
/-! ### stages by their values -/
structure SV where
  nm : Str
  st : D
  sp : List D
structure SV.Ok (v : SV) : Prop where
  nm : nmOk v.nm = true
  st : v.st = .non ∨ ∃ x, v.st = .str x ∧ nmOk x = true
  sp : ∀ d ∈ v.sp, Stp d
  len : v.sp.length ≤ 8
def SV.row (v : SV) (m : Nat) : D := .tup [.str v.nm, v.st, .ref m]
def StAt (A : Nat → Prop) (S : Sto) (d : D) (v : SV) : Prop := ∃ m, d = v.row m ∧ ¬ A m ∧ S[m]? = some (.lst v.sp)
def StsL (A : Nat → Prop) (S : Sto) (ds : List D) (vs : List SV) : Prop := ds.length = vs.length ∧ ∀ (i : Nat) (d : D) (v : SV), ds[i]? = some d → vs[i]? = some v → StAt A S d v
def StsAt (A : Nat → Prop) (S : Sto) (n : Nat) (vs : List SV) : Prop := ¬ A n ∧ ∃ ds, S[n]? = some (.lst ds) ∧ StsL A S ds vs
abbrev cR : Nat := 8
def RcAt (A : Nat → Prop) (S : Sto) (m : Nat) (vs : List SV) : Prop := ¬ A m ∧ ∃ q, S[m]? = some (.ins cR [("stage_rows", .ref q)]) ∧ StsAt A S q vs
section
variable {A A' : Nat → Prop} {S S' : Sto} {d : D} {v : SV} {ds : List D} {vs : List SV} {n m : Nat}
theorem StAt.fr (f : FrA A S S') (h : StAt A S d v) : StAt A S' d v := let ⟨m, e, a, z⟩ := h; ⟨m, e, a, f.get a z⟩
theorem StsL.fr (f : FrA A S S') (h : StsL A S ds vs) : StsL A S' ds vs := ⟨h.1, fun i d v a b => (h.2 i d v a b).fr f⟩
theorem StsAt.fr (f : FrA A S S') (h : StsAt A S n vs) : StsAt A S' n vs := let ⟨a, ds, z, k⟩ := h; ⟨a, ds, f.get a z, k.fr f⟩
theorem RcAt.fr (f : FrA A S S') (h : RcAt A S m vs) : RcAt A S' m vs := let ⟨a, q, z, k⟩ := h; ⟨a, q, f.get a z, k.fr f⟩
theorem get_lt {o : O} (h : S[n]? = some o) : n < S.length := (List.getElem?_eq_some_iff.mp h).1
theorem StAt.wide (hA : ∀ i, i < S.length → A' i → A i) (h : StAt A S d v) : StAt A' S d v := let ⟨m, e, a, z⟩ := h; ⟨m, e, fun y => a (hA m (get_lt z) y), z⟩
theorem StsL.wide (hA : ∀ i, i < S.length → A' i → A i) (h : StsL A S ds vs) : StsL A' S ds vs := ⟨h.1, fun i d v a b => (h.2 i d v a b).wide hA⟩
theorem StsAt.wide (hA : ∀ i, i < S.length → A' i → A i) (h : StsAt A S n vs) : StsAt A' S n vs := let ⟨a, ds, z, k⟩ := h; ⟨fun y => a (hA n (get_lt z) y), ds, z, k.wide hA⟩
theorem RcAt.wide (hA : ∀ i, i < S.length → A' i → A i) (h : RcAt A S m vs) : RcAt A' S m vs := let ⟨a, q, z, k⟩ := h; ⟨fun y => a (hA m (get_lt z) y), q, z, k.wide hA⟩
theorem StsAt.lt (h : StsAt A S n vs) : n < S.length := let ⟨_, _, z, _⟩ := h; get_lt z
theorem RcAt.lt (h : RcAt A S m vs) : m < S.length := let ⟨_, _, z, _⟩ := h; get_lt z
theorem StsL.nil : StsL A S [] [] := ⟨rfl, fun i d v a => by simp at a⟩
theorem StsL.app {es : List D} {us : List SV} (h : StsL A S ds vs) (k : StsL A S es us) : StsL A S (ds ++ es) (vs ++ us) := by
  refine ⟨by simp [h.1, k.1], fun i d v a b => ?_⟩
  by_cases hi : i < ds.length
  · rw [List.getElem?_append_left hi] at a
    rw [List.getElem?_append_left (by rw [← h.1]; exact hi)] at b
    exact h.2 i d v a b
  · rw [List.getElem?_append_right (by omega)] at a
    rw [List.getElem?_append_right (by rw [← h.1]; omega)] at b
    rw [← h.1] at b
    exact k.2 _ d v a b
theorem StsL.one (h : StAt A S d v) : StsL A S [d] [v] := ⟨rfl, fun i d' v' a b => by
  cases i with
  | zero => simp at a b; subst a; subst b; exact h
  | succ i => simp at a⟩
theorem StsL.take (h : StsL A S ds vs) (k : Nat) : StsL A S (ds.take k) (vs.take k) := by
  refine ⟨by simp [h.1], fun i d v a b => ?_⟩
  rw [List.getElem?_take] at a b
  split at a
  · rename_i hi
    rw [if_pos hi] at b
    exact h.2 i d v a b
  · cases a
end
theorem gone_new {A : Nat → Prop} {S S' : Sto} (hA : ∀ i, A i → i < S.length) (g : Gw S S') : ¬ A S'.length := fun z => by
  have := hA _ z
  have := g.len
  omega
theorem stp_shape {d : D} (h : Stp d) : ∃ w x l, d = .tup (.str w :: x :: l) := by cases h <;> exact ⟨_, _, _, rfl⟩
theorem stp_copy {d : D} (h : Stp d) (hc : isCopy d = true) : ∃ x, srcD d = .str x ∧ nmOk x = true := by
  cases h with
  | copy hn hp hq => exact ⟨_, rfl, hn⟩
  | write _ _ _ _ => exact notC (by decide +kernel) hc
  | folder _ _ _ => exact notC (by decide +kernel) hc
  | link _ _ => exact notC (by decide +kernel) hc
  | delete _ => exact notC (by decide +kernel) hc
  | clear _ => exact notC (by decide +kernel) hc
  | rights _ _ _ => exact notC (by decide +kernel) hc
  | run _ _ _ _ => exact notC (by decide +kernel) hc
def cps (sp : List D) : List D := (sp.filter isCopy).map srcD
def srcs (v : SV) : List D := (if isNone v.st = true then [] else [v.st]) ++ cps v.sp
def runs (sp : List D) : Nat := (sp.filter isRun).length
theorem cps_str {sp : List D} (h : ∀ d ∈ sp, Stp d) {s : D} (hs : s ∈ cps sp) : ∃ x, s = .str x ∧ nmOk x = true := by
  obtain ⟨d, hd, rfl⟩ := List.mem_map.mp hs
  obtain ⟨h1, h2⟩ := List.mem_filter.mp hd
  exact stp_copy (h d h1) h2
theorem cps_len (sp : List D) : (cps sp).length ≤ sp.length := by
  unfold cps
  rw [List.length_map]
  exact List.length_filter_le _ _
theorem srcs_str {v : SV} (h : v.Ok) {s : D} (hs : s ∈ srcs v) : ∃ x, s = .str x ∧ nmOk x = true := by
  rcases List.mem_append.mp hs with hs | hs
  · rcases h.st with e | ⟨x, e, hx⟩
    · rw [e] at hs
      simp [isNone] at hs
    · rw [e] at hs
      simp [isNone] at hs
      exact ⟨x, hs, hx⟩
  · exact cps_str h.sp hs
theorem srcs_len {v : SV} (h : v.Ok) : (srcs v).length ≤ 9 := by
  have a := cps_len v.sp
  have b := h.len
  unfold srcs
  rw [List.length_append]
  split <;> simp <;> omega
section
variable {S : Sto} {Q : D → Sto → Prop}
theorem ty_lst {n : Nat} {xs : List D} (h : S[n]? = some (.lst xs)) : tyTn S (.ref n) = some .tList := by unfold tyTn; simp only [h]
theorem tyD_lst {n : Nat} {xs : List D} (h : S[n]? = some (.lst xs)) : tyD "list" S (.ref n) = true := by unfold tyD; simp only [h]; rfl
theorem sources_run {v : SV} (hv : v.Ok) {m : Nat} (hm : S[m]? = some (.lst v.sp)) (k : ∀ S' n, Gw S S' → S'[n]? = some (.lst (srcs v)) → Q (.ref n) S') : Run (m_sources_of [v.st, .ref m]) S Q := by
  have hl := hv.len
  have cl := cps_len v.sp
  unfold m_sources_of b_sources_of
  have first : ∀ (Q' : D → Sto → Prop), (∀ n1 xs S1, Gw S S1 → S1[n1]? = some (.lst xs) → xs ++ cps v.sp = srcs v → xs.length ≤ 1 → Q' (.ref n1) S1) → Run (ifM (tstM (binM isNoneD (getv 0) (cst .non))) (lstM (nilA)) (lstM (consA (getv 0) (nilA))) [some v.st, some (.ref m), none, none]) S Q' := fun Q' k' => by
    rcases hv.st with e | ⟨x, e, hx⟩
    · have e2 : ([] : List D) ++ cps v.sp = srcs v := by unfold srcs; rw [e]; rfl
      rw [e]
      walk_at "dw"
      exact k' _ _ _ Gw.one last_get e2 (by simp)
    · have e2 : [.str x] ++ cps v.sp = srcs v := by unfold srcs; rw [e]; rfl
      rw [e]
      walk_at "dw"
      exact k' _ _ _ Gw.one last_get e2 (by simp)
  refine run_fn.mpr (run_seq.mpr (run_asg.mpr ?_))
  refine first _ fun n1 xs S1 g1 h1 e1 hx => ?_
  walk_at "dw"
  refine run_itAL (g1.get hm) ?_
  refine comp_filter (p := isCopy) (f := srcD) (g1.get hm) (by omega) (fun d S2 hd g2 => ?_) fun S2 g2 => ?_
  · obtain ⟨w, x, l, rfl⟩ := stp_shape (hv.sp d hd)
    walk_at "dw"
    refine ⟨rfl, Gw.refl, fun _ => ?_⟩
    walk_at "dw"
    exact ⟨Gw.refl, rfl⟩
  · walk_at "dw"
    refine (run_addL (Gw.one.get (g2.get h1)) last_get (by have : (cps v.sp).length = ((v.sp.filter isCopy).map srcD).length := rfl; have := small_len (n := 9) (by decide); omega)).mpr ?_
    walk_at "dw"
    refine k _ _ (((g1.trans g2).trans Gw.one).trans Gw.one) ?_
    rw [last_get]
    exact congrArg (fun z => some (O.lst z)) e1
theorem are_steps_run {n : Nat} {sp : List D} (hn : S[n]? = some (.lst sp)) (hs : ∀ d ∈ sp, Stp d) (hl : sp.length ≤ 8) (k : ∀ S', Gw S S' → Q (.bl true) S') : Run (m_are_steps [.ref n]) S Q := by
  unfold m_are_steps b_are_steps c_MOST_STEPS
  walk_at "dw"
  refine ⟨_, ty_lst hn, ?_⟩
  walk_at "dw"
  refine (run_lenL hn).mpr ?_
  walk_at "dw"
  refine ite_tr (decide_eq_true (by omega)) ?_
  walk_at "dw"
  refine run_itAL hn ?_
  refine comp_yes hn (by omega) (fun d S1 hd g1 => ?_) fun S1 g1 => ?_
  · walk_at "dw"
    refine ⟨rfl, Gw.refl, ?_⟩
    walk_at "dw"
    exact isStep_yes (hs d hd) fun S2 g2 => ⟨g2, rfl⟩
  · walk_at "dw"
    exact (run_allT last_get).mpr (k _ (g1.trans Gw.one))
theorem is_stage_run {A : Nat → Prop} {v : SV} {d : D} (hv : v.Ok) (h : StAt A S d v) (k : ∀ S', Gw S S' → Q (.bl true) S') : Run (m_is_stage [d]) S Q := by
  obtain ⟨m, rfl, _, hm⟩ := h
  unfold m_is_stage b_is_stage SV.row
  walk_at "dw"
  refine ⟨_, rfl, ?_⟩
  walk_at "dw"
  refine isName_yes hv.nm fun S1 g1 => ?_
  walk_at "dw"
  rcases hv.st with e | ⟨x, e, hx⟩
  · rw [e]
    walk_at "dw"
    exact are_steps_run (g1.get hm) hv.sp hv.len fun S2 g2 => k _ (g1.trans g2)
  · rw [e]
    walk_at "dw"
    refine isName_yes hx fun S2 g2 => ?_
    walk_at "dw"
    exact are_steps_run (g2.get (g1.get hm)) hv.sp hv.len fun S3 g3 => k _ ((g1.trans g2).trans g3)
theorem StsL.get {A : Nat → Prop} {ds : List D} {vs : List SV} {d : D} {i : Nat} (h : StsL A S ds vs) (e : ds[i]? = some d) : ∃ v, vs[i]? = some v ∧ StAt A S d v := by
  have hi := (List.getElem?_eq_some_iff.mp e).1
  have hi2 : i < vs.length := by rw [← h.1]; exact hi
  exact ⟨vs[i], List.getElem?_eq_getElem hi2, h.2 i d _ e (List.getElem?_eq_getElem hi2)⟩
theorem StsL.getV {A : Nat → Prop} {ds : List D} {vs : List SV} {v : SV} {i : Nat} (h : StsL A S ds vs) (e : vs[i]? = some v) : ∃ d, ds[i]? = some d ∧ StAt A S d v := by
  have hi := (List.getElem?_eq_some_iff.mp e).1
  have hi2 : i < ds.length := by rw [h.1]; exact hi
  exact ⟨ds[i], List.getElem?_eq_getElem hi2, h.2 i _ v (List.getElem?_eq_getElem hi2) e⟩
/-- the first of each row -/
def rowNm : D → D
  | .tup (x :: _) => x
  | _ => .non
theorem StsL.nms {A : Nat → Prop} {ds : List D} {vs : List SV} (h : StsL A S ds vs) : ds.map rowNm = (vs.map (·.nm)).map D.str := by
  refine List.ext_getElem? fun i => ?_
  rw [List.getElem?_map, List.getElem?_map, List.getElem?_map]
  cases e : ds[i]? with
  | none =>
    have := List.getElem?_eq_none_iff.mp e
    rw [List.getElem?_eq_none (by rw [← h.1]; exact this)]
    rfl
  | some d =>
    obtain ⟨v, hv, m, rfl, _⟩ := h.get e
    rw [hv]
    rfl
theorem filter_true_map {α β : Type} (f : α → β) (l : List α) : (l.filter fun _ => true).map f = l.map f := by rw [List.filter_eq_self.mpr fun _ _ => rfl]
theorem are_stages_run {A : Nat → Prop} {n : Nat} {vs : List SV} (hv : ∀ v ∈ vs, v.Ok) (nd : (vs.map (·.nm)).Nodup) (l1 : 1 ≤ vs.length) (l3 : vs.length ≤ 3) (h : StsAt A S n vs) (k : ∀ S', Gw S S' → Q (.bl true) S') : Run (m_are_stages [.ref n]) S Q := by
  obtain ⟨_, ds, hn, hd⟩ := h
  have hl := hd.1
  unfold m_are_stages b_are_stages c_MOST_STAGES
  walk_at "dw"
  refine ⟨_, ty_lst hn, ?_⟩
  walk_at "dw"
  refine (run_lenL hn).mpr ?_
  walk_at "dw"
  refine ite_tr (decide_eq_true (by omega)) ?_
  walk_at "dw"
  refine ite_fr (by rw [decide_eq_true (by omega)]; rfl) ?_
  walk_at "dw"
  refine run_itAL hn ?_
  refine comp_yes hn (by omega) (fun d S1 hdm g1 => ?_) fun S1 g1 => ?_
  · walk_at "dw"
    refine ⟨rfl, Gw.refl, ?_⟩
    walk_at "dw"
    obtain ⟨i, hi⟩ := List.getElem?_of_mem hdm
    obtain ⟨v, hv1, hv2⟩ := hd.get hi
    exact is_stage_run (hv v (List.mem_of_getElem? hv1)) (hv2.fr g1.fa) fun S2 g2 => ⟨g2, rfl⟩
  · walk_at "dw"
    refine (run_allT last_get).mpr ?_
    walk_at "dw"
    have g2 := g1.trans (Gw.one (o := .lst (List.replicate ds.length (D.bl true))))
    generalize S1 ++ [O.lst (List.replicate ds.length (D.bl true))] = S2 at g2
    refine run_itAL (g2.get hn) ?_
    refine comp_filter (p := fun _ => true) (f := rowNm) (g2.get hn) (by omega) (fun d S3 hdm g3 => ?_) fun S3 g3 => ?_
    · obtain ⟨i, hi⟩ := List.getElem?_of_mem hdm
      obtain ⟨v, hv1, m, rfl, _, _⟩ := hd.get hi
      unfold SV.row
      walk_at "dw"
      refine ⟨rfl, Gw.refl, fun _ => ?_⟩
      walk_at "dw"
      exact ⟨Gw.refl, rfl⟩
    · rw [filter_true_map, hd.nms]
      walk_at "dw"
      refine (run_lenSetD last_get (by rw [List.length_map]; have : scanBound = 4096 := rfl; omega)).mpr ?_
      walk_at "dw"
      refine (run_lenL (Gw.one.get (g3.get (g2.get hn)))).mpr ?_
      walk_at "dw"
      rw [metS_full nd, List.length_map, hl, beq_self_eq_true]
      exact k _ ((g2.trans g3).trans Gw.one)
end

open PySem PySem.Spec PyProof.Rows L2 DL
/-! ### a recipe is made -/
structure VsOk (pre : List SV) (last : SV) : Prop where
  ok : ∀ v ∈ pre ++ [last], v.Ok
  nd : ((pre ++ [last]).map (·.nm)).Nodup
  l3 : pre.length ≤ 2
  fwd : ∀ (i : Nat) (v : SV), pre[i]? = some v → ∀ s ∈ srcs v, ∀ u ∈ (pre ++ [last]).drop i, s ≠ .str u.nm
  st : last.st ≠ .str last.nm
def isStr (x : Str) : D → Bool
  | .str y => y == x
  | _ => false
def badB (x : Str) (sp : List D) : Bool := (cps sp).any (isStr x)
def total (vs : List SV) : Nat := (vs.map fun v => runs v.sp).sum
/-- an error or not -/
def recE (pre : List SV) (last : SV) : Option (Nat × Str × D) :=
  if badB last.nm last.sp = true then some (2, "name", .str last.nm)
  else if 4 < total (pre ++ [last]) then some (4, "limit", .int 4)
  else none
theorem isStr_eq {x : Str} {d : D} (h : isStr x d = true) : d = .str x := by
  cases d with
  | str y => rw [show y = x from beq_iff_eq.mp h]
  | _ => cases h
theorem bad_of {x : Str} {sp : List D} (h : .str x ∈ cps sp) : badB x sp = true := List.any_eq_true.mpr ⟨_, h, by show (x == x) = true; exact beq_self_eq_true x⟩
theorem bad_to {x : Str} {sp : List D} (h : badB x sp = true) : .str x ∈ cps sp := by
  obtain ⟨d, hd, e⟩ := List.any_eq_true.mp h
  rw [← isStr_eq e]
  exact hd
theorem VsOk.len {pre : List SV} {last : SV} (h : VsOk pre last) : (pre ++ [last]).length = pre.length + 1 := by simp
theorem VsOk.lastOk {pre : List SV} {last : SV} (h : VsOk pre last) : last.Ok := h.ok _ (by simp)
theorem runs_le (sp : List D) : runs sp ≤ sp.length := List.length_filter_le _ _
theorem total_take {vs : List SV} {i : Nat} {v : SV} (h : vs[i]? = some v) : total (vs.take (i + 1)) = total (vs.take i) + runs v.sp := by
  unfold total
  rw [List.take_succ, h]
  simp
theorem total_le {vs : List SV} (h : ∀ v ∈ vs, v.Ok) : total vs ≤ vs.length * 8 := by
  induction vs with
  | nil => simp [total]
  | cons v vs ih =>
    have a := ih fun u hu => h u (List.mem_cons_of_mem _ hu)
    have b := runs_le v.sp
    have c := (h v List.mem_cons_self).len
    unfold total at a ⊢
    simp only [List.map_cons, List.sum_cons, List.length_cons]
    omega
section
variable {S : Sto} {QE : QX} {Q : D → Sto → Prop} {A A0 : Nat → Prop} {n : Nat} {pre : List SV} {last : SV}
theorem recipe_run (hA : ∀ i, A i → i < S.length) (ok : VsOk pre last) (h : StsAt A0 S n (pre ++ [last]))
    (kE : ∀ c f v, recE pre last = some (c, f, v) → ∀ S', Gw S S' → QE c [(f, v)] S')
    (kO : recE pre last = none → ∀ S' m, Gw S S' → S.length ≤ m → RcAt A S' m (pre ++ [last]) → Q (.ref m) S') : RunX (mkM 8 m_Recipe___init__ [.ref n]) S QE Q := by
  obtain ⟨n0, ds, hn, hd⟩ := h
  have hlen := ok.len
  have hl3 := ok.l3
  have hdl := hd.1
  refine run_mk ?_
  have hself : (S ++ [O.ins 8 []])[S.length]? = some (.ins 8 []) := last_get
  have g0 : Gw S (S ++ [O.ins 8 []]) := Gw.one
  unfold m_Recipe___init__ b_Recipe___init__ c_MOST_RUNS
  walk_at "dw"
  refine Run.up (are_stages_run (A := A0) ok.ok ok.nd (by omega) (by omega) ⟨n0, ds, g0.get hn, hd.fr g0.fa⟩ fun S1 g1 => ?_)
  walk_at "dw"
  have gs1 := g0.trans g1
  refine run_itAL (gs1.get hn) ?_
  refine comp_filter (p := fun _ => true) (f := rowNm) (gs1.get hn) (by omega) (fun d S2 hdm g2 => ?_) fun S2 g2 => ?_
  · obtain ⟨i, hi⟩ := List.getElem?_of_mem hdm
    obtain ⟨v, hv1, m, rfl, _, _⟩ := hd.get hi
    unfold SV.row
    walk_at "dw"
    refine ⟨rfl, Gw.refl, fun _ => ?_⟩
    walk_at "dw"
    exact ⟨Gw.refl, rfl⟩
  walk_at "dw"
  rw [filter_true_map, hd.nms]
  have gs2 : Gw S (S2 ++ [O.lst (((pre ++ [last]).map (·.nm)).map D.str)]) := (gs1.trans g2).trans Gw.one
  have hnm : (S2 ++ [O.lst (((pre ++ [last]).map (·.nm)).map D.str)])[S2.length]? = some (.lst (((pre ++ [last]).map (·.nm)).map D.str)) := last_get
  have hself2 := (Gw.one (o := .lst (((pre ++ [last]).map (·.nm)).map D.str))).get (g2.get (g1.get hself))
  generalize S2 ++ [O.lst (((pre ++ [last]).map (·.nm)).map D.str)] = S3 at gs2 hnm hself2
  refine run_itEnuL (gs2.get hn) ?_
  refine for_enl (fun i r S' => Gw S3 S' ∧ (i = pre.length + 1 → badB last.nm last.sp = false) ∧ ∃ a3 a4 a5 a6 a7 a8, r = [some (.ref S.length), some (.ref n), some (.ref S2.length), a3, a4, a5, a6, a7, a8])
    ⟨Gw.refl, fun z => by omega, _, _, _, _, _, _, rfl⟩ (fun i r S' z => z.1.get (gs2.get hn)) (fun i r S4 d hi ⟨g4, _, a3, a4, a5, a6, a7, a8, er⟩ => ?_) fun r S4 ⟨g4, hb, a3, a4, a5, a6, a7, a8, er⟩ => ?_
  · subst er
    obtain ⟨v, hv1, m, rfl, hm0, hm⟩ := hd.get hi
    have hvo := ok.ok v (List.mem_of_getElem? hv1)
    have hi2 : i < pre.length + 1 := by rw [← hlen]; exact (List.getElem?_eq_some_iff.mp hv1).1
    unfold SV.row
    walk_at "dw"
    refine Run.up (sources_run hvo (g4.get (gs2.get hm)) fun S5 ns g5 hns => ?_)
    refine run_itAL hns ?_
    refine for_lstS (fun j r S' => Gw S5 S' ∧ (∀ k s, k < j → (srcs v)[k]? = some s → i = pre.length → s ≠ .str last.nm) ∧ ∃ a7 a8, r = [some (.ref S.length), some (.ref n), some (.ref S2.length), some (.int i), some (.str v.nm), some v.st, some (.ref m), a7, a8])
      ⟨Gw.refl, fun k s hk => by omega, _, _, rfl⟩ (fun j r S' z => z.1.get hns) (fun j r S6 s hj ⟨g6, hall, a7, a8, er⟩ => ?_) fun r S6 ⟨g6, hall, a7, a8, er⟩ => ?_
    · subst er
      obtain ⟨x, rfl, hx⟩ := srcs_str hvo (List.mem_of_getElem? hj)
      walk_at "dw"
      have hnm6 := g6.get (g5.get (g4.get hnm))
      refine (run_slL hnm6).mpr ?_
      rw [cut_from (by omega), Int.toNat_natCast, ← List.map_drop, ← List.map_drop]
      refine (run_memStrs last_get (fun t ht => ?_) (tx2_nm hx)).mpr ?_
      · obtain ⟨u, hu, rfl⟩ := List.mem_map.mp ht
        exact tx2_nm (ok.ok u (List.mem_of_mem_drop hu)).nm
      walk_at "dw"
      refine ite_bo (fun hB => ?_) (fun hB => ?_)
      · walk_at "dw"
        obtain ⟨t, ht, e⟩ := List.any_eq_true.mp hB
        obtain ⟨u, hu, rfl⟩ := List.mem_map.mp ht
        obtain rfl : u.nm = x := beq_iff_eq.mp e
        by_cases hip : i < pre.length
        · have hv2 : pre[i]? = some v := by rw [← hv1, List.getElem?_append_left hip]
          exact absurd rfl (ok.fwd i v hv2 _ (List.mem_of_getElem? hj) u hu)
        · have hii : i = pre.length := by omega
          subst hii
          have ev : v = last := by
            rw [List.getElem?_append_right (Nat.le_refl _)] at hv1
            simpa using hv1.symm
          subst ev
          have eu : u = v := by
            rw [List.drop_append_of_le_length (Nat.le_refl _), List.drop_length] at hu
            simpa using hu
          subst eu
          have hc : .str u.nm ∈ cps u.sp := by
            rcases List.mem_append.mp (List.mem_of_getElem? hj) with z | z
            · have := ok.st
              split at z
              · cases z
              · exact absurd (List.mem_singleton.mp z).symm this
            · exact z
          exact kE 2 "name" (.str u.nm) (by unfold recE; rw [if_pos (bad_of hc)]) _ ((((gs2.trans g4).trans g5).trans g6).trans Gw.one)
      · walk_at "dw"
        refine ⟨g6.trans Gw.one, fun k s hk hs hip => ?_, _, _, rfl⟩
        by_cases hkj : k = j
        · subst hkj
          rw [hj] at hs
          cases hs
          intro e
          have e2 : x = last.nm := by injection e
          subst hip
          have : ((((pre ++ [last]).drop pre.length).map (·.nm)).any (· == x)) = true := by
            rw [List.drop_append_of_le_length (Nat.le_refl _), List.drop_length]
            simp [e2]
          rw [this] at hB
          cases hB
        · exact hall k s (by omega) hs hip
    · subst er
      refine ⟨(g4.trans g5).trans g6, fun hip => ?_, _, _, _, _, _, _, rfl⟩
      have hip2 : i = pre.length := by omega
      cases hb : badB last.nm last.sp with
      | false => rfl
      | true =>
        have ev : v = last := by
          subst hip2
          rw [List.getElem?_append_right (Nat.le_refl _)] at hv1
          simpa using hv1.symm
        subst ev
        have hm : .str v.nm ∈ srcs v := List.mem_append_right _ (bad_to hb)
        obtain ⟨k, hk⟩ := List.getElem?_of_mem hm
        exact absurd rfl (hall k _ (List.getElem?_eq_some_iff.mp hk).1 hk hip2)
  · subst er
    have hbf := hb (by omega)
    have gs4 := gs2.trans g4
    walk_at "dw"
    refine run_itAL (gs4.get hn) ?_
    rw [size_lst (gs4.get hn)]
    refine comp2_lst (fun i acc S' => Gw S4 S' ∧ i ≤ ds.length ∧ acc.length = total ((pre ++ [last]).take i)) (fun i acc S' z => z.1.get (gs4.get hn)) (fun i acc S5 d hi ⟨g5, hil, ha⟩ => ?_) (fun acc S5 ⟨g5, hil, ha⟩ => ?_) ds.length 0 [] S4 (by omega) ⟨Gw.refl, Nat.zero_le _, by simp [total]⟩
    · obtain ⟨v, hv1, m, rfl, hm0, hm⟩ := hd.get hi
      have hvo := ok.ok v (List.mem_of_getElem? hv1)
      have hi2 := (List.getElem?_eq_some_iff.mp hi).1
      have t1 := total_le (vs := (pre ++ [last]).take i) fun u hu => ok.ok u (List.mem_of_mem_take hu)
      have t2 : ((pre ++ [last]).take i).length ≤ 3 := by rw [List.length_take]; omega
      have hvl := hvo.len
      unfold SV.row
      walk_at "dw"
      refine run_itAL (g5.get (gs4.get hm)) ?_
      refine comp_filterA (p := isRun) (f := id) (g5.get (gs4.get hm)) (by omega) (fun d S6 hdm g6 => ?_) fun S6 g6 => ?_
      · obtain ⟨w, x, l, rfl⟩ := stp_shape (hvo.sp d hdm)
        walk_at "dw"
        refine ⟨rfl, Gw.refl, fun _ => ?_⟩
        walk_at "dw"
        exact ⟨Gw.refl, rfl⟩
      · refine ⟨g5.trans g6, hi2, ?_⟩
        rw [total_take hv1, List.length_append, List.length_map, ha]
        rfl
    · walk_at "dw"
      refine (run_lenL last_get).mpr ?_
      walk_at "dw"
      have ht : total ((pre ++ [last]).take ds.length) = total (pre ++ [last]) := by rw [hdl, List.take_length]
      refine ite_b (fun hz => ?_) (fun hz => ?_)
      · walk_at "dw"
        exact kE 4 "limit" (.int 4) (by unfold recE; rw [if_neg (by rw [hbf]; exact Bool.false_ne_true), if_pos (by omega)]) _ ((gs4.trans g5).trans Gw.one)
      · walk_at "dw"
        have gs6 : Gw S (S5 ++ [O.lst acc]) := (gs4.trans g5).trans Gw.one
        have hself6 := (Gw.one (o := .lst acc)).get (g5.get (g4.get hself2))
        generalize S5 ++ [O.lst acc] = S6 at gs6 hself6
        refine run_itAL (gs6.get hn) ?_
        refine comp_pair (P := fun i d y S' => ∃ v, (pre ++ [last])[i]? = some v ∧ StAt (fun j => j = S.length ∨ A j) S' y v) (fun i d y S7 S8 g ⟨v, a, b⟩ => ⟨v, a, b.fr g.fa⟩) (gs6.get hn) (by omega) (fun i d S7 hi g7 => ?_) fun acc2 S7 g7 hl2 hP => ?_
        · obtain ⟨v, hv1, m, rfl, hm0, hm⟩ := hd.get hi
          unfold SV.row
          walk_at "dw"
          refine ⟨rfl, ?_⟩
          walk_at "dw"
          refine (run_listL (g7.get (gs6.get hm))).mpr ?_
          walk_at "dw"
          refine ⟨Gw.one, v, hv1, _, rfl, fun z => ?_, last_get⟩
          have l7 := (gs6.trans g7).len
          have l8 := get_lt (g7.get hself6)
          rcases z with z | z
          · omega
          · have := hA _ z; omega
        · walk_at "dw"
          have l7 := (gs6.trans g7).len
          have l8 := get_lt (g7.get hself6)
          refine (run_fsetD (Gw.one.get (g7.get hself6)) ⟨List.mem_singleton.mpr rfl, by decide⟩).mpr ?_
          walk_at "dw"
          have hset : FrA (fun j => j = S.length ∨ A j) (S7 ++ [O.lst acc2]) ((S7 ++ [O.lst acc2]).set S.length (.ins 8 (putD "stage_rows" (.ref S7.length) []))) := FrA.set (.inl rfl)
          have gfin : Gw S ((S7 ++ [O.lst acc2]).set S.length (.ins 8 (putD "stage_rows" (.ref S7.length) []))) := ((gs6.trans g7).trans Gw.one).set (Nat.le_refl _)
          refine ⟨rfl, kO (by unfold recE; rw [if_neg (by rw [hbf]; exact Bool.false_ne_true), if_neg (by omega)]) _ _ gfin (Nat.le_refl _) ⟨fun z => by have := hA _ z; omega, S7.length, List.getElem?_set_self (by simp; omega), fun z => by have := hA _ z; omega, acc2, ?_, ?_⟩⟩
          · rw [List.getElem?_set_ne (by omega)]
            exact last_get
          · have hL : StsL (fun j => j = S.length ∨ A j) (S7 ++ [O.lst acc2]) acc2 (pre ++ [last]) := ⟨by rw [hl2, hdl], fun i y v hy hv => by
              obtain ⟨d, hd2⟩ : ∃ d, ds[i]? = some d := ⟨ds[i]'(by rw [← hl2]; exact (List.getElem?_eq_some_iff.mp hy).1), List.getElem?_eq_getElem _⟩
              obtain ⟨v', a, b⟩ := hP i d y hd2 hy
              rw [hv] at a
              cases a
              exact b.fr Gw.one.fa⟩
            exact (hL.fr hset).wide fun i _ z => .inr z
end

open PySem PySem.Spec PyProof.Rows L2 DL
/-! ### a recipe's methods -/
section
variable {S : Sto} {QE : QX} {Q : D → Sto → Prop} {A A0 : Nat → Prop} {n m : Nat} {vs pre : List SV} {last v : SV}
theorem stages_run (hA : ∀ i, A i → i < S.length) (hl : vs.length ≤ 1000) (h : RcAt A0 S m vs) (k : ∀ S' n, Gw S S' → S.length ≤ n → StsAt A S' n vs → Q (.ref n) S') : Run (m_Recipe_stages [.ref m]) S Q := by
  obtain ⟨_, q, hm, _, ds, hn, hd⟩ := h
  have hdl := hd.1
  unfold m_Recipe_stages b_Recipe_stages
  walk_at "dw"
  refine (run_fldD hm (List.mem_singleton.mpr rfl) rfl).mpr ?_
  refine run_itAL hn ?_
  refine comp_pair (P := fun i d y S' => ∃ v, vs[i]? = some v ∧ StAt A S' y v) (fun i d y S7 S8 g ⟨v, a, b⟩ => ⟨v, a, b.fr g.fa⟩) hn (by omega) (fun i d S7 hi g7 => ?_) fun acc2 S7 g7 hl2 hP => ?_
  · obtain ⟨v, hv1, m, rfl, hm0, hm⟩ := hd.get hi
    unfold SV.row
    walk_at "dw"
    refine ⟨rfl, ?_⟩
    walk_at "dw"
    refine (run_listL (g7.get hm)).mpr ?_
    walk_at "dw"
    exact ⟨Gw.one, v, hv1, _, rfl, gone_new hA g7, last_get⟩
  · walk_at "dw"
    refine k _ _ (g7.trans Gw.one) g7.len ⟨gone_new hA g7, acc2, last_get, by rw [hl2, hdl], fun i y v hy hv => ?_⟩
    obtain ⟨d, hd2⟩ : ∃ d, ds[i]? = some d := ⟨ds[i]'(by rw [← hl2]; exact (List.getElem?_eq_some_iff.mp hy).1), List.getElem?_eq_getElem _⟩
    obtain ⟨v', a, b⟩ := hP i d y hd2 hy
    rw [hv] at a
    cases a
    exact b.fr Gw.one.fa
theorem stage_named_run {i : Nat} (h : RcAt A S m vs) (nd : (vs.map (·.nm)).Nodup) (hv : vs[i]? = some v) (k : ∀ d, StAt A S d v → Q d S) : Run (m_Recipe_stage_named [.ref m, .str v.nm]) S Q := by
  obtain ⟨_, q, hm, _, ds, hn, hd⟩ := h
  have hdl := hd.1
  have hiv := (List.getElem?_eq_some_iff.mp hv).1
  unfold m_Recipe_stage_named b_Recipe_stage_named
  walk_at "dw"
  refine (run_fldD hm (List.mem_singleton.mpr rfl) rfl).mpr ?_
  refine run_itAL hn ?_
  refine for_lstS (fun j r S' => S' = S ∧ j ≤ i ∧ ∃ a, r = [some (.ref m), some (.str v.nm), a]) ⟨rfl, Nat.zero_le _, _, rfl⟩ (fun j r S' z => by rw [z.1]; exact hn) (fun j r S' d hj ⟨eS, hji, a, er⟩ => ?_) fun r S' z => (by obtain ⟨_, hji, _⟩ := z; omega)
  subst eS; subst er
  obtain ⟨u, hu1, hu2⟩ := hd.get hj
  have hu3 := hu2
  obtain ⟨p, rfl, hp0, hp⟩ := hu2
  unfold SV.row
  walk_at "dw"
  by_cases hji2 : j = i
  · subst hji2
    rw [hv] at hu1
    cases hu1
    refine ite_tr (beq_self_eq_true _) ?_
    walk_at "dw"
    exact k _ hu3
  · refine ite_fr (beq_eq_false_iff_ne.mpr fun e => ?_) ?_
    · have e1 : (vs.map (·.nm))[j]? = some u.nm := by rw [List.getElem?_map, hu1]; rfl
      have e2 : (vs.map (·.nm))[i]? = some v.nm := by rw [List.getElem?_map, hv]; rfl
      have a := List.getElem?_eq_some_iff.mp e1
      have b := List.getElem?_eq_some_iff.mp e2
      exact List.pairwise_iff_getElem.mp nd j i a.1 b.1 (by omega) (a.2.trans (e.trans b.2.symm))
    · walk_at "dw"
      exact ⟨rfl, by omega, _, rfl⟩
theorem ins_row {c : Nat} {q : Nat} {x : Str} (h : S[m]? = some (.ins c [("stage_rows", .ref q)])) (hx : ("stage_rows" == x) = false) : ∃ fs, S[m]? = some (.ins c fs) ∧ fs.lookup x = none := ⟨_, h, by
  rw [List.lookup_cons]
  have : (x == Str.ofString "stage_rows") = false := by
    rw [Bool.eq_false_iff] at hx ⊢
    exact fun z => hx (by rw [beq_iff_eq.mp z]; exact beq_self_eq_true _)
  rw [this]
  rfl⟩
theorem steps_run {i : Nat} (h : RcAt A S m vs) (nd : (vs.map (·.nm)).Nodup) (hv : vs[i]? = some v) (k : ∀ S' n, Gw S S' → S.length ≤ n → S'[n]? = some (.lst v.sp) → Q (.ref n) S') : RunX (m_Recipe_steps [.ref m, .str v.nm]) S QE Q := by
  have h' := h
  obtain ⟨_, q, hm, _⟩ := h'
  obtain ⟨fs, hf, hl⟩ := ins_row (x := "stage_named") hm (by decide +kernel)
  unfold m_Recipe_steps b_Recipe_steps
  walk_at "dw"
  refine (run_insOk hf hl).mpr ?_
  walk_at "dw"
  refine Run.up (stage_named_run h nd hv fun d hd => ?_)
  obtain ⟨p, rfl, hp0, hp⟩ := hd
  unfold SV.row
  walk_at "dw"
  refine (run_listL hp).mpr ?_
  walk_at "dw"
  exact k _ _ Gw.one (Nat.le_refl _) last_get
theorem last_name_run (h : RcAt A S m (pre ++ [last])) (hl : pre.length ≤ 2) (k : ∀ S', Gw S S' → Q (.str last.nm) S') : RunX (m_last_name [.ref m]) S QE Q := by
  have h' := h
  obtain ⟨_, q, hm, _⟩ := h'
  obtain ⟨fs, hf, hlk⟩ := ins_row (x := "stages") hm (by decide +kernel)
  unfold m_last_name b_last_name
  walk_at "dw"
  refine (run_insOk hf hlk).mpr ?_
  walk_at "dw"
  refine Run.up (stages_run (A := fun _ => False) (fun _ z => z.elim) (by simp; omega) h fun S1 n g1 l1 hS => ?_)
  obtain ⟨_, ds, hn, hd⟩ := hS
  obtain ⟨ds', d, rfl⟩ : ∃ ds' d, ds = ds' ++ [d] := by
    have := hd.1
    rcases List.eq_nil_or_concat ds with e | ⟨a, b, e⟩
    · rw [e] at this; simp at this
    · exact ⟨a, b, by rw [e, List.concat_eq_append]⟩
  walk_at "dw"
  refine (run_ixL hn at_last).mpr ?_
  have hdl : ds'.length = pre.length := by have := hd.1; simpa using this
  obtain ⟨p, rfl, _, _⟩ := hd.2 ds'.length d last (by simp) (by rw [hdl]; simp)
  unfold SV.row
  walk_at "dw"
  exact k _ g1
theorem no_ref {x : Str} {y : D} {k : Nat} (h : Stp (.tup [.str x, y, .ref k])) : False := by
  cases h with
  | link hp ht => rcases ht with ⟨x, e, _⟩ | ⟨x, e, _⟩ <;> cases e
/-- with other steps in the last stage -/
def SV.withSp (v : SV) (sp : List D) : SV := ⟨v.nm, v.st, sp⟩
theorem with_steps_run {sp : List D} {p : Nat} (hA : ∀ i, A i → i < S.length) (ok : VsOk pre last) (ok2 : VsOk pre (last.withSp sp)) (h : RcAt A0 S m (pre ++ [last])) (hp : S[p]? = some (.lst sp))
    (kE : ∀ c f v, recE pre (last.withSp sp) = some (c, f, v) → ∀ S', Gw S S' → QE c [(f, v)] S')
    (kO : recE pre (last.withSp sp) = none → ∀ S' m, Gw S S' → S.length ≤ m → RcAt A S' m (pre ++ [last.withSp sp]) → Q (.ref m) S') : RunX (m_Recipe_with_steps [.ref m, .str last.nm, .ref p]) S QE Q := by
  have h' := h
  obtain ⟨_, q, hm, _, ds, hn, hd⟩ := h'
  have hdl := hd.1
  have hlo := ok2.lastOk
  have hpl := ok.l3
  have hlast : (pre ++ [last])[pre.length]? = some last := by simp
  unfold m_Recipe_with_steps b_Recipe_with_steps
  walk_at "dw"
  refine Run.up (isName_yes ok.lastOk.nm fun S1 g1 => ?_)
  walk_at "dw"
  refine Run.up (are_steps_run (g1.get hp) hlo.sp hlo.len fun S2 g2 => ?_)
  walk_at "dw"
  have gs2 := g1.trans g2
  refine (run_fldD (gs2.get hm) (List.mem_singleton.mpr rfl) rfl).mpr ?_
  refine run_itAL (gs2.get hn) ?_
  refine comp_filter (p := fun _ => true) (f := rowNm) (gs2.get hn) (by simp at hdl; omega) (fun d S3 hdm g3 => ?_) fun S3 g3 => ?_
  · obtain ⟨i, hi⟩ := List.getElem?_of_mem hdm
    obtain ⟨v, hv1, m, rfl, _, _⟩ := hd.get hi
    unfold SV.row
    walk_at "dw"
    refine ⟨rfl, Gw.refl, fun _ => ?_⟩
    walk_at "dw"
    exact ⟨Gw.refl, rfl⟩
  rw [filter_true_map, hd.nms]
  have gs3 := (gs2.trans g3).trans (Gw.one (o := .lst (((pre ++ [last]).map (·.nm)).map D.str)))
  have hnm : (S3 ++ [O.lst (((pre ++ [last]).map (·.nm)).map D.str)])[S3.length]? = some (.lst (((pre ++ [last]).map (·.nm)).map D.str)) := last_get
  refine ⟨tyD_lst hnm, ?_⟩
  generalize S3 ++ [O.lst (((pre ++ [last]).map (·.nm)).map D.str)] = S4 at gs3 hnm
  obtain ⟨fs, hf, hl⟩ := ins_row (x := "stage_named") hm (by decide +kernel)
  walk_at "dw"
  refine (run_insOk (gs3.get hf) hl).mpr ?_
  walk_at "dw"
  refine Run.up (stage_named_run (h.fr gs3.fa) ok.nd hlast fun d hd2 => ?_)
  obtain ⟨pl, rfl, hpl0, hpl1⟩ := hd2
  unfold SV.row
  walk_at "dw"
  have hix : ((pre ++ [last]).map (·.nm))[pre.length]? = some last.nm := by rw [List.getElem?_map, hlast]; rfl
  refine (run_indexS hnm (fun t ht => ?_) ok.nd hix).mpr ?_
  · obtain ⟨u, hu, rfl⟩ := List.mem_map.mp ht
    exact tx2_nm (ok.ok u hu).nm
  walk_at "dw"
  obtain ⟨fs2, hf2, hl2⟩ := ins_row (x := "stages") hm (by decide +kernel)
  refine (run_insOk (gs3.get hf2) hl2).mpr ?_
  walk_at "dw"
  refine Run.up (stages_run (A := fun _ => False) (fun _ z => z.elim) (by simp; omega) (h.fr gs3.fa) fun S5 nn g5 l5 hS5 => ?_)
  obtain ⟨_, es, hes, hed⟩ := hS5
  have gs5 := gs3.trans g5
  obtain ⟨es', e, rfl⟩ : ∃ es' e, es = es' ++ [e] := by
    have := hed.1
    rcases List.eq_nil_or_concat es with e | ⟨a, b, e⟩
    · rw [e] at this; simp at this
    · exact ⟨a, b, by rw [e, List.concat_eq_append]⟩
  have hel : es'.length = pre.length := by have := hed.1; simpa using this
  obtain ⟨pe, rfl, _, hpe⟩ := hed.2 es'.length e last (by simp) (by rw [hel]; simp)
  have hix2 : (es' ++ [last.row pe])[pre.length]? = some (last.row pe) := by rw [← hel]; simp
  walk_at "dw"
  refine (run_ixL hes (at_nat hix2)).mpr ?_
  unfold SV.row
  walk_at "dw"
  refine (run_listL (gs5.get hp)).mpr ?_
  walk_at "dw"
  have hlt : nn < S5.length := get_lt hes
  refine (run_setL (j := pre.length) (Gw.one.get hes) (ixN_nat (by simp [hel]))).mpr ?_
  walk_at "dw"
  have eset : (es' ++ [last.row pe]).set pre.length (.tup [.str last.nm, last.st, .ref S5.length]) = es' ++ [(last.withSp sp).row S5.length] := by
    rw [← hel, List.set_append_right _ _ (Nat.le_refl _)]
    simp
    rfl
  have gs6 : Gw S ((S5 ++ [O.lst sp]).set nn (.lst (es' ++ [(last.withSp sp).row S5.length]))) := (gs5.trans Gw.one).set (by have := gs3.len; omega)
  have hA6 : ∀ i, A i → i < ((S5 ++ [O.lst sp]).set nn (.lst (es' ++ [(last.withSp sp).row S5.length]))).length := fun i hi => Nat.lt_of_lt_of_le (hA i hi) gs6.len
  have fr6 : FrA (fun j => j = nn) (S5 ++ [O.lst sp]) ((S5 ++ [O.lst sp]).set nn (.lst (es' ++ [(last.withSp sp).row S5.length]))) := FrA.set rfl
  have hst : StsAt (fun _ => False) ((S5 ++ [O.lst sp]).set nn (.lst (es' ++ [(last.withSp sp).row S5.length]))) nn (pre ++ [last.withSp sp]) := by
    refine ⟨fun z => z, _, List.getElem?_set_self (by simp; omega), StsL.app ⟨hel, fun i d v a b => ?_⟩ (StsL.one ⟨S5.length, rfl, fun z => z, ?_⟩)⟩
    · have hi := (List.getElem?_eq_some_iff.mp b).1
      obtain ⟨mm, rfl, _, hmm⟩ := hed.2 i d v (by rw [List.getElem?_append_left (by omega)]; exact a) (by rw [List.getElem?_append_left hi]; exact b)
      refine ⟨mm, rfl, fun z => z, ?_⟩
      have ne : mm ≠ nn := fun z => by
        subst z
        rw [hes] at hmm
        injection hmm with e1
        injection e1 with e2
        have hsz := congrArg List.length e2
        have : ∀ x ∈ v.sp, Stp x := (ok.ok v (by simp [List.mem_of_getElem? b])).sp
        exact no_ref (this (last.row pe) (by rw [← e2]; simp))
      rw [List.getElem?_set_ne (Ne.symm ne)]
      exact Gw.one.get hmm
    · rw [List.getElem?_set_ne (by omega)]
      exact last_get
  rw [eset]
  exact recipe_run hA6 ok2 hst (fun c f v e S' g => kE c f v e S' (gs6.trans g)) fun e S' m' g l hR => kO e S' m' (gs6.trans g) (Nat.le_trans gs6.len l) hR
end

open PySem PySem.Spec PyProof.Rows L2 DL
/-! ### deeds -/
structure DeedF (d : D) (w : Str) (at_ : Int) (l : List D) : Prop where
  e : d = .tup (.str w :: .int at_ :: l)
  h0 : 0 ≤ at_
  h1 : at_ < 10 ^ 39
  st : ∀ x ∈ l, Stp x
  w : (w = "lose" ∧ l = []) ∨ ((w = "change" ∨ w = "put") ∧ ∃ s, l = [s])
def isPut (w : Str) : Bool := w == "put"
def later (sp : List D) (p : Bool) (at_ : Int) (l : List D) : List D := sp.take at_.toNat ++ l ++ sp.drop (at_.toNat + if p = true then 0 else 1)
def outE (pre : List SV) (last : SV) (p : Bool) (at_ : Int) (l : List D) : Option (Nat × Str × D) :=
  if (last.sp.length : Int) < at_ ∨ (at_ = last.sp.length ∧ p = false) then some (3, "at", .int at_)
  else if p = true ∧ last.sp.length = 8 then some (4, "limit", .int 8)
  else recE pre (last.withSp (later last.sp p at_ l))
theorem DeedF.len {d : D} {w : Str} {at_ : Int} {l : List D} (h : DeedF d w at_ l) : l.length ≤ 1 ∧ (isPut w = true → l.length = 1) := by
  rcases h.w with ⟨e, rfl⟩ | ⟨e, s, rfl⟩
  · subst e
    exact ⟨by decide, fun z => absurd z (by decide +kernel)⟩
  · exact ⟨Nat.le_refl 1, fun _ => rfl⟩
theorem VsOk.withOk {pre : List SV} {last : SV} {sp : List D} (h : VsOk pre last) (h1 : ∀ d ∈ sp, Stp d) (h2 : sp.length ≤ 8) : VsOk pre (last.withSp sp) := by
  refine ⟨fun v hv => ?_, ?_, h.l3, fun i v hv s hs u hu => ?_, h.st⟩
  · rcases List.mem_append.mp hv with hv | hv
    · exact h.ok v (List.mem_append_left _ hv)
    · rw [List.mem_singleton.mp hv]
      exact ⟨h.lastOk.nm, h.lastOk.st, h1, h2⟩
  · have := h.nd
    simp only [List.map_append, List.map_cons, List.map_nil] at this ⊢
    exact this
  · have hi : i < pre.length := (List.getElem?_eq_some_iff.mp hv).1
    rw [List.drop_append_of_le_length (by omega)] at hu
    have k := h.fwd i v hv s hs
    rw [List.drop_append_of_le_length (by omega)] at k
    rcases List.mem_append.mp hu with hu | hu
    · exact k u (List.mem_append_left _ hu)
    · rw [List.mem_singleton.mp hu]
      exact k last (by simp)
theorem later_ok {pre : List SV} {last : SV} {d : D} {w : Str} {at_ : Int} {l : List D} (ok : VsOk pre last) (h : DeedF d w at_ l) (n1 : ¬ ((last.sp.length : Int) < at_ ∨ (at_ = last.sp.length ∧ isPut w = false))) (n2 : ¬ (isPut w = true ∧ last.sp.length = 8)) : VsOk pre (last.withSp (later last.sp (isPut w) at_ l)) := by
  have hl := ok.lastOk.len
  have ⟨l1, l2⟩ := h.len
  have h0 := h.h0
  refine ok.withOk (fun x hx => ?_) ?_
  · unfold later at hx
    rcases List.mem_append.mp hx with hx | hx
    · rcases List.mem_append.mp hx with hx | hx
      · exact ok.lastOk.sp x (List.mem_of_mem_take hx)
      · exact h.st x hx
    · exact ok.lastOk.sp x (List.mem_of_mem_drop hx)
  · unfold later
    simp only [List.length_append, List.length_take, List.length_drop]
    cases hp : isPut w with
    | true =>
      have := l2 hp
      rw [if_pos rfl]
      have : last.sp.length ≠ 8 := fun z => n2 ⟨hp, z⟩
      omega
    | false =>
      rw [if_neg Bool.false_ne_true]
      have : at_ ≠ last.sp.length := fun z => n1 (.inr ⟨z, hp⟩)
      have : ¬ (last.sp.length : Int) < at_ := fun z => n1 (.inl z)
      omega
section
variable {S : Sto} {QE : QX} {Q : D → Sto → Prop} {A A0 : Nat → Prop} {n m : Nat} {pre : List SV} {last : SV} {d : D} {w : Str} {at_ : Int} {l : List D}
theorem changed_run (hA : ∀ i, A i → i < S.length) (ok : VsOk pre last) (h : RcAt A0 S m (pre ++ [last])) (dd : DeedF d w at_ l)
    (kE : ∀ c f v, outE pre last (isPut w) at_ l = some (c, f, v) → ∀ S', Gw S S' → QE c [(f, v)] S')
    (kO : outE pre last (isPut w) at_ l = none → ∀ S' m', Gw S S' → S.length ≤ m' → RcAt A S' m' (pre ++ [last.withSp (later last.sp (isPut w) at_ l)]) → Q (.ref m') S') : RunX (m_changed [.ref m, d]) S QE Q := by
  obtain ⟨hll1, hll2⟩ := dd.len
  have h' := h
  obtain ⟨_, q, hm, _⟩ := h'
  have hlo := ok.lastOk
  have hsl := hlo.len
  have hlast : (pre ++ [last])[pre.length]? = some last := by simp
  have ed := dd.e
  subst ed
  have h0 := dd.h0
  unfold m_changed b_changed c_MOST_STEPS
  refine run_fn.mpr ?_
  walk_at "dw"
  refine last_name_run h ok.l3 fun S1 g1 => ?_
  walk_at "dw"
  refine run_par3.mpr ?_
  obtain ⟨fs, hf, hlk⟩ := ins_row (x := "steps") hm (by decide +kernel)
  walk_at "dw"
  refine (run_insOk (g1.get hf) hlk).mpr ?_
  walk_at "dw"
  refine steps_run (h.fr g1.fa) ok.nd hlast fun S2 n2 g2 l2 hS2 => ?_
  have gs2 := g1.trans g2
  walk_at "dw"
  refine (run_lenL hS2).mpr ?_
  walk_at "dw"
  have step : ∀ b : Prop, b → ((last.sp.length : Int) < at_ ∨ (at_ = last.sp.length ∧ isPut w = false)) → ∀ S', Gw S S' → QE 3 [("at", .int at_)] S' := fun b _ z S' g => kE 3 "at" (.int at_) (by unfold outE; rw [if_pos z]) S' g
  have rest : ¬ ((last.sp.length : Int) < at_ ∨ (at_ = last.sp.length ∧ isPut w = false)) → RunX (seqM (ifS (andT (tstM (getv 5)) (tstM (binM eqD (clM lenD (consA (getv 3) (nilA))) (cst (.int 8))))) (raiseM 4 "limit" (cst (.int 8))) (nxM))
    (retM (methM 8 "with_steps" (m_Recipe_with_steps) (getv 0) (consA (getv 2) (consA (binM addD (binM addD (slM (getv 3) (noP) (someP (getv 4))) (clM listD (consA (slM (getv 1) (someP (cst (.int 2))) (noP)) (nilA)))) (slM (getv 3) (someP (binM addD (getv 4) (clM intD (consA (notV (getv 5)) (nilA))))) (noP))) (nilA)))))
      [some (.ref m), some (.tup (.str w :: .int at_ :: l)), some (.str last.nm), some (.ref n2), some (.int at_), some (.bl (isPut w))]) S2 QE (onRet Q) := fun n1 => by
    have after : ¬ (isPut w = true ∧ last.sp.length = 8) → RunX (retM (methM 8 "with_steps" (m_Recipe_with_steps) (getv 0) (consA (getv 2) (consA (binM addD (binM addD (slM (getv 3) (noP) (someP (getv 4))) (clM listD (consA (slM (getv 1) (someP (cst (.int 2))) (noP)) (nilA)))) (slM (getv 3) (someP (binM addD (getv 4) (clM intD (consA (notV (getv 5)) (nilA))))) (noP))) (nilA))))
      [some (.ref m), some (.tup (.str w :: .int at_ :: l)), some (.str last.nm), some (.ref n2), some (.int at_), some (.bl (isPut w))]) S2 QE (onRet Q) := fun n2' => by
      have ok2 := later_ok ok dd n1 n2'
      have eo : outE pre last (isPut w) at_ l = recE pre (last.withSp (later last.sp (isPut w) at_ l)) := by unfold outE; rw [if_neg n1, if_neg n2']
      obtain ⟨fs, hf, hlk⟩ := ins_row (x := "with_steps") hm (by decide +kernel)
      walk_at "dw"
      refine (run_insOk (gs2.get hf) hlk).mpr ?_
      walk_at "dw"
      refine (run_slL hS2).mpr ?_
      walk_at "dw"
      refine run_slT.mpr ?_
      walk_at "dw"
      refine run_listT.mpr ?_
      rw [cut_to h0, cut_from (by decide : (0 : Int) ≤ 2)]
      have sz := small_len (n := 1000) (by decide)
      refine (run_addL (Gw.one.get last_get) last_get (by simp only [List.length_take]; show _ + l.length ≤ _; omega)).mpr ?_
      walk_at "dw"
      have i01 : (0 : Int) ≤ if (!isPut w) = true then 1 else 0 := by split <;> decide
      refine (run_slL (Gw.one.get (Gw.one.get (Gw.one.get hS2)))).mpr ?_
      rw [cut_from (by omega)]
      refine (run_addL (Gw.one.get last_get) last_get (by simp only [List.length_append, List.length_take, List.length_drop]; show _ + l.length + _ ≤ _; omega)).mpr ?_
      walk_at "dw"
      have e1 : (last.sp.take at_.toNat ++ (D.str w :: .int at_ :: l).drop (Int.toNat 2)) ++ last.sp.drop (at_ + if (!isPut w) = true then 1 else 0).toNat = later last.sp (isPut w) at_ l := by
        unfold later
        show (last.sp.take at_.toNat ++ l) ++ _ = _
        have e2 : (at_ + if (!isPut w) = true then 1 else 0).toNat = at_.toNat + if isPut w = true then 0 else 1 := by
          cases isPut w <;> simp <;> omega
        rw [e2]
      rw [e1]
      have g5 : Gw S (((((S2 ++ [O.lst (last.sp.take at_.toNat)]) ++ [O.lst ((D.str w :: .int at_ :: l).drop (Int.toNat 2))]) ++ [O.lst (last.sp.take at_.toNat ++ (D.str w :: .int at_ :: l).drop (Int.toNat 2))]) ++ [O.lst (last.sp.drop (at_ + if (!isPut w) = true then 1 else 0).toNat)]) ++ [O.lst (later last.sp (isPut w) at_ l)]) := ((((gs2.trans Gw.one).trans Gw.one).trans Gw.one).trans Gw.one).trans Gw.one
      exact with_steps_run (fun i hi => Nat.lt_of_lt_of_le (hA i hi) g5.len) ok ok2 (h.fr g5.fa) last_get (fun c f v e S' g => kE c f v (eo.trans e) S' (g5.trans g)) fun e S' m' g hm' hR => kO (eo.trans e) S' m' (g5.trans g) (Nat.le_trans g5.len hm') hR
    walk_at "dw"
    refine ite_bo (fun hp => ?_) (fun hp => ?_)
    · walk_at "dw"
      refine (run_lenL hS2).mpr ?_
      walk_at "dw"
      refine ite_eq (fun hz => ?_) (fun hz => ?_)
      · walk_at "dw"
        exact kE 4 "limit" (.int 8) (by unfold outE; rw [if_neg n1, if_pos ⟨hp, by omega⟩]) _ gs2
      · refine run_nx.mpr (on_nx.mpr ?_)
        exact after fun z => hz (by omega)
    · refine ite_fr rfl ?_
      refine run_nx.mpr (on_nx.mpr ?_)
      exact after fun z => by rw [hp] at z; exact Bool.false_ne_true z.1
  refine ite_b (fun hz => ?_) (fun hz => ?_)
  · walk_at "dw"
    exact step True trivial (.inl hz) _ gs2
  · walk_at "dw"
    refine (run_lenL hS2).mpr ?_
    walk_at "dw"
    refine ite_eq (fun hz2 => ?_) (fun hz2 => ?_)
    · walk_at "dw"
      refine ite_bo (fun hp => ?_) (fun hp => ?_)
      · walk_at "dw"
        exact step True trivial (.inr ⟨hz2, not_t hp⟩) _ gs2
      · refine run_nx.mpr (on_nx.mpr ?_)
        refine rest ?_
        rintro (z | ⟨_, z⟩)
        · exact hz z
        · rw [show (w == "put") = isPut w from rfl, z] at hp
          cases hp
    · refine ite_fr rfl ?_
      refine run_nx.mpr (on_nx.mpr ?_)
      refine rest ?_
      rintro (z | ⟨z, _⟩)
      · exact hz z
      · exact hz2 z
end

open PySem PySem.Spec PyProof.Rows L2 DL
/-! ### books -/
abbrev bkF (r d u c : Nat) : List (Str × D) := [("recipes_kept", .ref r), ("deeds", .ref d), ("undone", .ref u), ("own_cache", .ref c)]
structure BkAt (S : Sto) (k r d u c : Nat) (rs ds : List D) : Prop where
  bk : S[k]? = some (.ins 10 (bkF r d u c))
  rc : S[r]? = some (.lst rs)
  dd : S[d]? = some (.lst ds)
theorem lk_r {r d u c : Nat} : (bkF r d u c).lookup ("recipes_kept" : Str) = some (D.ref r) := rfl
theorem lk_d {r d u c : Nat} : (bkF r d u c).lookup ("deeds" : Str) = some (D.ref d) := rfl
theorem lk_u {r d u c : Nat} : (bkF r d u c).lookup ("undone" : Str) = some (D.ref u) := rfl
theorem lk_no {r d u c : Nat} {x : Str} (h1 : (x == "recipes_kept") = false) (h2 : (x == "deeds") = false) (h3 : (x == "undone") = false) (h4 : (x == "own_cache") = false) : (bkF r d u c).lookup x = none := by
  simp only [bkF, List.lookup_cons, h1, h2, h3, h4]
  rfl
section
variable {S : Sto} {QE : QX} {Q : D → Sto → Prop} {A A0 : Nat → Prop} {n m k r d u c : Nat} {pre : List SV} {last : SV} {e : D} {w : Str} {at_ : Int} {l rs ds : List D} {fs : List (Str × D)}
theorem book_init_run (hm : S[m]? = some (.ins 8 fs)) (hk : ∀ S' k r d u c, Gw S S' → S.length ≤ k → S.length ≤ r → S.length ≤ d → r ≠ d → k ≠ r → k ≠ d → BkAt S' k r d u c [.ref m] [] → Q (.ref k) S') : RunX (mkM 10 m_Book___init__ [.ref m]) S QE Q := by
  refine run_mk ?_
  have h1 : (S ++ [O.ins 10 []])[S.length]? = some (.ins 10 []) := last_get
  have g1 : Gw S (S ++ [O.ins 10 []]) := Gw.one
  unfold m_Book___init__ b_Book___init__
  walk_at "dw"
  refine (run_isoI (g1.get hm) rfl).mpr ?_
  walk_at "dw"
  generalize S ++ [O.ins 10 []] = S1 at h1 g1
  have l1 : S.length < S1.length := get_lt h1
  refine (run_fsetD (Gw.one.get h1) ⟨List.mem_singleton.mpr rfl, Nat.le_of_ble_eq_true rfl⟩).mpr ?_
  have h2 : ((S1 ++ [O.lst [.ref m]]).set S.length (.ins 10 (putD "recipes_kept" (.ref S1.length) [])))[S.length]? = some (.ins 10 [("recipes_kept", .ref S1.length)]) := List.getElem?_set_self (by simp; omega)
  have r2 : ((S1 ++ [O.lst [.ref m]]).set S.length (.ins 10 (putD "recipes_kept" (.ref S1.length) [])))[S1.length]? = some (.lst [.ref m]) := by rw [List.getElem?_set_ne (by omega)]; exact last_get
  have g2 : Gw S ((S1 ++ [O.lst [.ref m]]).set S.length (.ins 10 (putD "recipes_kept" (.ref S1.length) []))) := (g1.trans Gw.one).set (Nat.le_refl _)
  have l2 : ((S1 ++ [O.lst [.ref m]]).set S.length (.ins 10 (putD "recipes_kept" (.ref S1.length) []))).length = S1.length + 1 := by simp
  generalize (S1 ++ [O.lst [.ref m]]).set S.length (.ins 10 (putD "recipes_kept" (.ref S1.length) [])) = S2 at h2 r2 g2 l2
  walk_at "dw"
  refine (run_fsetD (Gw.one.get h2) ⟨List.mem_singleton.mpr rfl, Nat.le_of_ble_eq_true rfl⟩).mpr ?_
  have h3 : ((S2 ++ [O.lst []]).set S.length (.ins 10 (putD "deeds" (.ref S2.length) [("recipes_kept", .ref S1.length)])))[S.length]? = some (.ins 10 [("recipes_kept", .ref S1.length), ("deeds", .ref S2.length)]) := List.getElem?_set_self (by simp; omega)
  have r3 : ((S2 ++ [O.lst []]).set S.length (.ins 10 (putD "deeds" (.ref S2.length) [("recipes_kept", .ref S1.length)])))[S1.length]? = some (.lst [.ref m]) := by rw [List.getElem?_set_ne (by omega)]; exact Gw.one.get r2
  have d3 : ((S2 ++ [O.lst []]).set S.length (.ins 10 (putD "deeds" (.ref S2.length) [("recipes_kept", .ref S1.length)])))[S2.length]? = some (.lst []) := by rw [List.getElem?_set_ne (by omega)]; exact last_get
  have g3 : Gw S ((S2 ++ [O.lst []]).set S.length (.ins 10 (putD "deeds" (.ref S2.length) [("recipes_kept", .ref S1.length)]))) := (g2.trans Gw.one).set (Nat.le_refl _)
  have l3 : ((S2 ++ [O.lst []]).set S.length (.ins 10 (putD "deeds" (.ref S2.length) [("recipes_kept", .ref S1.length)]))).length = S2.length + 1 := by simp
  generalize (S2 ++ [O.lst []]).set S.length (.ins 10 (putD "deeds" (.ref S2.length) [("recipes_kept", .ref S1.length)])) = S3 at h3 r3 d3 g3 l3
  walk_at "dw"
  refine (run_fsetD (Gw.one.get h3) ⟨List.mem_singleton.mpr rfl, Nat.le_of_ble_eq_true rfl⟩).mpr ?_
  have h4 : ((S3 ++ [O.lst []]).set S.length (.ins 10 (putD "undone" (.ref S3.length) [("recipes_kept", .ref S1.length), ("deeds", .ref S2.length)])))[S.length]? = some (.ins 10 [("recipes_kept", .ref S1.length), ("deeds", .ref S2.length), ("undone", .ref S3.length)]) := List.getElem?_set_self (by simp; omega)
  have r4 : ((S3 ++ [O.lst []]).set S.length (.ins 10 (putD "undone" (.ref S3.length) [("recipes_kept", .ref S1.length), ("deeds", .ref S2.length)])))[S1.length]? = some (.lst [.ref m]) := by rw [List.getElem?_set_ne (by omega)]; exact Gw.one.get r3
  have d4 : ((S3 ++ [O.lst []]).set S.length (.ins 10 (putD "undone" (.ref S3.length) [("recipes_kept", .ref S1.length), ("deeds", .ref S2.length)])))[S2.length]? = some (.lst []) := by rw [List.getElem?_set_ne (by omega)]; exact Gw.one.get d3
  have g4 : Gw S ((S3 ++ [O.lst []]).set S.length (.ins 10 (putD "undone" (.ref S3.length) [("recipes_kept", .ref S1.length), ("deeds", .ref S2.length)]))) := (g3.trans Gw.one).set (Nat.le_refl _)
  have l4 : ((S3 ++ [O.lst []]).set S.length (.ins 10 (putD "undone" (.ref S3.length) [("recipes_kept", .ref S1.length), ("deeds", .ref S2.length)]))).length = S3.length + 1 := by simp
  generalize (S3 ++ [O.lst []]).set S.length (.ins 10 (putD "undone" (.ref S3.length) [("recipes_kept", .ref S1.length), ("deeds", .ref S2.length)])) = S4 at h4 r4 d4 g4 l4
  walk_at "dw"
  refine run_mk ?_
  unfold m_Cache___init__ b_Cache___init__
  walk_at "dw"
  refine run_dnew.mpr ?_
  walk_at "dw"
  have c4 : ((S4 ++ [O.ins 9 []]) ++ [O.dK []])[S4.length]? = some (.ins 9 []) := Gw.one.get last_get
  refine (run_fsetD c4 ⟨List.mem_singleton.mpr rfl, Nat.le_of_ble_eq_true rfl⟩).mpr ?_
  walk_at "dw"
  refine ⟨rfl, ?_⟩
  have l5 : (((S4 ++ [O.ins 9 []]) ++ [O.dK []]).set S4.length (.ins 9 (putD "kept_pairs" (.ref (S4 ++ [O.ins 9 []]).length) []))).length = S4.length + 2 := by simp
  have gw5 : Gw S4 (((S4 ++ [O.ins 9 []]) ++ [O.dK []]).set S4.length (.ins 9 (putD "kept_pairs" (.ref (S4 ++ [O.ins 9 []]).length) []))) := (Gw.one.trans Gw.one).set (Nat.le_refl _)
  generalize ((S4 ++ [O.ins 9 []]) ++ [O.dK []]).set S4.length (.ins 9 (putD "kept_pairs" (.ref (S4 ++ [O.ins 9 []]).length) [])) = S5 at l5 gw5
  walk_at "dw"
  refine (run_fsetD (gw5.get h4) ⟨List.mem_singleton.mpr rfl, Nat.le_of_ble_eq_true rfl⟩).mpr ?_
  walk_at "dw"
  refine ⟨rfl, hk _ S.length S1.length S2.length S3.length S4.length ((g4.trans gw5).set (Nat.le_refl _)) (Nat.le_refl _) (by omega) (by omega) (by omega) (by omega) (by omega) ⟨List.getElem?_set_self (by omega), ?_, ?_⟩⟩
  · rw [List.getElem?_set_ne (by omega)]; exact gw5.get r4
  · rw [List.getElem?_set_ne (by omega)]; exact gw5.get d4
theorem is_deed_run (dd : DeedF e w at_ l) (hk : ∀ S', Gw S S' → Q (.bl true) S') : Run (m_is_deed [e]) S Q := by
  have h0 := dd.h0
  have ed := dd.e
  subst ed
  have hi : decide (at_ < 0) = false := decide_eq_false (by omega)
  unfold m_is_deed b_is_deed m_is_integer b_is_integer m_is_word b_is_word
  rcases dd.w with ⟨rfl, rfl⟩ | ⟨hw, s, rfl⟩
  · walk_at "dw"
    refine ⟨_, rfl, ?_⟩
    walk_at "dw"
    refine (run_nin2 (by simp) (by decide) (by decide)).mpr ?_
    walk_at "dw"
    refine ⟨_, rfl, ?_⟩
    walk_at "dw"
    refine ⟨_, rfl, ?_⟩
    walk_at "dw"
    refine ite_fr hi ?_
    walk_at "dw"
    refine ⟨_, rfl, ?_⟩
    walk_at "dw"
    exact hk _ Gw.refl
  · have e2 : atI [D.str w, .int at_, s] 2 = some s := rfl
    have hs := dd.st s (by simp)
    walk_at "dw"
    refine ⟨_, rfl, ?_⟩
    walk_at "dw"
    refine (run_nin2 (by simp) (by decide) (by decide)).mpr ?_
    walk_at "dw"
    refine ⟨_, rfl, ?_⟩
    walk_at "dw"
    refine ⟨_, rfl, ?_⟩
    walk_at "dw"
    refine ite_fr hi ?_
    walk_at "dw"
    refine ⟨_, rfl, ?_⟩
    walk_at "dw"
    rcases hw with rfl | rfl
    · refine ite_fr (by decide +kernel) ?_
      walk_at "dw"
      refine ⟨_, rfl, ?_⟩
      walk_at "dw"
      first
        | exact isStep_yes hs hk
        | (refine ite_tr (by decide +kernel) ?_; walk_at "dw"; exact isStep_yes hs hk)
    · first
        | exact isStep_yes hs hk
        | (refine ite_tr (by decide +kernel) ?_; walk_at "dw"; exact isStep_yes hs hk)
theorem book_recipe_run {x : D} (b : S[k]? = some (.ins 10 (bkF r d u c))) (hr : S[r]? = some (.lst (rs ++ [x]))) (hk : Q x S) : RunX (m_Book_recipe [.ref k]) S QE Q := by
  unfold m_Book_recipe b_Book_recipe
  walk_at "dw"
  refine (run_fldD b (List.mem_singleton.mpr rfl) lk_r).mpr ?_
  walk_at "dw"
  exact (run_ixL hr at_last).mpr hk
theorem book_first_run {x : D} (b : S[k]? = some (.ins 10 (bkF r d u c))) (hr : S[r]? = some (.lst (x :: rs))) (hk : Q x S) : RunX (m_Book_first [.ref k]) S QE Q := by
  unfold m_Book_first b_Book_first
  walk_at "dw"
  refine (run_fldD b (List.mem_singleton.mpr rfl) lk_r).mpr ?_
  walk_at "dw"
  exact (run_ixL hr at0).mpr hk
theorem book_log_run (b : S[k]? = some (.ins 10 (bkF r d u c))) (hd : S[d]? = some (.lst ds)) (hk : ∀ S', Gw S S' → S'[S.length]? = some (.lst ds) → Q (.ref S.length) S') : RunX (m_Book_log [.ref k]) S QE Q := by
  unfold m_Book_log b_Book_log
  walk_at "dw"
  refine (run_fldD b (List.mem_singleton.mpr rfl) lk_d).mpr ?_
  walk_at "dw"
  refine (run_listL hd).mpr ?_
  walk_at "dw"
  exact hk _ Gw.one last_get
theorem book_len_run (b : S[k]? = some (.ins 10 (bkF r d u c))) (hd : S[d]? = some (.lst ds)) (hk : Q (.int ds.length) S) : RunX (m_Book___len__ [.ref k]) S QE Q := by
  unfold m_Book___len__ b_Book___len__
  walk_at "dw"
  refine (run_fldD b (List.mem_singleton.mpr rfl) lk_d).mpr ?_
  walk_at "dw"
  refine (run_lenL hd).mpr ?_
  walk_at "dw"
  exact hk
theorem do_run {rs0 : List D} (hA : ∀ i, A i → i < S.length) (hAk : A k) (hAr : A r) (hAd : A d) (hrd : r ≠ d) (hkr : k ≠ r) (hkd : k ≠ d) (b : BkAt S k r d u c (rs0 ++ [.ref m]) ds) (hR : RcAt A S m (pre ++ [last])) (ok : VsOk pre last) (dd : DeedF e w at_ l) (hlen : ds.length < 100) (hrl : rs0.length ≤ 200)
    (kE : ∀ c f v, outE pre last (isPut w) at_ l = some (c, f, v) → ∀ S', Gw S S' → QE c [(f, v)] S')
    (kO : outE pre last (isPut w) at_ l = none → ∀ S' m' u' x, FrA (fun j => j = k ∨ j = r ∨ j = d) S S' → BkAt S' k r d u' c ((rs0 ++ [.ref m]) ++ [.ref m']) (ds ++ [e]) → S.length ≤ m' → RcAt A S' m' (pre ++ [last.withSp (later last.sp (isPut w) at_ l)]) →
      (if isPut w = true then x = .non else last.sp[at_.toNat]? = some x) → Q x S') : RunX (m_Book_do [.ref k, e]) S QE Q := by
  have ed := dd.e
  have h0 := dd.h0
  have hlast : (pre ++ [last])[pre.length]? = some last := by simp
  have sz := small_len (n := 1000) (by decide)
  unfold m_Book_do b_Book_do c_MOST_DEEDS
  walk_at "dw"
  refine Run.up (is_deed_run dd fun S1 g1 => ?_)
  walk_at "dw"
  refine (run_fldD (g1.get b.bk) (List.mem_singleton.mpr rfl) lk_d).mpr ?_
  walk_at "dw"
  refine (run_lenL (g1.get b.dd)).mpr ?_
  walk_at "dw"
  refine ite_eq (fun hz => by omega) (fun _ => ?_)
  walk_at "dw"
  refine (run_insOk (g1.get b.bk) (lk_no (by decide +kernel) (by decide +kernel) (by decide +kernel) (by decide +kernel))).mpr ?_
  walk_at "dw"
  refine book_recipe_run (g1.get b.bk) (g1.get b.rc) ?_
  walk_at "dw"
  refine (run_fldD (g1.get b.bk) (List.mem_singleton.mpr rfl) lk_r).mpr ?_
  refine ⟨tyD_lst (g1.get b.rc), ?_⟩
  walk_at "dw"
  refine changed_run (A := A) (fun i hi => Nat.lt_of_lt_of_le (hA i hi) g1.len) ok (hR.fr g1.fa) dd (fun c f v z S' g => kE c f v z S' (g1.trans g)) fun hn S2 m2 g2 hm2 hR2 => ?_
  have gs2 := g1.trans g2
  walk_at "dw"
  have b2k := gs2.get b.bk
  have b2r := gs2.get b.rc
  have b2d := gs2.get b.dd
  refine (run_append b2r (by simp; omega)).mpr ?_
  walk_at "dw"
  have f3 : FrA (fun j => j = k ∨ j = r ∨ j = d) S (S2.set r (.lst ((rs0 ++ [.ref m]) ++ [.ref m2]))) := gs2.fa.trans (FrA.set (.inr (.inl rfl)))
  have fA3 : FrA A S2 (S2.set r (.lst ((rs0 ++ [.ref m]) ++ [.ref m2]))) := FrA.set hAr
  have b3k : (S2.set r (.lst ((rs0 ++ [.ref m]) ++ [.ref m2])))[k]? = some (.ins 10 (bkF r d u c)) := by rw [List.getElem?_set_ne (Ne.symm hkr)]; exact b2k
  have b3r : (S2.set r (.lst ((rs0 ++ [.ref m]) ++ [.ref m2])))[r]? = some (.lst ((rs0 ++ [.ref m]) ++ [.ref m2])) := List.getElem?_set_self (get_lt b2r)
  have b3d : (S2.set r (.lst ((rs0 ++ [.ref m]) ++ [.ref m2])))[d]? = some (.lst ds) := by rw [List.getElem?_set_ne hrd]; exact b2d
  have hR3 := hR2.fr fA3
  have hRm3 := (hR.fr gs2.fa).fr fA3
  generalize S2.set r (.lst ((rs0 ++ [.ref m]) ++ [.ref m2])) = S3 at f3 fA3 b3k b3r b3d hR3 hRm3
  refine (run_fldD b3k (List.mem_singleton.mpr rfl) lk_d).mpr ?_
  refine ⟨tyD_lst b3d, ?_⟩
  walk_at "dw"
  refine (run_append b3d (by omega)).mpr ?_
  walk_at "dw"
  have f4 : FrA (fun j => j = k ∨ j = r ∨ j = d) S (S3.set d (.lst (ds ++ [e]))) := f3.trans (FrA.set (.inr (.inr rfl)))
  have fA4 : FrA A S3 (S3.set d (.lst (ds ++ [e]))) := FrA.set hAd
  have b4k : (S3.set d (.lst (ds ++ [e])))[k]? = some (.ins 10 (bkF r d u c)) := by rw [List.getElem?_set_ne (Ne.symm hkd)]; exact b3k
  have b4r : (S3.set d (.lst (ds ++ [e])))[r]? = some (.lst ((rs0 ++ [.ref m]) ++ [.ref m2])) := by rw [List.getElem?_set_ne (Ne.symm hrd)]; exact b3r
  have b4d : (S3.set d (.lst (ds ++ [e])))[d]? = some (.lst (ds ++ [e])) := List.getElem?_set_self (get_lt b3d)
  have hR4 := hR3.fr fA4
  have hRm4 := hRm3.fr fA4
  generalize S3.set d (.lst (ds ++ [e])) = S4 at f4 fA4 b4k b4r b4d hR4 hRm4
  refine (run_fsetD (Gw.one.get b4k) ⟨List.mem_singleton.mpr rfl, Nat.le_of_ble_eq_true rfl⟩).mpr ?_
  walk_at "dw"
  have f5 : FrA (fun j => j = k ∨ j = r ∨ j = d) S ((S4 ++ [O.lst []]).set k (.ins 10 (putD "undone" (.ref S4.length) (bkF r d u c)))) := (f4.trans Gw.one.fa).trans (FrA.set (.inl rfl))
  have fA5 : FrA A S4 ((S4 ++ [O.lst []]).set k (.ins 10 (putD "undone" (.ref S4.length) (bkF r d u c)))) := (Gw.one.fa).trans (FrA.set hAk)
  have b5k : ((S4 ++ [O.lst []]).set k (.ins 10 (putD "undone" (.ref S4.length) (bkF r d u c))))[k]? = some (.ins 10 (bkF r d S4.length c)) := by
    have := get_lt b4k
    exact List.getElem?_set_self (by simp; omega)
  have b5r : ((S4 ++ [O.lst []]).set k (.ins 10 (putD "undone" (.ref S4.length) (bkF r d u c))))[r]? = some (.lst ((rs0 ++ [.ref m]) ++ [.ref m2])) := by rw [List.getElem?_set_ne hkr]; exact Gw.one.get b4r
  have b5d : ((S4 ++ [O.lst []]).set k (.ins 10 (putD "undone" (.ref S4.length) (bkF r d u c))))[d]? = some (.lst (ds ++ [e])) := by rw [List.getElem?_set_ne hkd]; exact Gw.one.get b4d
  have hR5 := hR4.fr fA5
  have hRm5 := hRm4.fr fA5
  generalize (S4 ++ [O.lst []]).set k (.ins 10 (putD "undone" (.ref S4.length) (bkF r d u c))) = S5 at f5 fA5 b5k b5r b5d hR5 hRm5
  have hmm : S.length ≤ m2 := Nat.le_trans g1.len hm2
  subst ed
  walk_at "dw"
  refine ite_bo (fun hp => ?_) (fun hp => ?_)
  · have hp' : isPut w = true := hp
    walk_at "dw"
    exact kO hn _ _ _ _ f5 ⟨b5k, b5r, b5d⟩ hmm hR5 (by rw [if_pos hp'])
  · have hp' : isPut w = false := hp
    have hRm := hRm5
    obtain ⟨_, q, hq, _⟩ := hRm
    obtain ⟨fs, hf, hlk⟩ := ins_row (x := "steps") hq (by decide +kernel)
    walk_at "dw"
    refine (run_insOk hf hlk).mpr ?_
    walk_at "dw"
    refine last_name_run hRm5 ok.l3 fun S6 g6 => ?_
    walk_at "dw"
    refine steps_run (hRm5.fr g6.fa) ok.nd hlast fun S7 n7 g7 _ h7 => ?_
    walk_at "dw"
    have hat : at_.toNat < last.sp.length := by
      unfold outE at hn
      by_cases z : (last.sp.length : Int) < at_ ∨ (at_ = last.sp.length ∧ isPut w = false)
      · rw [if_pos z] at hn; cases hn
      · have a1 : ¬ (last.sp.length : Int) < at_ := fun y => z (.inl y)
        have a2 : at_ ≠ last.sp.length := fun y => z (.inr ⟨y, hp'⟩)
        omega
    have e1 : ((at_.toNat : Nat) : Int) = at_ := Int.toNat_of_nonneg h0
    have e2 : atI last.sp at_ = some last.sp[at_.toNat] := by
      have := at_nat (List.getElem?_eq_getElem hat)
      rw [e1] at this
      exact this
    refine (run_ixL h7 e2).mpr ?_
    walk_at "dw"
    have g57 := g6.trans g7
    exact kO hn _ _ _ _ (f5.trans g57.fa) ⟨g57.get b5k, g57.get b5r, g57.get b5d⟩ hmm (hR5.fr g57.fa) (by rw [if_neg (by rw [hp']; exact Bool.false_ne_true)]; exact List.getElem?_eq_getElem hat)
end

open PySem PySem.Spec PyProof.Rows L2 DL
/-! ### what an error says -/
abbrev hdE : Addr → Nat → Option Addr → DL.Env → M Fl := fun a c dd => retM (clM (m__law_error a dd c) (consA (getv 4) (nilA)))
section
variable {S : Sto} {QE : QX} {Q : D → Sto → Prop} {v : D}
theorem hr_step : ∃ S', Gw S S' ∧ HRun 5 4 3 [("at", v)] S hdE (.tup [.str "step", v]) S' := by
  refine' ⟨_, ?g, hrun_of fun a x => ?h⟩
  case h =>
    show Run (retM (clM (m__law_error a (some x) 3) (consA (getv 4) (nilA))) [none, none, none, none, some (.exc a (some S.length) (some x))]) (S ++ [.xdo [("at", v)]]) _
    unfold m__law_error b__law_error
    have hx : (S ++ [O.xdo [("at", v)]])[S.length]? = some (.xdo [("at", v)]) := last_get
    walk_at "de"
    refine (run_addL (Gw.one.get last_get) last_get (Nat.le_of_ble_eq_true rfl)).mpr ?_
    walk_at "de"
    refine ⟨tyD_lst last_get, ?_⟩
    walk_at "de"
    refine (run_countB (bs := [false, false, false, true, false, false, false]) last_get).mpr ?_
    walk_at "de"
    refine (run_ixL last_get rfl).mpr ?_
    walk_at "de"
    refine (run_ixL last_get rfl).mpr ?_
    walk_at "de"
    refine (run_ixL last_get rfl).mpr ?_
    walk_at "de"
    refine (run_ixL last_get rfl).mpr ?_
    walk_at "de"
    refine (run_ixL (Gw.one.get last_get) rfl).mpr ?_
    walk_at "de"
    refine (run_ixL last_get rfl).mpr ?_
    walk_at "de"
    refine (run_xfAD (Gw.one.get (Gw.one.get (Gw.one.get (Gw.one.get hx)))) (List.mem_singleton.mpr rfl) rfl).mpr ?_
    walk_at "de"
    exact ⟨rfl, rfl⟩
  case g => exact (((Gw.one.trans Gw.one).trans Gw.one).trans Gw.one).trans Gw.one
theorem hr_many : ∃ S', Gw S S' ∧ HRun 5 4 4 [("limit", v)] S hdE (.tup [.str "many", v]) S' := by
  refine' ⟨_, ?g, hrun_of fun a x => ?h⟩
  case h =>
    show Run (retM (clM (m__law_error a (some x) 4) (consA (getv 4) (nilA))) [none, none, none, none, some (.exc a (some S.length) (some x))]) (S ++ [.xdo [("limit", v)]]) _
    unfold m__law_error b__law_error
    have hx : (S ++ [O.xdo [("limit", v)]])[S.length]? = some (.xdo [("limit", v)]) := last_get
    walk_at "de"
    refine (run_addL (Gw.one.get last_get) last_get (Nat.le_of_ble_eq_true rfl)).mpr ?_
    walk_at "de"
    refine ⟨tyD_lst last_get, ?_⟩
    walk_at "de"
    refine (run_countB (bs := [false, false, true, false, false, false, false]) last_get).mpr ?_
    walk_at "de"
    refine (run_ixL last_get rfl).mpr ?_
    walk_at "de"
    refine (run_ixL last_get rfl).mpr ?_
    walk_at "de"
    refine (run_ixL last_get rfl).mpr ?_
    walk_at "de"
    refine (run_xfAD (Gw.one.get (Gw.one.get (Gw.one.get hx))) (List.mem_singleton.mpr rfl) rfl).mpr ?_
    walk_at "de"
    exact ⟨rfl, rfl⟩
  case g => exact ((Gw.one.trans Gw.one).trans Gw.one).trans Gw.one
theorem hr_stage : ∃ S', Gw S S' ∧ HRun 5 4 2 [("name", v)] S hdE (.tup [.str "stage", v]) S' := by
  refine' ⟨_, ?g, hrun_of fun a x => ?h⟩
  case h =>
    show Run (retM (clM (m__law_error a (some x) 2) (consA (getv 4) (nilA))) [none, none, none, none, some (.exc a (some S.length) (some x))]) (S ++ [.xdo [("name", v)]]) _
    unfold m__law_error b__law_error
    have hx : (S ++ [O.xdo [("name", v)]])[S.length]? = some (.xdo [("name", v)]) := last_get
    walk_at "de"
    refine (run_addL (Gw.one.get last_get) last_get (Nat.le_of_ble_eq_true rfl)).mpr ?_
    walk_at "de"
    refine ⟨tyD_lst last_get, ?_⟩
    walk_at "de"
    refine (run_countB (bs := [false, false, false, false, true, false, false]) last_get).mpr ?_
    walk_at "de"
    refine (run_ixL last_get rfl).mpr ?_
    walk_at "de"
    refine (run_ixL last_get rfl).mpr ?_
    walk_at "de"
    refine (run_ixL last_get rfl).mpr ?_
    walk_at "de"
    refine (run_ixL last_get rfl).mpr ?_
    walk_at "de"
    refine (run_ixL last_get rfl).mpr ?_
    walk_at "de"
    refine (run_ixL last_get rfl).mpr ?_
    walk_at "de"
    refine (run_xfAD (Gw.one.get (Gw.one.get (Gw.one.get hx))) (List.mem_singleton.mpr rfl) rfl).mpr ?_
    walk_at "de"
    exact ⟨rfl, rfl⟩
  case g => exact ((Gw.one.trans Gw.one).trans Gw.one).trans Gw.one
/-- what is said of an error -/
def errD (c : Nat) (v : D) : D := .tup [.str (if c = 3 then "step" else if c = 4 then "many" else "stage"), v]
theorem recE_cases {pre : List SV} {last : SV} {c : Nat} {f : Str} {v : D} (h : recE pre last = some (c, f, v)) : (c = 2 ∧ f = "name") ∨ (c = 4 ∧ f = "limit") := by
  unfold recE at h
  split at h
  · cases h; exact .inl ⟨rfl, rfl⟩
  · split at h
    · cases h; exact .inr ⟨rfl, rfl⟩
    · cases h
theorem outE_cases {pre : List SV} {last : SV} {p : Bool} {at_ : Int} {l : List D} {c : Nat} {f : Str} {v : D} (h : outE pre last p at_ l = some (c, f, v)) : (c = 3 ∧ f = "at") ∨ (c = 2 ∧ f = "name") ∨ (c = 4 ∧ f = "limit") := by
  unfold outE at h
  split at h
  · cases h; exact .inl ⟨rfl, rfl⟩
  · split at h
    · cases h; exact .inr (.inr ⟨rfl, rfl⟩)
    · exact .inr (recE_cases h)
theorem did_run {A : Nat → Prop} {k r d u c m : Nat} {pre : List SV} {last : SV} {e : D} {w : Str} {at_ : Int} {l ds rs0 : List D} (hA : ∀ i, A i → i < S.length) (hAk : A k) (hAr : A r) (hAd : A d) (hrd : r ≠ d) (hkr : k ≠ r) (hkd : k ≠ d) (b : BkAt S k r d u c (rs0 ++ [.ref m]) ds) (hR : RcAt A S m (pre ++ [last])) (ok : VsOk pre last) (dd : DeedF e w at_ l) (hlen : ds.length < 100) (hrl : rs0.length ≤ 200)
    (kE : ∀ c f v, outE pre last (isPut w) at_ l = some (c, f, v) → ∀ S', Gw S S' → Q (errD c v) S')
    (kO : outE pre last (isPut w) at_ l = none → ∀ S' m' u' x, FrA (fun j => j = k ∨ j = r ∨ j = d) S S' → BkAt S' k r d u' c ((rs0 ++ [.ref m]) ++ [.ref m']) (ds ++ [e]) → S.length ≤ m' → RcAt A S' m' (pre ++ [last.withSp (later last.sp (isPut w) at_ l)]) →
      (if isPut w = true then x = .non else last.sp[at_.toNat]? = some x) → Q (.tup [.str "done", x]) S') : Run (m__law_did [.ref k, .str "do", .int 0, e]) S Q := by
  unfold m__law_did b__law_did
  refine run_fn.mpr (run_try ?_)
  walk_at "dw"
  refine (run_insOk b.bk (lk_no (by decide +kernel) (by decide +kernel) (by decide +kernel) (by decide +kernel))).mpr ?_
  walk_at "dw"
  refine do_run hA hAk hAr hAd hrd hkr hkd b hR ok dd hlen hrl (fun c f v z S' g => ?_) fun z S' m' u' x f b' hm' hR' hx => ?_
  · rcases outE_cases z with ⟨rfl, rfl⟩ | ⟨rfl, rfl⟩ | ⟨rfl, rfl⟩
    · obtain ⟨S2, g2, h2⟩ := hr_step (S := S') (v := v)
      exact ⟨rfl, _, S2, h2, kE 3 "at" v z S2 (g.trans g2)⟩
    · obtain ⟨S2, g2, h2⟩ := hr_stage (S := S') (v := v)
      exact ⟨rfl, _, S2, h2, kE 2 "name" v z S2 (g.trans g2)⟩
    · obtain ⟨S2, g2, h2⟩ := hr_many (S := S') (v := v)
      exact ⟨rfl, _, S2, h2, kE 4 "limit" v z S2 (g.trans g2)⟩
  · walk_at "dw"
    exact kO z S' m' u' x f b' hm' hR' hx
end
/-! ### stages and deeds as data -/
theorem st_pg {v : SV} (h : v.Ok) : ∃ p, ∀ (A : Nat → Prop) (S : Sto) (d : D), StAt A S d v → Pg S 6 600000 d p := by
  obtain ⟨ps, hps⟩ := pza (h := 4) (b := 24131) (ds := v.sp) fun d hd => stp_pz (h.sp d hd)
  obtain ⟨q, hq⟩ : ∃ q, ∀ S, Pg S 5 193067 v.st q := by
    rcases h.st with e | ⟨x, e, hx⟩
    · rw [e]; exact ⟨_, fun S => pg_non.mono (by decide) (by decide)⟩
    · rw [e]; exact ⟨_, fun S => (pg_tx (tx2_nm hx)).mono (by decide) (by decide)⟩
  refine ⟨.tuple [.str v.nm, q, .list ps], fun A S d hd => ?_⟩
  obtain ⟨m, rfl, _, hm⟩ := hd
  have hl := h.len
  have g3 : Pg S 5 193067 (.ref m) (.list ps) := (pg_lst hm (hps S)).mono (Nat.le_refl _) (by have := Nat.mul_le_mul_right (24131 + 2) hl; omega)
  exact (pg_tup (pga_cons ((pg_tx (tx2_nm h.nm)).mono (by decide) (by decide)) (pga_cons (hq S) (pga_cons g3 pga_nil)))).mono (Nat.le_refl _) (Nat.le_trans (Nat.le_of_eq (show [D.str v.nm, v.st, .ref m].length * (193067 + 2) + 3 = 3 * (193067 + 2) + 3 from rfl)) (by decide))
theorem stsL_pg : ∀ {vs : List SV}, (∀ v ∈ vs, v.Ok) → ∃ ps, ∀ (A : Nat → Prop) (S : Sto) (ds : List D), StsL A S ds vs → PgA S 6 600000 ds ps
  | [], _ => ⟨[], fun A S ds h => by
    have e : ds = [] := List.length_eq_zero_iff.mp h.1
    subst e
    exact pga_nil⟩
  | v :: vs, h => by
    obtain ⟨p, hp⟩ := st_pg (h v List.mem_cons_self)
    obtain ⟨ps, hps⟩ := stsL_pg fun u hu => h u (List.mem_cons_of_mem _ hu)
    refine ⟨p :: ps, fun A S ds hd => ?_⟩
    cases ds with
    | nil => have := hd.1; simp at this
    | cons d ds => exact pga_cons (hp A S d (hd.2 0 d v rfl rfl)) (hps A S ds ⟨by have := hd.1; simpa using this, fun i x u a b => hd.2 (i + 1) x u (by simpa using a) (by simpa using b)⟩)
theorem sts_pg {vs : List SV} (h : ∀ v ∈ vs, v.Ok) (h3 : vs.length ≤ 3) : ∃ p, ∀ (A : Nat → Prop) (S : Sto) (n : Nat), StsAt A S n vs → Pg S 7 1900000 (.ref n) p := by
  obtain ⟨ps, hps⟩ := stsL_pg h
  refine ⟨.list ps, fun A S n ⟨_, ds, hn, hd⟩ => (pg_lst hn (hps A S ds hd)).mono (Nat.le_refl _) ?_⟩
  have hl := hd.1
  exact Nat.le_trans (Nat.add_le_add_right (Nat.mul_le_mul_right (600000 + 2) (show ds.length ≤ 3 by omega)) 3) (by decide)
theorem VsOk.le3 {pre : List SV} {last : SV} (h : VsOk pre last) : (pre ++ [last]).length ≤ 3 := by have := h.l3; simp; omega
section
variable {S : Sto} {QE : QX} {Q : D → Sto → Prop} {A A0 : Nat → Prop} {n m : Nat} {pre : List SV} {last : SV} {vs : List SV}
theorem pg_eq {S : Sto} {h b h' b' : Nat} {x y : D} {p : PyData} (gx : Pg S h b x p) (gy : Pg S h' b' y p) (hh : h ≤ 64) (hh' : h' ≤ 64) : RunX (eqD x y) S QE Q ↔ Q (.bl true) S := by
  rw [run_eqG gx gy hh hh', SeqAt.eqv_refl p gx.lay]
theorem pg_ne {S : Sto} {h b h' b' : Nat} {x y : D} {p : PyData} (gx : Pg S h b x p) (gy : Pg S h' b' y p) (hh : h ≤ 64) (hh' : h' ≤ 64) : RunX (neD x y) S QE Q ↔ Q (.bl false) S := by
  rw [run_neG gx gy hh hh', SeqAt.eqv_refl p gx.lay]
  exact Iff.rfl
theorem sts_eq (hv : ∀ v ∈ vs, v.Ok) (h3 : vs.length ≤ 3) (h : StsAt A S n vs) (h' : StsAt A0 S m vs) : RunX (eqD (.ref n) (.ref m)) S QE Q ↔ Q (.bl true) S := by
  obtain ⟨p, hp⟩ := sts_pg hv h3
  exact pg_eq (hp _ _ _ h) (hp _ _ _ h') (by decide) (by decide)
theorem sts_ne (hv : ∀ v ∈ vs, v.Ok) (h3 : vs.length ≤ 3) (h : StsAt A S n vs) (h' : StsAt A0 S m vs) : RunX (neD (.ref n) (.ref m)) S QE Q ↔ Q (.bl false) S := by
  obtain ⟨p, hp⟩ := sts_pg hv h3
  exact pg_ne (hp _ _ _ h) (hp _ _ _ h') (by decide) (by decide)
theorem pg_big {i : Int} (h0 : 0 ≤ i) (h1 : i < 10 ^ 39) : Pg S 0 39 (.int i) (.int i) := ⟨fun n _ => by cases n <;> rfl, rfl, by
    simp only [PyData.showable]
    refine decide_eq_true ?_
    have e : i.natAbs < 2 ^ 140 := by omega
    by_cases z : i.natAbs = 0
    · rw [z]; decide
    · have := (Nat.log2_lt z).mpr e
      omega, by simp [PyData.depth], by
    simp only [PyData.shown]
    exact toString_length_le h0 (by decide) h1⟩
/-- a deed as data -/
def Dds (ds : List D) : Prop := ∀ e ∈ ds, ∃ w at_ l, DeedF e w at_ l
theorem deed_pz {e : D} {w : Str} {at_ : Int} {l : List D} (h : DeedF e w at_ l) : Pz 5 80000 e := by
  have hw : txOk w = true := by
    rcases h.w with ⟨rfl, _⟩ | ⟨rfl | rfl, _⟩ <;> decide +kernel
  rw [h.e]
  refine (pz_tup (h := 4) (b := 24131) (n := 3) (fun d hd => ?_) (by have := h.len.1; simp; omega)).mono (Nat.le_refl _) (by decide)
  rcases List.mem_cons.mp hd with rfl | hd
  · exact (pz_str hw).mono (by decide) (by decide)
  · rcases List.mem_cons.mp hd with rfl | hd
    · exact Pz.mono ⟨_, fun S => pg_big h.h0 h.h1⟩ (by decide) (by decide)
    · exact stp_pz (h.st d hd)
theorem dds_pg {ds : List D} (h : Dds ds) : ∃ ps, ∀ S, PgA S 5 80000 ds ps := pza fun e he => let ⟨_, _, _, z⟩ := h e he; deed_pz z
theorem dds_eq {ds : List D} (h : Dds ds) (hn : S[n]? = some (.lst ds)) (hm : S[m]? = some (.lst ds)) : RunX (eqD (.ref n) (.ref m)) S QE Q ↔ Q (.bl true) S := by
  obtain ⟨ps, hp⟩ := dds_pg h
  exact pg_eq (pg_lst hn (hp S)) (pg_lst hm (hp S)) (by decide) (by decide)
theorem dds_ne {ds : List D} (h : Dds ds) (hn : S[n]? = some (.lst ds)) (hm : S[m]? = some (.lst ds)) : RunX (neD (.ref n) (.ref m)) S QE Q ↔ Q (.bl false) S := by
  obtain ⟨ps, hp⟩ := dds_pg h
  exact pg_ne (pg_lst hn (hp S)) (pg_lst hm (hp S)) (by decide) (by decide)
theorem dds_emp {ds : List D} (h : Dds ds) (hn : S[n]? = some (.lst [])) (hm : S[m]? = some (.lst ds)) : RunX (eqD (.ref n) (.ref m)) S QE Q ↔ Q (.bl ds.isEmpty) S := by
  obtain ⟨ps, hp⟩ := dds_pg h
  rw [run_eqG (pg_lst hn (h := 5) (b := 80000) pga_nil) (pg_lst hm (hp S)) (by decide) (by decide)]
  have e : PyData.eqv (.list []) (.list ps) = ds.isEmpty := by
    have hl := (hp S).num
    cases ds with
    | nil =>
      have : ps = [] := List.length_eq_zero_iff.mp hl
      subst this
      simp [PyData.eqv, PyData.eqvAll]
    | cons d ds =>
      cases ps with
      | nil => simp at hl
      | cons p ps => simp [PyData.eqv, PyData.eqvAll]
  rw [e]
theorem recipe_eq_run {m1 m2 : Nat} (hv : ∀ v ∈ vs, v.Ok) (h3 : vs.length ≤ 3) (h1 : RcAt A S m1 vs) (h2 : RcAt A0 S m2 vs) (hk : Q (.bl true) S) : RunX (m_Recipe___eq__ [.ref m1, .ref m2]) S QE Q := by
  obtain ⟨_, q1, e1, s1⟩ := h1
  obtain ⟨_, q2, e2, s2⟩ := h2
  unfold m_Recipe___eq__ b_Recipe___eq__
  walk_at "dw"
  refine (run_isoI e2 rfl).mpr ?_
  walk_at "dw"
  refine (run_fldD e1 (List.mem_singleton.mpr rfl) rfl).mpr ?_
  walk_at "dw"
  refine (run_fldD e2 (List.mem_singleton.mpr rfl) rfl).mpr ?_
  exact (sts_eq hv h3 s1 s2).mpr hk
theorem book_eq0_run {k1 r1 d1 u1 c1 k2 r2 d2 u2 c2 m1 m2 : Nat} {rs1 rs2 ds : List D} (hv : ∀ v ∈ vs, v.Ok) (h3 : vs.length ≤ 3) (b1 : BkAt S k1 r1 d1 u1 c1 (.ref m1 :: rs1) []) (b2 : BkAt S k2 r2 d2 u2 c2 (.ref m2 :: rs2) ds) (h1 : RcAt A S m1 vs) (h2 : RcAt A0 S m2 vs) (hd : Dds ds) (hk : Q (.bl ds.isEmpty) S) : Run (m_Book___eq__ [.ref k1, .ref k2]) S Q := by
  have h1' := h1
  obtain ⟨_, q1, e1, s1⟩ := h1'
  have h2' := h2
  obtain ⟨_, q2, e2, s2⟩ := h2'
  have hno : ∀ {r d u c : Nat}, (bkF r d u c).lookup ("first" : Str) = none := lk_no (by decide +kernel) (by decide +kernel) (by decide +kernel) (by decide +kernel)
  unfold m_Book___eq__ b_Book___eq__
  walk_at "dw"
  refine (run_isoI b2.bk rfl).mpr ?_
  walk_at "dw"
  refine (run_insOk b1.bk hno).mpr ?_
  walk_at "dw"
  refine book_first_run b1.bk b1.rc ?_
  walk_at "dw"
  refine (run_insOk b2.bk hno).mpr ?_
  walk_at "dw"
  refine book_first_run b2.bk b2.rc ?_
  refine run_eqO e1 (eqSide_ins e2) ?_
  refine recipe_eq_run hv h3 h1 h2 ⟨true, rfl, ?_⟩
  walk_at "dw"
  refine (run_fldD b1.bk (List.mem_singleton.mpr rfl) lk_d).mpr ?_
  walk_at "dw"
  refine (run_fldD b2.bk (List.mem_singleton.mpr rfl) lk_d).mpr ?_
  exact (dds_emp hd b1.dd b2.dd).mpr hk
theorem book_right_run {k r d u c m0 m1 f lg sh : Nat} {rs : List D} {ds : List D} {vs0 vs : List SV} (hv0 : ∀ v ∈ vs0, v.Ok) (h30 : vs0.length ≤ 3) (hv : ∀ v ∈ vs, v.Ok) (h3 : vs.length ≤ 3) (b : S[k]? = some (.ins 10 (bkF r d u c))) (hr0 : S[r]? = some (.lst (.ref m0 :: rs))) (hrl : ∃ rs', D.ref m0 :: rs = rs' ++ [.ref m1]) (hds : S[d]? = some (.lst ds))
    (hR0 : RcAt A S m0 vs0) (hR1 : RcAt A S m1 vs) (hf : StsAt A0 S f vs0) (hsh : StsAt A0 S sh vs) (hlg : S[lg]? = some (.lst ds)) (hd : Dds ds) (hdl : ds.length ≤ 1000) (hk : ∀ S', Gw S S' → Q (.bl true) S') : Run (m__law_book_right [.ref k, .ref f, .ref lg, .ref sh]) S Q := by
  have sz := small_len (n := 1000) (by decide)
  obtain ⟨rs', hrl⟩ := hrl
  have h0' := hR0
  obtain ⟨_, q0, e0, s0⟩ := h0'
  have h1' := hR1
  obtain ⟨_, q1, e1, s1⟩ := h1'
  have hno : ∀ {x : Str}, (x == "recipes_kept") = false → (x == "deeds") = false → (x == "undone") = false → (x == "own_cache") = false → (bkF r d u c).lookup x = none := lk_no
  unfold m__law_book_right b__law_book_right
  walk_at "dw"
  refine (run_insOk b (hno (by decide +kernel) (by decide +kernel) (by decide +kernel) (by decide +kernel))).mpr ?_
  walk_at "dw"
  refine book_first_run b hr0 ?_
  obtain ⟨fs, hfs, hlk⟩ := ins_row (x := "stages") e0 (by decide +kernel)
  refine (run_insOk hfs hlk).mpr ?_
  walk_at "dw"
  refine stages_run (A := fun _ => False) (fun _ z => z.elim) (by omega) hR0 fun S1 n1 g1 _ hS1 => ?_
  walk_at "dw"
  refine (sts_ne hv0 h30 hS1 (hf.fr g1.fa)).mpr ?_
  walk_at "dw"
  refine (run_insOk (g1.get b) (hno (by decide +kernel) (by decide +kernel) (by decide +kernel) (by decide +kernel))).mpr ?_
  walk_at "dw"
  refine book_recipe_run (g1.get b) (by rw [← hrl]; exact g1.get hr0) ?_
  obtain ⟨fs1, hfs1, hlk1⟩ := ins_row (x := "stages") e1 (by decide +kernel)
  refine (run_insOk (g1.get hfs1) hlk1).mpr ?_
  walk_at "dw"
  refine stages_run (A := fun _ => False) (fun _ z => z.elim) (by omega) (hR1.fr g1.fa) fun S2 n2 g2 _ hS2 => ?_
  have gs2 := g1.trans g2
  walk_at "dw"
  refine (sts_ne hv h3 hS2 (hsh.fr gs2.fa)).mpr ?_
  walk_at "dw"
  refine (run_insOk (gs2.get b) (hno (by decide +kernel) (by decide +kernel) (by decide +kernel) (by decide +kernel))).mpr ?_
  walk_at "dw"
  refine book_log_run (gs2.get b) (gs2.get hds) fun S3 g3 h3l => ?_
  have gs3 := gs2.trans g3
  walk_at "dw"
  refine (dds_ne hd h3l (gs3.get hlg)).mpr ?_
  walk_at "dw"
  refine (run_insOk (gs3.get b) (hno (by decide +kernel) (by decide +kernel) (by decide +kernel) (by decide +kernel))).mpr ?_
  walk_at "dw"
  refine book_log_run (gs3.get b) (gs3.get hds) fun S4 g4 h4l => ?_
  have gs4 := gs3.trans g4
  walk_at "dw"
  refine ⟨tyD_lst h4l, ?_⟩
  walk_at "dw"
  refine (run_append h4l (by omega)).mpr ?_
  walk_at "dw"
  have hS3 := gs3.len
  have lk := get_lt b
  have ld := get_lt hds
  have ll := get_lt hlg
  have g5 : Gw S (S4.set S3.length (.lst (ds ++ [.non]))) := gs4.set hS3
  have b5 := g5.get b
  generalize S4.set S3.length (.lst (ds ++ [.non])) = S5 at g5 b5
  refine run_lenO b5 ?_
  refine book_len_run b5 (g5.get hds) ⟨_, rfl, by omega, ?_⟩
  walk_at "dw"
  refine (run_lenL (g5.get hlg)).mpr ?_
  walk_at "dw"
  refine ite_tr (beq_self_eq_true _) ?_
  walk_at "dw"
  refine (run_insOk b5 (hno (by decide +kernel) (by decide +kernel) (by decide +kernel) (by decide +kernel))).mpr ?_
  walk_at "dw"
  refine book_log_run b5 (g5.get hds) fun S6 g6 h6l => ?_
  walk_at "dw"
  refine (dds_eq hd h6l (g6.get (g5.get hlg))).mpr ?_
  walk_at "dw"
  exact hk _ (g5.trans g6)
end

open PySem PySem.Spec PyProof.Rows L2 DL
theorem e_take : m__law_take = takeM := rfl
theorem e_names : m__law_names = namesM := rfl
theorem e_mixed : m__law_mixed = mixedM := rfl
theorem e_alike : m__law_alike = alikeM := rfl
theorem e_bag : m__law_bag = bagM := rfl
/-! ### what the law draws -/
section
variable {S : Sto} {Q : D → Sto → Prop} {b n : Nat} {xs : List D}
theorem runs_app (sp : List D) (d : D) : runs (sp ++ [d]) = runs sp + if isRun d = true then 1 else 0 := by
  unfold runs
  rw [List.filter_append, List.length_append]
  cases h : isRun d <;> simp [List.filter_cons, h]
theorem cps_app (sp : List D) (d : D) : cps (sp ++ [d]) = cps sp ++ if isCopy d = true then [srcD d] else [] := by
  unfold cps
  rw [List.filter_append, List.map_append]
  cases h : isCopy d <;> simp [List.filter_cons, h]
theorem steps_gen {n2 k2 many R : Nat} {xs2 : List D} (hb : Bag S b) (hn : S[n]? = some (.lst xs)) (hnb : n ≠ b) (hx : Nms 3 xs) (hn2 : S[n2]? = some (.lst xs2)) (hnb2 : n2 ≠ b) (hx2 : Nms k2 xs2) (hk2 : 0 < k2) (hk2' : k2 ≤ 1000) (hm : many ≤ 8)
    (h : ∀ m sp S', S'[m]? = some (.lst sp) → S.length ≤ m → (∀ d ∈ sp, Stp d) → (∀ s ∈ cps sp, s ∈ xs2) → sp.length ≤ many → runs sp ≤ R → Bag S' b → Fr b S S' → Q (.ref m) S') : Run (m__law_steps [.ref b, .ref n, .ref n2, .int (many : Int), .int (R : Int)]) S Q := by
  have hnl := get_lt hn
  have hn2l := get_lt hn2
  have hbl := hb.lt
  unfold m__law_steps b__law_steps
  walk_at "dw"
  refine take_run (Gw.one.bag hb) (by omega) (by omega) fun i0 S1 z0 z1 hB1 fr1 => ?_
  have hp1 : S1[S.length]? = some (.lst []) := fr1.get (by omega) last_get
  have fS1 : Fr b S S1 := Gw.one.fr.trans fr1
  walk_at "dw"
  refine run_itR1 z0 (by omega) ?_
  rw [size_rng]
  refine for_rng (fun i r S' => Bag S' b ∧ Fr b S S' ∧ ∃ sp a6 a7 a8, S'[S.length]? = some (.lst sp) ∧ sp.length = i ∧ (∀ d ∈ sp, Stp d) ∧ (∀ s ∈ cps sp, s ∈ xs2) ∧ runs sp ≤ R ∧ r = [some (.ref b), some (.ref n), some (.ref n2), some (.int many), some (.int R), some (.ref S.length), a6, a7, a8])
    ⟨hB1, fS1, [], _, _, _, hp1, rfl, fun d z => by simp at z, fun s z => by simp [cps] at z, by simp [runs], rfl⟩ (fun i r S2 hi ⟨hB, fr, sp, a6, a7, a8, hp, hl, hst, hsr, hru, er⟩ => ?_) fun r S2 ⟨hB, fr, sp, a6, a7, a8, hp, hl, hst, hsr, hru, er⟩ => ?_
  · subst er
    walk_at "dw"
    refine run_itAL hp ?_
    refine comp_filter (p := isRun) (f := id) hp (by omega) (fun d S3 hdm g3 => ?_) fun S3 g3 => ?_
    · obtain ⟨w, x, l, rfl⟩ := stp_shape (hst d hdm)
      walk_at "dw"
      refine ⟨rfl, Gw.refl, fun _ => ?_⟩
      walk_at "dw"
      exact ⟨Gw.refl, rfl⟩
    · walk_at "dw"
      refine (run_lenL last_get).mpr ?_
      walk_at "dw"
      have g4 : Gw S2 (S3 ++ [O.lst ((sp.filter isRun).map id)]) := g3.trans Gw.one
      generalize S3 ++ [O.lst ((sp.filter isRun).map id)] = S4 at g4
      refine ⟨tyD_lst (g4.get hp), ?_⟩
      walk_at "dw"
      have e4 : (((sp.filter isRun).map id).length : Int) = (runs sp : Nat) := by rw [List.length_map]; rfl
      rw [e4]
      refine step_runX (g4.bag hB) (g4.get (fr.get hnb hn)) hnb hx (by decide) (by decide) (g4.get (fr.get hnb2 hn2)) hnb2 hx2 hk2 hk2' fun d S5 hd hcd hrd hB5 fr5 => ?_
      have hp5 := fr5.get (by omega) (g4.get hp)
      walk_at "dw"
      refine (run_append hp5 (small_len (by omega))).mpr ?_
      walk_at "dw"
      have frs : Fr b S (S5.set S.length (.lst (sp ++ [d]))) := ⟨by rw [List.length_set]; exact ((fr.trans g4.fr).trans fr5).len, fun j hj hj2 => by
        rw [List.getElem?_set_ne (by omega)]
        exact ((fr.trans g4.fr).trans fr5).at_ j hj hj2⟩
      refine ⟨hB5.set (by omega), frs, sp ++ [d], _, _, _, List.getElem?_set_self (get_lt hp5), by simp [hl], fun e he => ?_, fun s hs => ?_, ?_, rfl⟩
      · rcases List.mem_append.mp he with he | he
        · exact hst e he
        · rw [List.mem_singleton.mp he]; exact hd
      · rw [cps_app] at hs
        rcases List.mem_append.mp hs with hs | hs
        · exact hsr s hs
        · split at hs
          · rename_i hc
            rw [List.mem_singleton.mp hs]; exact hcd hc
          · cases hs
      · rw [runs_app]
        split
        · rename_i hr
          by_cases z : (R : Int) - (runs sp : Nat) ≤ 0
          · have := hrd z
            rw [hr] at this
            cases this
          · omega
        · omega
  · subst er
    walk_at "dw"
    exact h _ sp S2 hp (Nat.le_refl _) hst hsr (by omega) hru hB fr
/-- a recipe that is drawn -/
structure GenV (vs : List SV) : Prop where
  ok : ∀ v ∈ vs, v.Ok
  nd : (vs.map (·.nm)).Nodup
  l1 : 1 ≤ vs.length
  l3 : vs.length ≤ 3
  fw : ∀ (i : Nat) (v : SV), vs[i]? = some v → ∀ s ∈ srcs v, ∀ u ∈ vs.drop i, s ≠ .str u.nm
  tot : total vs ≤ 4
theorem GenV.split {vs : List SV} (h : GenV vs) : ∃ pre last, vs = pre ++ [last] ∧ VsOk pre last ∧ recE pre last = none := by
  obtain ⟨pre, last, rfl⟩ : ∃ pre last, vs = pre ++ [last] := by
    have := h.l1
    rcases List.eq_nil_or_concat vs with e | ⟨a, b, e⟩
    · rw [e] at this; simp at this
    · exact ⟨a, b, by rw [e, List.concat_eq_append]⟩
  have hl : (pre ++ [last])[pre.length]? = some last := by simp
  have own : ∀ s ∈ srcs last, s ≠ .str last.nm := fun s hs => h.fw pre.length last hl s hs last (by simp)
  refine ⟨pre, last, rfl, ⟨h.ok, h.nd, by have := h.l3; simp at this; omega, fun i v hv s hs u hu => h.fw i v (by rw [List.getElem?_append_left (List.getElem?_eq_some_iff.mp hv).1]; exact hv) s hs u hu, fun e => ?_⟩, ?_⟩
  · refine own last.st ?_ e
    unfold srcs
    rw [e]
    simp [isNone]
  · unfold recE
    rw [if_neg, if_neg]
    · have := h.tot; omega
    · intro z
      exact own _ (List.mem_append_right _ (bad_to z)) rfl
def called4 : List Str := ["first", "last", "make", "other"]
theorem called_ok : called4.Nodup ∧ (∀ c ∈ called4, nmOk c = true) ∧ (∀ c ∈ called4, c ≠ "src" ∧ c ≠ "base") := by decide +kernel
theorem map_str_inj {cs ds : List Str} (h : cs.map D.str = ds.map D.str) : cs = ds := by
  induction cs generalizing ds with
  | nil => cases ds with
    | nil => rfl
    | cons d ds => cases h
  | cons c cs ih => cases ds with
    | nil => cases h
    | cons d ds =>
      simp only [List.map_cons, List.cons.injEq, D.str.injEq] at h
      rw [h.1, ih h.2]
theorem perm_map_str {ys : List D} {cs : List Str} (h : ys.Perm (cs.map D.str)) : ∃ ds : List Str, ys = ds.map D.str ∧ ds.Perm cs := by
  have hs : ∀ y ∈ ys, ∃ x, y = D.str x := fun y hy => by
    obtain ⟨x, _, rfl⟩ := List.mem_map.mp (h.subset hy)
    exact ⟨x, rfl⟩
  have : ∃ ds : List Str, ys = ds.map D.str := by
    clear h
    induction ys with
    | nil => exact ⟨[], rfl⟩
    | cons y ys ih =>
      obtain ⟨x, rfl⟩ := hs y List.mem_cons_self
      obtain ⟨ds, rfl⟩ := ih fun z hz => hs z (List.mem_cons_of_mem _ hz)
      exact ⟨x :: ds, rfl⟩
  obtain ⟨ds, rfl⟩ := this
  refine ⟨ds, rfl, ?_⟩
  let g : D → Str := fun d => match d with
    | .str x => x
    | _ => Str.empty
  have e : ∀ l : List Str, (l.map D.str).map g = l := fun l => by rw [List.map_map]; simp [Function.comp_def, g]
  have := h.map g
  rw [e, e] at this
  exact this
end

open PySem PySem.Spec PyProof.Rows L2 DL
section
variable {S : Sto} {Q : D → Sto → Prop} {b n : Nat} {xs : List D}
/-- what holds of a drawn stage at a place -/
structure DrV (cs : List Str) (j : Nat) (v : SV) : Prop where
  nm : cs[j]? = some v.nm
  ok : v.Ok
  sr : ∀ s ∈ srcs v, s = .str "src" ∨ s = .str "base" ∨ ∃ k c, k < j ∧ cs[k]? = some c ∧ s = .str c
  ru : runs v.sp ≤ if j = 0 then 2 else 1
theorem nodup_ne {cs : List Str} (nd : cs.Nodup) {i j : Nat} {c d : Str} (h : i < j) (hi : cs[i]? = some c) (hj : cs[j]? = some d) : c ≠ d := fun e => by
  have a := List.getElem?_eq_some_iff.mp hi
  have b := List.getElem?_eq_some_iff.mp hj
  exact List.pairwise_iff_getElem.mp nd i j a.1 b.1 h (a.2.trans (e.trans b.2.symm))
theorem gen_of {cs : List Str} {vs : List SV} (hp : cs.Perm called4) (l1 : 1 ≤ vs.length) (l3 : vs.length ≤ 3) (h : ∀ j v, vs[j]? = some v → DrV cs j v) : GenV vs := by
  have nd : cs.Nodup := hp.nodup_iff.mpr called_ok.1
  have en : vs.map (·.nm) = cs.take vs.length := by
    refine List.ext_getElem? fun i => ?_
    rw [List.getElem?_map, List.getElem?_take]
    cases e : vs[i]? with
    | none => rw [if_neg (by have := List.getElem?_eq_none_iff.mp e; omega)]; rfl
    | some v => rw [if_pos (List.getElem?_eq_some_iff.mp e).1, (h i v e).nm]; rfl
  refine ⟨fun v hv => ?_, by rw [en]; exact List.Sublist.nodup (List.take_sublist _ _) nd, l1, l3, fun i v hv s hs u hu => ?_, ?_⟩
  · obtain ⟨j, hj⟩ := List.getElem?_of_mem hv
    exact (h j v hj).ok
  · obtain ⟨j, hj⟩ := List.getElem?_of_mem hu
    rw [List.getElem?_drop] at hj
    have hu2 := (h _ u hj).nm
    have hm : u.nm ∈ called4 := hp.subset (List.mem_of_getElem? hu2)
    rcases (h i v hv).sr s hs with rfl | rfl | ⟨k, c, hk, hc, rfl⟩
    · intro e; exact (called_ok.2.2 _ hm).1 (by injection e with e; exact e.symm)
    · intro e; exact (called_ok.2.2 _ hm).2 (by injection e with e; exact e.symm)
    · intro e
      exact nodup_ne nd (by omega) hc hu2 (by injection e)
  · have key : ∀ j, j ≤ vs.length → total (vs.take j) ≤ j + 1 := fun j => by
      induction j with
      | zero => intro _; simp [total]
      | succ j ih =>
        intro hj
        have hv : vs[j]? = some vs[j] := List.getElem?_eq_getElem (by omega)
        have a := ih (by omega)
        have b := (h j _ hv).ru
        rw [total_take hv]
        by_cases z : j = 0
        · subst z
          rw [if_pos rfl] at b
          have : total (vs.take 0) = 0 := by simp [total]
          omega
        · rw [if_neg z] at b
          omega
    have := key vs.length (Nat.le_refl _)
    rw [List.take_length] at this
    omega
theorem recipe_gen {nI many top : Nat} (hb : Bag S b) (hn : S[n]? = some (.lst xs)) (hnb : n ≠ b) (hx : Nms 3 xs) (hI : S[nI]? = some (.lst [.str "src", .str "base"])) (hIb : nI ≠ b) (hm : many ≤ 8) (ht1 : 1 ≤ top) (ht : top ≤ 3)
    (h : ∀ p vs S', GenV vs → StsAt (fun j => j < S.length) S' p vs → Bag S' b → Fr b S S' → Q (.ref p) S') : Run (m__law_recipe [.ref b, .ref n, .ref nI, .int (many : Int), .int (top : Int)]) S Q := by
  have hnl := get_lt hn
  have hIl := get_lt hI
  have hbl := hb.lt
  unfold m__law_recipe b__law_recipe
  walk_at "dw"
  have hq0 : ((S ++ [O.lst []]) ++ [O.lst [D.str "first", D.str "last", D.str "make", D.str "other"]])[(S ++ [O.lst []]).length]? = some (.lst (called4.map D.str)) := last_get
  have hp0 : ((S ++ [O.lst []]) ++ [O.lst [D.str "first", D.str "last", D.str "make", D.str "other"]])[S.length]? = some (.lst []) := Gw.one.get last_get
  have g0 : Gw S ((S ++ [O.lst []]) ++ [O.lst [D.str "first", D.str "last", D.str "make", D.str "other"]]) := Gw.one.trans Gw.one
  have hbS := g0.bag hb
  have hsl : (S ++ [O.lst []]).length = S.length + 1 := by simp
  generalize (S ++ [O.lst []]) ++ [O.lst [D.str "first", D.str "last", D.str "make", D.str "other"]] = S0 at hq0 hp0 g0 hbS
  rw [hsl] at hq0 ⊢
  refine mixed_runP hbS hq0 (by omega) (by decide) fun q ys S1 hq hql hperm hB1 fr1 => ?_
  obtain ⟨cs, rfl, hcs⟩ := perm_map_str hperm
  have hcl : cs.length = 4 := hcs.length_eq
  have hl0 := get_lt hq0
  have hp1 := fr1.get (by omega) hp0
  have fS1 := g0.fr.trans fr1
  walk_at "dw"
  refine take_run hB1 (by omega) (by omega) fun i0 S2 z0 z1 hB2 fr2 => ?_
  walk_at "dw"
  refine run_itR1 (by omega) (by omega) ?_
  rw [size_rng]
  have hq2 := fr2.get (by omega) hq
  have hp2 := fr2.get (by omega) hp1
  have fS2 := fS1.trans fr2
  have hlen : (1 + i0).toNat ≤ 3 ∧ 1 ≤ (1 + i0).toNat := by omega
  generalize (1 + i0).toNat = len at hlen
  refine for_rng (fun i r S' => i ≤ 3 ∧ Bag S' b ∧ Fr b S S' ∧ S'[q]? = some (.lst (cs.map D.str)) ∧ ∃ rows vs a7 a8 a9, S'[S.length]? = some (.lst rows) ∧ StsL (fun j => j < S.length ∨ j = S.length) S' rows vs ∧ vs.length = i ∧ (∀ j v, vs[j]? = some v → DrV cs j v) ∧
      r = [some (.ref b), some (.ref n), some (.ref nI), some (.int many), some (.int top), some (.ref S.length), some (.ref q), a7, a8, a9])
    ⟨by omega, hB2, fS2, hq2, [], [], _, _, _, hp2, StsL.nil, rfl, fun j v z => by simp at z, rfl⟩ (fun i r S3 hi ⟨hi3, hB, fr, hq3, rows, vs, a7, a8, a9, hp3, hst, hvl, hdr, er⟩ => ?_) fun r S3 ⟨hi3, hB, fr, hq3, rows, vs, a7, a8, a9, hp3, hst, hvl, hdr, er⟩ => ?_
  · subst er
    rw [Int.zero_add]
    have hI3 := fr.get hIb hI
    have hq3l := get_lt hq3
    walk_at "dw"
    refine (run_listL hI3).mpr ?_
    walk_at "dw"
    refine (run_slL (Gw.one.get hq3)).mpr ?_
    rw [cut_to (by omega)]
    walk_at "dw"
    rw [Int.toNat_natCast]
    refine (run_mulL last_get (by decide) (by decide) (by rw [show (2 : Int).toNat = 2 from rfl, List.length_take, List.length_map]; have sz := small_len (n := 1000) (by decide); omega)).mpr ?_
    refine (run_addL (Gw.one.get (Gw.one.get last_get)) last_get (by
      have sz := small_len (n := 1000) (by decide)
      have : (2 : Int).toNat = 2 := rfl
      simp only [List.length_flatten, List.map_replicate, List.sum_replicate_nat, List.length_take, List.length_map, this]
      show 2 + _ ≤ _
      omega)).mpr ?_
    walk_at "dw"
    have hsrc : ∀ d ∈ ([D.str "src", .str "base"] ++ (List.replicate (2 : Int).toNat ((cs.map D.str).take i)).flatten), d = .str "src" ∨ d = .str "base" ∨ ∃ k c, k < i ∧ cs[k]? = some c ∧ d = .str c := fun d hd => by
      rcases List.mem_append.mp hd with hd | hd
      · simp only [List.mem_cons, List.not_mem_nil, or_false] at hd
        rcases hd with rfl | rfl
        · exact .inl rfl
        · exact .inr (.inl rfl)
      · obtain ⟨l, hl, hd⟩ := List.mem_flatten.mp hd
        rw [List.eq_of_mem_replicate hl] at hd
        obtain ⟨k, hk⟩ := List.getElem?_of_mem hd
        rw [List.getElem?_take, List.getElem?_map] at hk
        split at hk
        · rename_i hki
          obtain ⟨c, hc, rfl⟩ := Option.map_eq_some_iff.mp hk
          exact .inr (.inr ⟨k, c, hki, hc, rfl⟩)
        · cases hk
    have hnm : ∀ d ∈ ([D.str "src", .str "base"] ++ (List.replicate (2 : Int).toNat ((cs.map D.str).take i)).flatten), ∃ x, d = .str x ∧ nmOk x = true := fun d hd => by
      rcases hsrc d hd with rfl | rfl | ⟨k, c, hk, hc, rfl⟩
      · exact ⟨_, rfl, by decide +kernel⟩
      · exact ⟨_, rfl, by decide +kernel⟩
      · exact ⟨c, rfl, called_ok.2.1 c (hcs.subset (List.mem_of_getElem? hc))⟩
    have hlsrc : ([D.str "src", .str "base"] ++ (List.replicate (2 : Int).toNat ((cs.map D.str).take i)).flatten).length ≤ 1000 ∧ 1 ≤ ([D.str "src", .str "base"] ++ (List.replicate (2 : Int).toNat ((cs.map D.str).take i)).flatten).length := by
      have : (2 : Int).toNat = 2 := rfl
      simp only [List.length_append, List.length_flatten, List.map_replicate, List.sum_replicate_nat, List.length_take, List.length_map, this]
      constructor
      · show 2 + _ ≤ _
        omega
      · show 1 ≤ 2 + _
        omega
    generalize ([D.str "src", .str "base"] ++ (List.replicate (2 : Int).toNat ((cs.map D.str).take i)).flatten) = src at hsrc hnm hlsrc
    have g4 : Gw S3 ((((S3 ++ [O.lst [D.str "src", .str "base"]]) ++ [O.lst ((cs.map D.str).take i)]) ++ [O.lst (List.replicate (2 : Int).toNat ((cs.map D.str).take i)).flatten]) ++ [O.lst src]) := ((Gw.one.trans Gw.one).trans Gw.one).trans Gw.one
    have h4 : ((((S3 ++ [O.lst [D.str "src", .str "base"]]) ++ [O.lst ((cs.map D.str).take i)]) ++ [O.lst (List.replicate (2 : Int).toNat ((cs.map D.str).take i)).flatten]) ++ [O.lst src])[(((S3 ++ [O.lst [D.str "src", .str "base"]]) ++ [O.lst ((cs.map D.str).take i)]) ++ [O.lst (List.replicate (2 : Int).toNat ((cs.map D.str).take i)).flatten]).length]? = some (.lst src) := last_get
    have l4 : S3.length ≤ (((S3 ++ [O.lst [D.str "src", .str "base"]]) ++ [O.lst ((cs.map D.str).take i)]) ++ [O.lst (List.replicate (2 : Int).toNat ((cs.map D.str).take i)).flatten]).length := by simp
    generalize ((S3 ++ [O.lst [D.str "src", .str "base"]]) ++ [O.lst ((cs.map D.str).take i)]) ++ [O.lst (List.replicate (2 : Int).toNat ((cs.map D.str).take i)).flatten] = S4 at g4 h4 l4
    refine (run_addL last_get (Gw.one.get h4) (by rw [List.length_singleton]; exact Nat.le_trans (show 1 + src.length ≤ 1001 by omega) (by decide))).mpr ?_
    walk_at "dw"
    have g5 : Gw (S4 ++ [O.lst src]) (((S4 ++ [O.lst src]) ++ [O.lst [D.non]]) ++ [O.lst ([D.non] ++ src)]) := Gw.one.trans Gw.one
    have h5 : (((S4 ++ [O.lst src]) ++ [O.lst [D.non]]) ++ [O.lst ([D.non] ++ src)])[((S4 ++ [O.lst src]) ++ [O.lst [D.non]]).length]? = some (.lst ([D.non] ++ src)) := last_get
    have l5 : S3.length ≤ ((S4 ++ [O.lst src]) ++ [O.lst [D.non]]).length := by simp; omega
    have h45 := g5.get h4
    generalize ((S4 ++ [O.lst src]) ++ [O.lst [D.non]]) ++ [O.lst ([D.non] ++ src)] = S5 at g5 h5 h45
    have gs5 := g4.trans g5
    have hlb : b < S3.length := hB.lt
    refine (run_lenL h45).mpr ?_
    walk_at "dw"
    refine take_run (gs5.bag hB) (by omega) (by omega) fun j S6 j0 j1 hB6 fr6 => ?_
    refine ix_run (fr6.get (by omega) h5) j0 (by rw [List.length_append]; show j < ((1 + src.length : Nat) : Int); omega) fun st hstm => ?_
    have hst' : st = .non ∨ st ∈ src := by
      rcases List.mem_append.mp hstm with z | z
      · exact .inl (List.mem_singleton.mp z)
      · exact .inr z
    have f36 : Fr b S3 S6 := gs5.fr.trans fr6
    walk_at "dw"
    refine ⟨tyD_lst (f36.get (by omega) hp3), ?_⟩
    walk_at "dw"
    obtain ⟨c, hc⟩ : ∃ c, cs[i]? = some c := ⟨cs[i], List.getElem?_eq_getElem (by omega)⟩
    refine (run_ixL (f36.get (by omega) hq3) (at_nat (by rw [List.getElem?_map, hc]; rfl))).mpr ?_
    walk_at "dw"
    have eR : ((1 : Int) + if ((i : Int) == 0) = true then 1 else 0) = ((if i = 0 then 2 else 1 : Nat) : Int) := by
      by_cases z : i = 0
      · subst z; rfl
      · rw [if_neg z, if_neg (by simp [z])]; rfl
    rw [eR]
    refine steps_gen (n2 := S4.length) (k2 := src.length) hB6 (f36.get hnb (fr.get hnb hn)) hnb hx (fr6.get (by omega) h45) (by omega) ⟨rfl, hnm⟩ hlsrc.2 hlsrc.1 hm fun m sp S8 hm8 hml hsp hcp hspl hru hB8 fr8 => ?_
    have f38 : Fr b S3 S8 := f36.trans fr8
    have hp8 := f38.get (by omega) hp3
    walk_at "dw"
    refine (run_append hp8 (small_len (by rw [hst.1, hvl]; omega))).mpr ?_
    walk_at "dw"
    have l6 : S3.length ≤ S6.length := f36.len
    have hvo : SV.Ok ⟨c, st, sp⟩ := ⟨called_ok.2.1 c (hcs.subset (List.mem_of_getElem? hc)), hst'.imp id fun z => hnm st z, hsp, by show sp.length ≤ 8; omega⟩
    have frs : Fr b S (S8.set S.length (.lst (rows ++ [SV.row ⟨c, st, sp⟩ m]))) := ⟨by rw [List.length_set]; exact (fr.trans f38).len, fun j hj hj2 => by
      rw [List.getElem?_set_ne (by omega)]
      exact (fr.trans f38).at_ j hj hj2⟩
    have fA : FrA (fun j => j < S.length ∨ j = S.length) S3 S8 := Fr.fa (.inl hbl) f38
    have fA2 : FrA (fun j => j < S.length ∨ j = S.length) S8 (S8.set S.length (.lst (rows ++ [SV.row ⟨c, st, sp⟩ m]))) := FrA.set (.inr rfl)
    refine ⟨by omega, hB8.set (by omega), frs, ?_, rows ++ [SV.row ⟨c, st, sp⟩ m], vs ++ [⟨c, st, sp⟩], _, _, _, List.getElem?_set_self (get_lt hp8), StsL.app ((hst.fr fA).fr fA2) (StsL.one ⟨m, rfl, fun z => by omega, ?_⟩), by simp [hvl], fun j v hv => ?_, rfl⟩
    · rw [List.getElem?_set_ne (by omega)]
      exact f38.get (by omega) hq3
    · rw [List.getElem?_set_ne (by omega)]
      exact hm8
    · by_cases hj : j < vs.length
      · rw [List.getElem?_append_left hj] at hv
        exact hdr j v hv
      · rw [List.getElem?_append_right (by omega)] at hv
        have ej : j = i := by
          have := (List.getElem?_eq_some_iff.mp hv).1
          simp at this
          omega
        subst ej
        rw [hvl] at hv
        have ev : v = ⟨c, st, sp⟩ := by simpa using hv.symm
        subst ev
        refine ⟨hc, hvo, fun s hs => ?_, hru⟩
        rcases List.mem_append.mp hs with z | z
        · split at z
          · cases z
          · rename_i zn
            rw [List.mem_singleton.mp z]
            rcases hst' with e | e
            · rw [e] at zn; exact absurd rfl zn
            · exact hsrc st e
        · exact hsrc s (hcp s z)
  · subst er
    walk_at "dw"
    exact h _ vs S3 (gen_of hcs (by omega) (by omega) hdr) ⟨fun z => by omega, rows, hp3, hst.wide fun i _ z => .inl z⟩ hB fr
end

open PySem PySem.Spec PyProof.Rows L2 DL
section
variable {S : Sto} {Q : D → Sto → Prop} {b n sh : Nat} {xs : List D} {A : Nat → Prop} {pre : List SV} {last : SV} {e : D} {w : Str} {at_ : Int} {l : List D}
theorem stages_gen (hb : Bag S b) (hn : S[n]? = some (.lst xs)) (hnb : n ≠ b) (hx : Nms 3 xs)
    (h : ∀ p vs S', GenV vs → StsAt (fun j => j < S.length) S' p vs → Bag S' b → Fr b S S' → Q (.ref p) S') : Run (m__law_stages [.ref b, .ref n]) S Q := by
  have hnl := get_lt hn
  unfold m__law_stages b__law_stages
  walk_at "dw"
  refine take_run hb (by decide) (by decide) fun i0 S1 z0 z1 hB1 fr1 => ?_
  have hbl := hB1.lt
  walk_at "dw"
  have fin : ∀ (S2 : Sto) (many top : Nat), S1[S1.length]? = none → Gw (S1 ++ [O.lst [D.str "src", D.str "base"]]) S2 → many ≤ 8 → 1 ≤ top → top ≤ 3 → Run (m__law_recipe [.ref b, .ref n, .ref S1.length, .int (many : Int), .int (top : Int)]) S2 Q := fun S2 many top _ g2 h1 h2 h3 => by
    have g12 := (Gw.one (o := .lst [D.str "src", D.str "base"])).trans g2
    have hl := fr1.len
    have hl2 := g12.len
    exact recipe_gen (g12.bag hB1) (g12.get (fr1.get hnb hn)) hnb hx (g2.get last_get) (by omega) h1 h2 h3 fun p vs S' hg hs hB fr => h p vs S' hg (hs.wide fun i _ z => by omega) hB (fr1.trans (g12.fr.trans fr))
  have none1 : S1[S1.length]? = none := List.getElem?_eq_none (Nat.le_refl _)
  by_cases hz : i0 = 0
  · subst hz
    walk_at "dw"
    refine (run_ixL last_get rfl).mpr ?_
    walk_at "dw"
    refine (run_ixL last_get rfl).mpr ?_
    walk_at "dw"
    exact fin _ 8 1 none1 (Gw.one.trans Gw.one) (by decide) (by decide) (by decide)
  · have e0 : (i0 == 0) = false := beq_eq_false_iff_ne.mpr hz
    rw [e0]
    walk_at "dw"
    refine (run_ixL last_get rfl).mpr ?_
    walk_at "dw"
    refine (run_ixL last_get rfl).mpr ?_
    walk_at "dw"
    exact fin _ 3 3 none1 (Gw.one.trans Gw.one) (by decide) (by decide) (by decide)
theorem sts_last (h : StsAt A S sh (pre ++ [last])) : ∃ ds m, S[sh]? = some (.lst (ds ++ [last.row m])) ∧ ds.length = pre.length ∧ S[m]? = some (.lst last.sp) ∧ ¬ A m ∧ StsL A S ds pre := by
  obtain ⟨_, ds, hn, hd⟩ := h
  obtain ⟨ds', d, rfl⟩ : ∃ ds' d, ds = ds' ++ [d] := by
    have := hd.1
    rcases List.eq_nil_or_concat ds with e | ⟨a, b, e⟩
    · rw [e] at this; simp at this
    · exact ⟨a, b, by rw [e, List.concat_eq_append]⟩
  have hdl : ds'.length = pre.length := by have := hd.1; simpa using this
  obtain ⟨p, rfl, hp0, hp⟩ := hd.2 ds'.length d last (by simp) (by rw [hdl]; simp)
  exact ⟨ds', p, hn, hdl, hp, hp0, hdl, fun i x v a b => hd.2 i x v (by rw [List.getElem?_append_left ((List.getElem?_eq_some_iff.mp a).1)]; exact a) (by rw [List.getElem?_append_left ((List.getElem?_eq_some_iff.mp b).1)]; exact b)⟩
theorem some_deed (hb : Bag S b) (hn : S[n]? = some (.lst xs)) (hnb : n ≠ b) (hx : Nms 3 xs) (hsh : StsAt A S sh (pre ++ [last])) (hAb : A b) (ok : VsOk pre last)
    (h : ∀ e w at_ l S', DeedF e w at_ l → Bag S' b → Fr b S S' → Q e S') : Run (m__law_some_deed [.ref b, .ref n, .ref sh]) S Q := by
  have hnl := get_lt hn
  have hbl := hb.lt
  have hl3 := ok.l3
  have hll := ok.lastOk.len
  obtain ⟨ds, m, hS, hdl, hm, hm0, hpre⟩ := sts_last hsh
  have hshb : sh ≠ b := fun z => hsh.1 (z ▸ hAb)
  have hmb : m ≠ b := fun z => hm0 (z ▸ hAb)
  unfold m__law_some_deed b__law_some_deed
  walk_at "dw"
  refine (run_ixL hS at_last).mpr ?_
  unfold SV.row
  walk_at "dw"
  refine (run_lenL hm).mpr ?_
  walk_at "dw"
  refine (run_ixL hS at_last).mpr ?_
  unfold SV.row
  walk_at "dw"
  refine run_par3.mpr ?_
  walk_at "dw"
  refine take_run hb (by decide) (by decide) fun way S1 w0 w1 hB1 fr1 => ?_
  walk_at "dw"
  refine take_run hB1 (by omega) (by omega) fun at1 S2 a0 a1 hB2 fr2 => ?_
  walk_at "dw"
  refine take_run hB2 (by decide) (by decide) fun t S3 t0 t1 hB3 fr3 => ?_
  walk_at "dw"
  refine (run_powI (by decide)).mpr ?_
  refine run_mulI.mpr ⟨by rw [Bool.or_eq_true]; exact .inl (small_of t0 (by omega)), ?_⟩
  walk_at "dw"
  have f3 := (fr1.trans fr2).trans fr3
  have e38 : (10 : Int) ^ (Int.toNat 38) = 10 ^ 38 := rfl
  rw [e38]
  have hfar : ∃ far : Int, far = (last.sp.length : Int) + 1 + t * 10 ^ 38 ∧ 0 ≤ far ∧ far < 10 ^ 39 := ⟨_, rfl, by
    have : 0 ≤ t * 10 ^ 38 := Int.mul_nonneg t0 (by decide)
    omega, by omega⟩
  obtain ⟨far, efar, far0, far1⟩ := hfar
  rw [← efar]
  have hS3 := f3.get hshb hS
  refine (run_slL (Gw.one.get hS3)).mpr ?_
  rw [cut_but]
  refine run_itAL last_get ?_
  refine comp_filter (p := fun _ => true) (f := rowNm) last_get (by omega) (fun d S4 hdm g4 => ?_) fun S4 g4 => ?_
  · obtain ⟨i, hi⟩ := List.getElem?_of_mem hdm
    obtain ⟨v, hv1, m, rfl, _, _⟩ := hpre.get hi
    unfold SV.row
    walk_at "dw"
    refine ⟨rfl, Gw.refl, fun _ => ?_⟩
    walk_at "dw"
    exact ⟨Gw.refl, rfl⟩
  rw [filter_true_map, hpre.nms]
  walk_at "dw"
  refine (run_mulL last_get (by decide) (by decide) (by rw [show (2 : Int).toNat = 2 from rfl, List.length_map, List.length_map]; have sz := small_len (n := 1000) (by decide); omega)).mpr ?_
  have gA : Gw (S3 ++ [O.lst [D.str "src", D.str "base"]]) (S4 ++ [O.lst ((pre.map (·.nm)).map D.str)]) := (Gw.one.trans g4).trans Gw.one
  refine (run_addL (Gw.one.get (gA.get last_get)) last_get (by
    rw [show (2 : Int).toNat = 2 from rfl, List.length_flatten, List.map_replicate, List.sum_replicate_nat, List.length_map, List.length_map]
    exact Nat.le_trans (show [D.str "src", D.str "base"].length + 2 * pre.length ≤ 1000 by show 2 + _ ≤ _; omega) (by decide))).mpr ?_
  walk_at "dw"
  have hnm : ∀ d ∈ ([D.str "src", .str "base"] ++ (List.replicate (2 : Int).toNat ((pre.map (·.nm)).map D.str)).flatten), ∃ x, d = .str x ∧ nmOk x = true := fun d hd => by
    rcases List.mem_append.mp hd with hd | hd
    · simp only [List.mem_cons, List.not_mem_nil, or_false] at hd
      rcases hd with rfl | rfl
      · exact ⟨_, rfl, by decide +kernel⟩
      · exact ⟨_, rfl, by decide +kernel⟩
    · obtain ⟨l, hl, hd⟩ := List.mem_flatten.mp hd
      rw [List.eq_of_mem_replicate hl, List.map_map] at hd
      obtain ⟨u, hu, rfl⟩ := List.mem_map.mp hd
      exact ⟨u.nm, rfl, (ok.ok u (by simp [hu])).nm⟩
  have hln : 1 ≤ ([D.str "src", .str "base"] ++ (List.replicate (2 : Int).toNat ((pre.map (·.nm)).map D.str)).flatten).length ∧ ([D.str "src", .str "base"] ++ (List.replicate (2 : Int).toNat ((pre.map (·.nm)).map D.str)).flatten).length ≤ 900 := by
    rw [List.length_append, show (2 : Int).toNat = 2 from rfl, List.length_flatten, List.map_replicate, List.sum_replicate_nat, List.length_map, List.length_map]
    constructor
    · show 1 ≤ 2 + _
      omega
    · show 2 + _ ≤ _
      omega
  have gB : Gw S3 (((S4 ++ [O.lst ((pre.map (·.nm)).map D.str)]) ++ [O.lst (List.replicate (2 : Int).toNat ((pre.map (·.nm)).map D.str)).flatten]) ++ [O.lst ([D.str "src", .str "base"] ++ (List.replicate (2 : Int).toNat ((pre.map (·.nm)).map D.str)).flatten)]) := ((Gw.one.trans gA).trans Gw.one).trans Gw.one
  have hsrc : (((S4 ++ [O.lst ((pre.map (·.nm)).map D.str)]) ++ [O.lst (List.replicate (2 : Int).toNat ((pre.map (·.nm)).map D.str)).flatten]) ++ [O.lst ([D.str "src", .str "base"] ++ (List.replicate (2 : Int).toNat ((pre.map (·.nm)).map D.str)).flatten)])[((S4 ++ [O.lst ((pre.map (·.nm)).map D.str)]) ++ [O.lst (List.replicate (2 : Int).toNat ((pre.map (·.nm)).map D.str)).flatten]).length]? = some (.lst ([D.str "src", .str "base"] ++ (List.replicate (2 : Int).toNat ((pre.map (·.nm)).map D.str)).flatten)) := last_get
  have hpl : S3.length ≤ ((S4 ++ [O.lst ((pre.map (·.nm)).map D.str)]) ++ [O.lst (List.replicate (2 : Int).toNat ((pre.map (·.nm)).map D.str)).flatten]).length := ((Gw.one.trans gA).trans Gw.one).len
  generalize ([D.str "src", .str "base"] ++ (List.replicate (2 : Int).toNat ((pre.map (·.nm)).map D.str)).flatten) = src at hnm hln gB hsrc
  generalize ((S4 ++ [O.lst ((pre.map (·.nm)).map D.str)]) ++ [O.lst (List.replicate (2 : Int).toNat ((pre.map (·.nm)).map D.str)).flatten]) = S5 at gB hsrc hpl
  have gB' : Gw S3 ((S5 ++ [O.lst src]) ++ [O.lst [D.str last.nm]]) := gB.trans Gw.one
  have hl3' : b < S3.length := hB3.lt
  refine take_run (gB'.bag hB3) (by decide) (by decide) fun q S6 q0 q1 hB6 fr6 => ?_
  walk_at "dw"
  have hsrc6 := fr6.get (by omega) (Gw.one.get (o := O.lst src) hsrc)
  have hown6 : S6[(S5 ++ [O.lst src]).length]? = some (.lst [D.str last.nm]) := fr6.get (by simp; omega) last_get
  have f36 : Fr b S3 S6 := gB'.fr.trans fr6
  obtain ⟨o, eo, ho0, ho1⟩ : ∃ o : Int, (if (q == 0) = true then (1 : Int) else 0) = o ∧ 0 ≤ o ∧ o ≤ 1 := ⟨_, rfl, by split <;> decide, by split <;> decide⟩
  rw [eo]
  refine (run_mulL hown6 ho0 (by omega) (Nat.le_trans (show [D.str last.nm].length * o.toNat ≤ 1000 by rw [List.length_singleton]; omega) (by decide))).mpr ?_
  refine (run_addL (Gw.one.get hsrc6) last_get (by
    rw [List.length_flatten, List.map_replicate, List.sum_replicate_nat, List.length_singleton]
    exact Nat.le_trans (show src.length + o.toNat * 1 ≤ 1000 by omega) (by decide))).mpr ?_
  walk_at "dw"
  have g67 : Gw S6 ((S6 ++ [O.lst (List.replicate o.toNat [D.str last.nm]).flatten]) ++ [O.lst (src ++ (List.replicate o.toNat [D.str last.nm]).flatten)]) := Gw.one.trans Gw.one
  have l6 : S3.length ≤ S6.length := f36.len
  refine step_runX (k2 := (src ++ (List.replicate o.toNat [D.str last.nm]).flatten).length) (g67.bag hB6) (g67.get (f36.get hnb (f3.get hnb hn))) hnb hx (by decide) (by decide) last_get (by simp; omega) ⟨rfl, fun d hd => ?_⟩ (by rw [List.length_append]; omega) (by
    rw [List.length_append, List.length_flatten, List.map_replicate, List.sum_replicate_nat, List.length_singleton]
    omega) fun s S8 hs _ _ hB8 fr8 => ?_
  · rcases List.mem_append.mp hd with hd | hd
    · exact hnm d hd
    · obtain ⟨l, hl, hd⟩ := List.mem_flatten.mp hd
      rw [List.eq_of_mem_replicate hl] at hd
      rw [List.mem_singleton.mp hd]
      exact ⟨_, rfl, ok.lastOk.nm⟩
  have f8 : Fr b S S8 := f3.trans (f36.trans (g67.fr.trans fr8))
  have hl8 : b < S8.length := hB8.lt
  have pick : ∀ (k : Int) (R : D → Sto → Prop), 0 < k → k < 1073741824 → (∀ v S', (v = at1 ∨ v = far) → Bag S' b → Fr b S8 S' → R (.int v) S') →
      Run (binM ixD (lstM (consA (getv 6) (consA (getv 7) (nilA)))) (clM intD (consA (binM eqD (clM (m__law_take) (consA (getv 0) (consA (cst (.int k)) (nilA)))) (cst (.int 0))) (nilA))) [some (.ref b), some (.ref n), some (.ref sh), some (.int last.sp.length), some (.str last.nm), some (.int way), some (.int at1), some (.int far), some (.ref S5.length), some s, none]) S8 R := fun k R k0 k1 hR => by
    walk_at "dw"
    refine take_run (Gw.one.bag hB8) k0 k1 fun q S9 q0 q1 hB9 fr9 => ?_
    walk_at "dw"
    refine ix_run (fr9.get (by omega) last_get) (by split <;> omega) (by show _ < (2 : Int); split <;> omega) fun d hd => ?_
    simp only [List.mem_cons, List.not_mem_nil, or_false] at hd
    rcases hd with rfl | rfl
    · exact hR _ S9 (.inl rfl) hB9 (Gw.one.fr.trans fr9)
    · exact hR _ S9 (.inr rfl) hB9 (Gw.one.fr.trans fr9)
  have bound : ∀ v : Int, v = at1 ∨ v = far → 0 ≤ v ∧ v < 10 ^ 39 := fun v hv => by
    rcases hv with rfl | rfl
    · omega
    · exact ⟨far0, far1⟩
  walk_at "dw"
  refine ite_b (fun hw2 => ?_) (fun hw2 => ?_)
  · refine run_ret.mpr (run_tup.mpr (run_consA.mpr (run_cst.mpr (run_consA.mpr (pick 8 _ (by decide) (by decide) fun v S9 hv hB9 fr9 => ?_)))))
    walk_at "dw"
    exact h _ "lose" v [] S9 ⟨rfl, (bound v hv).1, (bound v hv).2, fun x hx => by simp at hx, .inl ⟨rfl, rfl⟩⟩ hB9 (f8.trans fr9)
  walk_at "dw"
  refine ite_eq (fun hw3 => ?_) (fun hw3 => ?_)
  · refine run_ret.mpr (run_tup.mpr (run_consA.mpr (run_cst.mpr (run_consA.mpr (pick 8 _ (by decide) (by decide) fun v S9 hv hB9 fr9 => ?_)))))
    walk_at "dw"
    exact h _ "change" v [s] S9 ⟨rfl, (bound v hv).1, (bound v hv).2, fun x hx => by rw [List.mem_singleton.mp hx]; exact hs, .inr ⟨.inl rfl, s, rfl⟩⟩ hB9 (f8.trans fr9)
  · refine run_nx.mpr (on_nx.mpr ?_)
    refine run_ret.mpr (run_tup.mpr (run_consA.mpr (run_cst.mpr (run_consA.mpr (pick 12 _ (by decide) (by decide) fun v S9 hv hB9 fr9 => ?_)))))
    walk_at "dw"
    exact h _ "put" v [s] S9 ⟨rfl, (bound v hv).1, (bound v hv).2, fun x hx => by rw [List.mem_singleton.mp hx]; exact hs, .inr ⟨.inr rfl, s, rfl⟩⟩ hB9 (f8.trans fr9)
end

open PySem PySem.Spec PyProof.Rows L2 DL
theorem run_neEL {S : Sto} {QE : QX} {Q : D → Sto → Prop} {n m : Nat} {xs : List D} (hn : S[n]? = some (.lst xs)) (hm : S[m]? = some (.lst [])) : RunX (neD (.ref n) (.ref m)) S QE Q ↔ Q (.bl (!xs.isEmpty)) S := by unfold neD; exact run_ofB (by rw [eqB_empL hn hm]; rfl)
theorem run_mkH {S : Sto} {QE : QX} {Q : D → Sto → Prop} {c : Nat} {mf : List D → M D} {ds : List D} (h : Run (mkM c mf ds) S Q) : RunX (mkM c (hushM mf) ds) S QE Q := by
  obtain ⟨a, S', e, q⟩ := Run.ex h
  refine Run.of (a := a) (S' := S') ?_ q
  unfold mkM at e ⊢
  cases z : mf (.ref S.length :: ds) (S ++ [.ins c []]) with
  | ok x S2 =>
    rw [hush_ok z]
    simp only [z] at e ⊢
    exact e
  | err _ _ _ => simp only [z] at e; cases e
  | no => simp only [z] at e; cases e
theorem bad_filter (x : Str) (sp : List D) : (sp.filter fun d => isCopy d && isStr x (srcD d)).isEmpty = !badB x sp := by
  unfold badB cps
  induction sp with
  | nil => rfl
  | cons d sp ih =>
    rw [List.filter_cons, List.filter_cons]
    cases h1 : isCopy d with
    | true =>
      cases h2 : isStr x (srcD d) with
      | true => simp [h2]
      | false => simp [h2, ih]
    | false => simp [ih]
theorem total_int (vs : List SV) : (vs.map fun v => (runs v.sp : Int)).sum = (total vs : Nat) := by
  unfold total
  induction vs with
  | nil => rfl
  | cons v vs ih => simp only [List.map_cons, List.sum_cons, ih]; omega
section
variable {S : Sto} {Q : D → Sto → Prop} {sh : Nat} {A : Nat → Prop} {pre : List SV} {last : SV} {e : D} {w : Str} {at_ : Int} {l : List D}
theorem behind_run (hA : ∀ i, A i → i < S.length) (hsh : StsAt A S sh (pre ++ [last])) (ok : VsOk pre last) (dd : DeedF e w at_ l)
    (kE : ∀ c f v, outE pre last (isPut w) at_ l = some (c, f, v) → ∀ S', Gw S S' → Q (errD c v) S')
    (kO : outE pre last (isPut w) at_ l = none → ∀ S' n, Gw S S' → StsAt A S' n (pre ++ [last.withSp (later last.sp (isPut w) at_ l)]) → Q (.tup [.str "done", .ref n]) S') : Run (m__law_behind [.ref sh, e]) S Q := by
  obtain ⟨hll1, hll2⟩ := dd.len
  have hl3 := ok.l3
  have hsl := ok.lastOk.len
  have ed := dd.e
  subst ed
  have h0 := dd.h0
  have sz := small_len (n := 1000) (by decide)
  obtain ⟨ds, m, hS, hdl, hm, hm0, hpre⟩ := sts_last hsh
  have rest : ∀ n1 : ¬ ((last.sp.length : Int) < at_ ∨ (at_ = last.sp.length ∧ isPut w = false)), ¬ (isPut w = true ∧ last.sp.length = 8) → ∀ r7 r8 r9 r10 : Option D, Run ((seqM (asgM (binM addD (binM addD (slM (getv 4) (noP) (someP (getv 6))) (clM listD (consA (slM (getv 1) (someP (cst (.int 2))) (noP)) (nilA)))) (slM (getv 4) (someP (binM addD (getv 6) (clM intD (consA (notV (getv 5)) (nilA))))) (noP))) (gNm 7))
    (seqM (ifS (tstM (binM neD (lcM [9] (itAny (getv 7)) (gNm 9) (andT (tstM (binM eqD (binM ixD (getv 9) (cst (.int 0))) (cst (.str "copy")))) (tstM (binM eqD (binM ixD (getv 9) (cst (.int 1))) (getv 2)))) (getv 9)) (lstM (nilA)))) (retM (tupM (consA (cst (.str "stage")) (consA (getv 2) (nilA))))) (nxM))
    (seqM (asgM (binM addD (slM (getv 0) (noP) (someP (unM negD (cst (.int 1))))) (lstM (consA (tupM (consA (getv 2) (consA (getv 3) (consA (getv 7) (nilA))))) (nilA)))) (gNm 8))
    (seqM (ifS (tstM (binM gtD (clM sumD (consA (lcM [10] (itAny (getv 8)) (gNm 10) (yesM) (clM lenD (consA (lcM [9] (itAny (binM ixD (getv 10) (cst (.int 2)))) (gNm 9) (tstM (binM eqD (binM ixD (getv 9) (cst (.int 0))) (cst (.str "run")))) (getv 9)) (nilA)))) (nilA))) (cst (.int 4)))) (retM (tupM (consA (cst (.str "many")) (consA (cst (.int 4)) (nilA))))) (nxM))
    (retM (tupM (consA (cst (.str "done")) (consA (getv 8) (nilA)))))))))
      [some (.ref sh), some (.tup (.str w :: .int at_ :: l)), some (.str last.nm), some last.st, some (.ref m), some (.bl (isPut w)), some (.int at_), r7, r8, r9, r10]) S (onRet Q) := fun n1 n2' r7 r8 r9 r10 => by
    have ok2 := later_ok ok dd n1 n2'
    have hlt := ok2.lastOk.sp
    have hlt8 := ok2.lastOk.len
    have eo : outE pre last (isPut w) at_ l = recE pre (last.withSp (later last.sp (isPut w) at_ l)) := by unfold outE; rw [if_neg n1, if_neg n2']
    walk_at "dw"
    refine (run_slL hm).mpr ?_
    walk_at "dw"
    refine run_slT.mpr ?_
    walk_at "dw"
    refine run_listT.mpr ?_
    rw [cut_to h0, cut_from (by decide : (0 : Int) ≤ 2)]
    refine (run_addL (Gw.one.get last_get) last_get (by simp only [List.length_take]; show _ + l.length ≤ _; omega)).mpr ?_
    walk_at "dw"
    have i01 : (0 : Int) ≤ if (!isPut w) = true then 1 else 0 := by split <;> decide
    refine (run_slL (Gw.one.get (Gw.one.get (Gw.one.get hm)))).mpr ?_
    rw [cut_from (by omega)]
    refine (run_addL (Gw.one.get last_get) last_get (by simp only [List.length_append, List.length_take, List.length_drop]; show _ + l.length + _ ≤ _; omega)).mpr ?_
    walk_at "dw"
    have e1 : (last.sp.take at_.toNat ++ (D.str w :: .int at_ :: l).drop (Int.toNat 2)) ++ last.sp.drop (at_ + if (!isPut w) = true then 1 else 0).toNat = later last.sp (isPut w) at_ l := by
      unfold later
      show (last.sp.take at_.toNat ++ l) ++ _ = _
      have e2 : (at_ + if (!isPut w) = true then 1 else 0).toNat = at_.toNat + if isPut w = true then 0 else 1 := by
        cases isPut w <;> simp <;> omega
      rw [e2]
    rw [e1]
    have g5 : Gw S (((((S ++ [O.lst (last.sp.take at_.toNat)]) ++ [O.lst ((D.str w :: .int at_ :: l).drop (Int.toNat 2))]) ++ [O.lst (last.sp.take at_.toNat ++ (D.str w :: .int at_ :: l).drop (Int.toNat 2))]) ++ [O.lst (last.sp.drop (at_ + if (!isPut w) = true then 1 else 0).toNat)]) ++ [O.lst (later last.sp (isPut w) at_ l)]) := (((Gw.one.trans Gw.one).trans Gw.one).trans Gw.one).trans Gw.one
    have h5 : (((((S ++ [O.lst (last.sp.take at_.toNat)]) ++ [O.lst ((D.str w :: .int at_ :: l).drop (Int.toNat 2))]) ++ [O.lst (last.sp.take at_.toNat ++ (D.str w :: .int at_ :: l).drop (Int.toNat 2))]) ++ [O.lst (last.sp.drop (at_ + if (!isPut w) = true then 1 else 0).toNat)]) ++ [O.lst (later last.sp (isPut w) at_ l)])[((((S ++ [O.lst (last.sp.take at_.toNat)]) ++ [O.lst ((D.str w :: .int at_ :: l).drop (Int.toNat 2))]) ++ [O.lst (last.sp.take at_.toNat ++ (D.str w :: .int at_ :: l).drop (Int.toNat 2))]) ++ [O.lst (last.sp.drop (at_ + if (!isPut w) = true then 1 else 0).toNat)]).length]? = some (.lst (later last.sp (isPut w) at_ l)) := last_get
    have l5 : S.length ≤ ((((S ++ [O.lst (last.sp.take at_.toNat)]) ++ [O.lst ((D.str w :: .int at_ :: l).drop (Int.toNat 2))]) ++ [O.lst (last.sp.take at_.toNat ++ (D.str w :: .int at_ :: l).drop (Int.toNat 2))]) ++ [O.lst (last.sp.drop (at_ + if (!isPut w) = true then 1 else 0).toNat)]).length := (((Gw.one.trans Gw.one).trans Gw.one).trans Gw.one).len
    generalize ((((S ++ [O.lst (last.sp.take at_.toNat)]) ++ [O.lst ((D.str w :: .int at_ :: l).drop (Int.toNat 2))]) ++ [O.lst (last.sp.take at_.toNat ++ (D.str w :: .int at_ :: l).drop (Int.toNat 2))]) ++ [O.lst (last.sp.drop (at_ + if (!isPut w) = true then 1 else 0).toNat)]) = S4 at g5 h5 l5
    have hA4 : ¬ A S4.length := fun z => by have := hA _ z; omega
    have ep : S4.length = S4.length := rfl
    generalize S4 ++ [O.lst (later last.sp (isPut w) at_ l)] = S5 at g5 h5
    generalize S4.length = p at h5 l5 hA4
    refine run_itAL h5 ?_
    refine comp_filter (p := fun d => isCopy d && isStr last.nm (srcD d)) (f := id) h5 (by show (later last.sp (isPut w) at_ l).length ≤ _; have : (later last.sp (isPut w) at_ l).length ≤ 8 := hlt8; omega) (fun d S6 hdm g6 => ?_) fun S6 g6 => ?_
    · have hd := hlt d hdm
      obtain ⟨w2, x, l2, rfl⟩ := stp_shape hd
      walk_at "dw"
      refine ite_bo (fun hc => ?_) (fun hc => ?_)
      · have hc' : isCopy (.tup (.str w2 :: x :: l2)) = true := hc
        obtain ⟨y, ey, hy⟩ := stp_copy hd hc'
        have ey' : x = .str y := ey
        subst ey'
        walk_at "dw"
        refine ⟨?_, Gw.refl, fun _ => ?_⟩
        · show (y == last.nm) = (isCopy (.tup (.str w2 :: .str y :: l2)) && (y == last.nm))
          rw [hc']
          rfl
        · walk_at "dw"
          exact ⟨Gw.refl, rfl⟩
      · have hc' : isCopy (.tup (.str w2 :: x :: l2)) = false := hc
        refine ⟨?_, Gw.refl, fun z => ?_⟩
        · show false = (isCopy (.tup (.str w2 :: x :: l2)) && _)
          rw [hc']
          rfl
        · have z' : (isCopy (.tup (.str w2 :: x :: l2)) && isStr last.nm (srcD (.tup (.str w2 :: x :: l2)))) = true := z
          rw [hc'] at z'
          cases z'
    walk_at "dw"
    rw [List.map_id]
    refine (run_neEL (Gw.one.get last_get) last_get).mpr ?_
    rw [bad_filter, Bool.not_not]
    walk_at "dw"
    have g7 := (g6.trans (Gw.one (o := .lst ((later last.sp (isPut w) at_ l).filter fun d => isCopy d && isStr last.nm (srcD d))))).trans (Gw.one (o := .lst []))
    generalize (S6 ++ [O.lst ((later last.sp (isPut w) at_ l).filter fun d => isCopy d && isStr last.nm (srcD d))]) ++ [O.lst []] = S7 at g7
    have gs7 := g5.trans g7
    refine ite_bo (fun hb => ?_) (fun hb => ?_)
    · walk_at "dw"
      exact kE 2 "name" (.str last.nm) (by rw [eo]; unfold recE; exact if_pos hb) _ gs7
    · walk_at "dw"
      have hS7 := gs7.get hS
      refine (run_slL hS7).mpr ?_
      rw [cut_but]
      walk_at "dw"
      refine (run_addL (Gw.one.get last_get) last_get (Nat.le_trans (show ds.length + _ ≤ 1000 by rw [List.length_singleton]; omega) (Nat.le_of_lt sz))).mpr ?_
      walk_at "dw"
      have g8 : Gw S7 (((S7 ++ [O.lst ds]) ++ [O.lst [.tup [.str last.nm, last.st, .ref p]]]) ++ [O.lst (ds ++ [.tup [.str last.nm, last.st, .ref p]])]) := (Gw.one.trans Gw.one).trans Gw.one
      have h8 : (((S7 ++ [O.lst ds]) ++ [O.lst [.tup [.str last.nm, last.st, .ref p]]]) ++ [O.lst (ds ++ [.tup [.str last.nm, last.st, .ref p]])])[((S7 ++ [O.lst ds]) ++ [O.lst [.tup [.str last.nm, last.st, .ref p]]]).length]? = some (.lst (ds ++ [.tup [.str last.nm, last.st, .ref p]])) := last_get
      have l8 : S7.length ≤ ((S7 ++ [O.lst ds]) ++ [O.lst [.tup [.str last.nm, last.st, .ref p]]]).length := (Gw.one.trans Gw.one).len
      generalize ((S7 ++ [O.lst ds]) ++ [O.lst [.tup [.str last.nm, last.st, .ref p]]]) ++ [O.lst (ds ++ [.tup [.str last.nm, last.st, .ref p]])] = S8 at g8 h8
      have hA8 : ¬ A ((S7 ++ [O.lst ds]) ++ [O.lst [.tup [.str last.nm, last.st, .ref p]]]).length := fun z => by
        have := hA _ z
        have := gs7.len
        omega
      generalize ((S7 ++ [O.lst ds]) ++ [O.lst [.tup [.str last.nm, last.st, .ref p]]]).length = q at h8 hA8
      have gs8 := gs7.trans g8
      have hst : StsAt A S8 q (pre ++ [last.withSp (later last.sp (isPut w) at_ l)]) := ⟨hA8, _, h8, StsL.app (hpre.fr gs8.fa) (StsL.one ⟨p, rfl, hA4, g8.get (g7.get h5)⟩)⟩
      refine run_itAL h8 ?_
      refine comp_pair (P := fun i d y S' => ∃ v, (pre ++ [last.withSp (later last.sp (isPut w) at_ l)])[i]? = some v ∧ y = .int (runs v.sp : Nat)) (fun _ _ _ _ _ _ z => z) h8 (by rw [List.length_append, List.length_singleton]; omega) (fun i d S9 hi g9 => ?_) fun acc S9 g9 hl9 hP => ?_
      · obtain ⟨_, ds2, hq, hd2⟩ := hst
        rw [h8] at hq
        injection hq with hq
        injection hq with hq
        subst hq
        obtain ⟨v, hv1, mm, rfl, _, hmm⟩ := hd2.get hi
        have hvo := ok2.ok v (List.mem_of_getElem? hv1)
        unfold SV.row
        walk_at "dw"
        refine ⟨rfl, ?_⟩
        walk_at "dw"
        refine run_itAL (g9.get hmm) ?_
        refine comp_filter (p := isRun) (f := id) (g9.get hmm) (by have := hvo.len; omega) (fun d S10 hdm g10 => ?_) fun S10 g10 => ?_
        · obtain ⟨w2, x, l2, rfl⟩ := stp_shape (hvo.sp d hdm)
          walk_at "dw"
          refine ⟨rfl, Gw.refl, fun _ => ?_⟩
          walk_at "dw"
          exact ⟨Gw.refl, rfl⟩
        · walk_at "dw"
          refine (run_lenL last_get).mpr ?_
          exact ⟨g10.trans Gw.one, v, hv1, by rw [List.length_map]; rfl⟩
      · walk_at "dw"
        have hacc : acc = ((pre ++ [last.withSp (later last.sp (isPut w) at_ l)]).map fun v => (runs v.sp : Int)).map D.int := by
          have hll : (ds ++ [D.tup [.str last.nm, last.st, .ref p]]).length = (pre ++ [last.withSp (later last.sp (isPut w) at_ l)]).length := by simp [hdl]
          refine List.ext_getElem? fun i => ?_
          cases ha : acc[i]? with
          | none =>
            have := List.getElem?_eq_none_iff.mp ha
            rw [List.getElem?_eq_none (by simp only [List.length_map]; omega)]
          | some y =>
            have hi := (List.getElem?_eq_some_iff.mp ha).1
            obtain ⟨v, hv, rfl⟩ := hP i _ y (List.getElem?_eq_getElem (by omega)) ha
            rw [List.getElem?_map, List.getElem?_map, hv]
            rfl
        subst hacc
        refine (run_sumI last_get).mpr ?_
        rw [total_int]
        walk_at "dw"
        refine ite_b (fun hz => ?_) (fun hz => ?_)
        · walk_at "dw"
          exact kE 4 "limit" (.int 4) (by rw [eo]; unfold recE; rw [if_neg (by show ¬ badB last.nm _ = true; rw [show badB last.nm (last.withSp (later last.sp (isPut w) at_ l)).sp = false from hb]; exact Bool.false_ne_true), if_pos (by omega)]) _ ((gs8.trans g9).trans Gw.one)
        · walk_at "dw"
          exact kO (by rw [eo]; unfold recE; rw [if_neg (by show ¬ badB last.nm _ = true; rw [show badB last.nm (last.withSp (later last.sp (isPut w) at_ l)).sp = false from hb]; exact Bool.false_ne_true), if_neg (by omega)]) _ q ((gs8.trans g9).trans Gw.one) (hst.fr (g9.trans Gw.one).fa)
  unfold m__law_behind b__law_behind
  walk_at "dw"
  refine (run_ixL hS at_last).mpr ?_
  unfold SV.row
  walk_at "dw"
  refine (run_lenL hm).mpr ?_
  walk_at "dw"
  have after : ¬ ((last.sp.length : Int) < at_ ∨ (at_ = last.sp.length ∧ isPut w = false)) → ∀ r7 r8 r9 r10 : Option D, Run (seqM (ifS (andT (tstM (getv 5)) (tstM (binM eqD (clM lenD (consA (getv 4) (nilA))) (cst (.int 8))))) (retM (tupM (consA (cst (.str "many")) (consA (cst (.int 8)) (nilA))))) (nxM)) (seqM (asgM (binM addD (binM addD (slM (getv 4) (noP) (someP (getv 6))) (clM listD (consA (slM (getv 1) (someP (cst (.int 2))) (noP)) (nilA)))) (slM (getv 4) (someP (binM addD (getv 6) (clM intD (consA (notV (getv 5)) (nilA))))) (noP))) (gNm 7))
    (seqM (ifS (tstM (binM neD (lcM [9] (itAny (getv 7)) (gNm 9) (andT (tstM (binM eqD (binM ixD (getv 9) (cst (.int 0))) (cst (.str "copy")))) (tstM (binM eqD (binM ixD (getv 9) (cst (.int 1))) (getv 2)))) (getv 9)) (lstM (nilA)))) (retM (tupM (consA (cst (.str "stage")) (consA (getv 2) (nilA))))) (nxM))
    (seqM (asgM (binM addD (slM (getv 0) (noP) (someP (unM negD (cst (.int 1))))) (lstM (consA (tupM (consA (getv 2) (consA (getv 3) (consA (getv 7) (nilA))))) (nilA)))) (gNm 8))
    (seqM (ifS (tstM (binM gtD (clM sumD (consA (lcM [10] (itAny (getv 8)) (gNm 10) (yesM) (clM lenD (consA (lcM [9] (itAny (binM ixD (getv 10) (cst (.int 2)))) (gNm 9) (tstM (binM eqD (binM ixD (getv 9) (cst (.int 0))) (cst (.str "run")))) (getv 9)) (nilA)))) (nilA))) (cst (.int 4)))) (retM (tupM (consA (cst (.str "many")) (consA (cst (.int 4)) (nilA))))) (nxM))
    (retM (tupM (consA (cst (.str "done")) (consA (getv 8) (nilA)))))))))
      [some (.ref sh), some (.tup (.str w :: .int at_ :: l)), some (.str last.nm), some last.st, some (.ref m), some (.bl (isPut w)), some (.int at_), r7, r8, r9, r10]) S (onRet Q) := fun n1 r7 r8 r9 r10 => by
    walk_at "dw"
    refine ite_bo (fun hp => ?_) (fun hp => ?_)
    · walk_at "dw"
      refine (run_lenL hm).mpr ?_
      walk_at "dw"
      refine ite_eq (fun hz => ?_) (fun hz => ?_)
      · walk_at "dw"
        exact kE 4 "limit" (.int 8) (by unfold outE; rw [if_neg n1, if_pos ⟨hp, by omega⟩]) _ Gw.refl
      · refine run_nx.mpr (on_nx.mpr ?_)
        exact rest n1 (fun z => hz (by omega)) r7 r8 r9 r10
    · refine ite_fr rfl ?_
      refine run_nx.mpr (on_nx.mpr ?_)
      exact rest n1 (fun z => by rw [hp] at z; exact Bool.false_ne_true z.1) r7 r8 r9 r10
  refine ite_b (fun hz => ?_) (fun hz => ?_)
  · walk_at "dw"
    exact kE 3 "at" (.int at_) (by unfold outE; rw [if_pos (.inl hz)]) _ Gw.refl
  · walk_at "dw"
    refine (run_lenL hm).mpr ?_
    walk_at "dw"
    refine ite_eq (fun hz2 => ?_) (fun hz2 => ?_)
    · walk_at "dw"
      refine ite_bo (fun hp => ?_) (fun hp => ?_)
      · walk_at "dw"
        exact kE 3 "at" (.int at_) (by unfold outE; rw [if_pos (.inr ⟨hz2, not_t hp⟩)]) _ Gw.refl
      · refine run_nx.mpr (on_nx.mpr ?_)
        refine after ?_ _ _ _ _
        rintro (z | ⟨_, z⟩)
        · exact hz z
        · rw [show (w == "put") = isPut w from rfl, z] at hp
          cases hp
    · refine ite_fr rfl ?_
      refine run_nx.mpr (on_nx.mpr ?_)
      refine after ?_ _ _ _ _
      rintro (z | ⟨z, _⟩)
      · exact hz z
      · exact hz2 z
end

open PySem PySem.Spec PyProof.Rows L2 DL
theorem _root_.DL.FrA.mono {A B : Nat → Prop} {S S' : Sto} (h : FrA B S S') (k : ∀ i, B i → A i) : FrA A S S' := ⟨h.len, fun i hi n => h.at_ i hi fun z => n (k i z)⟩
theorem err_pz {pre : List SV} {last : SV} {e : D} {w : Str} {at_ : Int} {l : List D} {c : Nat} {f : Str} {v : D} (ok : VsOk pre last) (dd : DeedF e w at_ l) (h : outE pre last (isPut w) at_ l = some (c, f, v)) :
    ∃ word : Str, errD c v = .tup [.str word, v] ∧ (word == "done") = false ∧ Pz 1 1000 (.tup [.str word, v]) := by
  have two : ∀ {x : Str} {y : D}, txOk x = true → Pz 0 202 y → Pz 1 1000 (.tup [.str x, y]) := fun hx hy => (pz_tup (h := 0) (b := 202) (n := 2) (fun d hd => by
    rcases List.mem_cons.mp hd with rfl | hd
    · exact (pz_str hx).mono (by decide) (by decide)
    · rw [List.mem_singleton.mp hd]; exact hy) (Nat.le_refl _)).mono (Nat.le_refl _) (by decide)
  have int : ∀ {i : Int}, 0 ≤ i → i < 10 ^ 39 → Pz 0 202 (.int i) := fun h0 h1 => Pz.mono ⟨_, fun S => pg_big h0 h1⟩ (by decide) (by decide)
  have rec_ : ∀ {last' : SV}, last'.nm = last.nm → recE pre last' = some (c, f, v) → ∃ word : Str, errD c v = .tup [.str word, v] ∧ (word == "done") = false ∧ Pz 1 1000 (.tup [.str word, v]) := fun hl h => by
    unfold recE at h
    split at h
    · cases h
      exact ⟨"stage", rfl, by decide +kernel, two (by decide +kernel) (by rw [hl]; exact Pz.mono ⟨_, fun S => pg_tx (tx2_nm ok.lastOk.nm)⟩ (by decide) (by decide))⟩
    · split at h
      · cases h
        exact ⟨"many", rfl, by decide +kernel, two (by decide +kernel) (int (by decide) (by decide))⟩
      · cases h
  unfold outE at h
  split at h
  · cases h
    exact ⟨"step", rfl, by decide +kernel, two (by decide +kernel) (int dd.h0 dd.h1)⟩
  · split at h
    · cases h
      exact ⟨"many", rfl, by decide +kernel, two (by decide +kernel) (int (by decide) (by decide))⟩
    · exact rec_ (last' := last.withSp (later last.sp (isPut w) at_ l)) rfl h
theorem done_pz {x : D} (h : x = .non ∨ Stp x) : Pz 5 60000 (.tup [.str "done", x]) := by
  refine (pz_tup (h := 4) (b := 24131) (n := 2) (fun d hd => ?_) (Nat.le_refl _)).mono (Nat.le_refl _) (by decide)
  rcases List.mem_cons.mp hd with rfl | hd
  · exact (pz_str (by decide +kernel)).mono (by decide) (by decide)
  · rw [List.mem_singleton.mp hd]
    rcases h with rfl | h
    · exact pz_non.mono (by decide) (by decide)
    · exact stp_pz h
theorem lists_pg {S : Sto} : ∀ {ys zs : List D}, ys.length = zs.length → (∀ (i : Nat) (y z : D), ys[i]? = some y → zs[i]? = some z → ∃ (q s : Nat) (vs : List SV) (A A' : Nat → Prop), y = .ref q ∧ z = .ref s ∧ (∀ v ∈ vs, v.Ok) ∧ vs.length ≤ 3 ∧ StsAt A S q vs ∧ StsAt A' S s vs) →
    ∃ ps, PgA S 7 1900000 ys ps ∧ PgA S 7 1900000 zs ps
  | [], [], _, _ => ⟨[], pga_nil, pga_nil⟩
  | y :: ys, z :: zs, hl, h => by
    obtain ⟨q, s, vs, A, A', rfl, rfl, hv, h3, h1, h2⟩ := h 0 y z rfl rfl
    obtain ⟨p, hp⟩ := sts_pg hv h3
    obtain ⟨ps, a, b⟩ := lists_pg (ys := ys) (zs := zs) (by simpa using hl) fun i y z hy hz => h (i + 1) y z (by simpa using hy) (by simpa using hz)
    exact ⟨p :: ps, pga_cons (hp _ _ _ h1) a, pga_cons (hp _ _ _ h2) b⟩
  | [], _ :: _, hl, _ => by simp at hl
  | _ :: _, [], hl, _ => by simp at hl
/-! ### the law's turns -/
structure LS (B : Nat → Prop) (k r d f g : Nat) (vs0 : List SV) (S : Sto) (m lg sh u c : Nat) (rs ds : List D) (pre : List SV) (last : SV) : Prop where
  bk : BkAt S k r d u c (rs ++ [.ref m]) ds
  rh : ∃ rs', rs ++ [.ref m] = .ref g :: rs'
  Rg : RcAt B S g vs0
  Sf : StsAt B S f vs0
  ok : VsOk pre last
  Rm : RcAt B S m (pre ++ [last])
  Ss : StsAt B S sh (pre ++ [last])
  lgl : S[lg]? = some (.lst ds)
  lgB : ¬ B lg
  dds : Dds ds
def TlOk (B : Nat → Prop) (S : Sto) (tl : List D) : Prop := ∀ x ∈ tl, ∃ m sh pre last, x = .tup [.ref m, .ref sh] ∧ VsOk pre last ∧ RcAt B S m (pre ++ [last]) ∧ StsAt B S sh (pre ++ [last])
section
variable {B : Nat → Prop} {k r d f g : Nat} {vs0 : List SV} {S S' : Sto} {m lg sh u c : Nat} {rs ds tl : List D} {pre : List SV} {last : SV} {Q : D → Sto → Prop}
theorem TlOk.fr (h : TlOk B S tl) (f : FrA B S S') : TlOk B S' tl := fun x hx => let ⟨m, sh, pre, last, a, b, c, d⟩ := h x hx; ⟨m, sh, pre, last, a, b, c.fr f, d.fr f⟩
/-- moved on, the book's own places untouched -/
theorem LS.fr (h : LS B k r d f g vs0 S m lg sh u c rs ds pre last) (fr : FrA B S S') (hk : S'[k]? = S[k]?) (hr : S'[r]? = S[r]?) (hd : S'[d]? = S[d]?) : LS B k r d f g vs0 S' m lg sh u c rs ds pre last :=
  ⟨⟨hk.trans h.bk.bk, hr.trans h.bk.rc, hd.trans h.bk.dd⟩, h.rh, h.Rg.fr fr, h.Sf.fr fr, h.ok, h.Rm.fr fr, h.Ss.fr fr, fr.get h.lgB h.lgl, h.lgB, h.dds⟩
theorem LS.gw (h : LS B k r d f g vs0 S m lg sh u c rs ds pre last) (g' : Gw S S') : LS B k r d f g vs0 S' m lg sh u c rs ds pre last :=
  h.fr g'.fa ((g'.get h.bk.bk).trans h.bk.bk.symm) ((g'.get h.bk.rc).trans h.bk.rc.symm) ((g'.get h.bk.dd).trans h.bk.dd.symm)
theorem LS.right (h : LS B k r d f g vs0 S m lg sh u c rs ds pre last) (hv0 : ∀ v ∈ vs0, v.Ok) (h30 : vs0.length ≤ 3) (hdl : ds.length ≤ 1000) (hk : ∀ S', Gw S S' → Q (.bl true) S') : Run (m__law_book_right [.ref k, .ref f, .ref lg, .ref sh]) S Q := by
  obtain ⟨rs', e⟩ := h.rh
  exact book_right_run hv0 h30 h.ok.ok h.ok.le3 h.bk.bk (by rw [← e]; exact h.bk.rc) ⟨rs, e.symm⟩ h.bk.dd h.Rg h.Rm h.Sf h.Ss h.lgl h.dds hdl hk
end

open PySem PySem.Spec PyProof.Rows L2 DL
theorem law_run (ns : List Int) (hns : ns.length ≤ 63) : Run (m_law [.fl (ns.map DL.D.int)]) [] fun d _ => d = .bl true := by
  unfold m_law b_law
  walk_at "dw"
  refine bag_run (by omega) fun S1 hB1 hl1 => ?_
  walk_at "dw"
  refine names_run (k := 3) (by decide) (by decide) hB1 fun n xs S2 hn hnb hnl hx hB2 fr2 => ?_
  walk_at "dw"
  refine stages_gen hB2 hn hnb hx fun p vs0 S3 hg hs0 hB3 fr3 => ?_
  obtain ⟨pre0, last0, rfl, ok0, hrec0⟩ := hg.split
  have hn3 := fr3.get hnb hn
  have hnl2 := get_lt hn
  have hb2 := hB2.lt
  have hl23 := fr3.len
  have hlast := sts_last hs0
  have hs0' := hs0
  obtain ⟨_, ds0, hp0, hd0⟩ := hs0
  have hdl0 := hd0.1
  have hle0 := ok0.le3
  walk_at "dw"
  refine run_itAL hp0 ?_
  refine comp_pair (P := fun i d y S' => ∃ v, (pre0 ++ [last0])[i]? = some v ∧ StAt (fun j => j < S3.length) S' y v) (fun i d y S7 S8 g ⟨v, a, b⟩ => ⟨v, a, b.fr g.fa⟩) hp0 (by omega) (fun i d S4 hi g4 => ?_) fun acc S4 g4 hl4 hP => ?_
  · obtain ⟨v, hv1, m, rfl, hm0, hm⟩ := hd0.get hi
    unfold SV.row
    walk_at "dw"
    refine ⟨rfl, ?_⟩
    walk_at "dw"
    refine (run_listL (g4.get hm)).mpr ?_
    walk_at "dw"
    exact ⟨Gw.one, v, hv1, _, rfl, fun z => by have := g4.len; omega, last_get⟩
  walk_at "dw"
  have hf : StsAt (fun j => j < S3.length) (S4 ++ [O.lst acc]) S4.length (pre0 ++ [last0]) := ⟨fun z => by have := g4.len; omega, acc, last_get, by rw [hl4, hdl0], fun i y v hy hv => by
    obtain ⟨d, hd2⟩ : ∃ d, ds0[i]? = some d := ⟨ds0[i]'(by rw [← hl4]; exact (List.getElem?_eq_some_iff.mp hy).1), List.getElem?_eq_getElem _⟩
    obtain ⟨v', a, b⟩ := hP i d y hd2 hy
    rw [hv] at a
    cases a
    exact b.fr Gw.one.fa⟩
  have g35 : Gw S3 (S4 ++ [O.lst acc]) := g4.trans Gw.one
  have hfl := hf.lt
  generalize S4 ++ [O.lst acc] = S5 at hf g35 hfl
  generalize S4.length = f at hf hfl
  refine run_mkH (recipe_run (A := fun j => j < S3.length) (fun i hi => Nat.lt_of_lt_of_le hi g35.len) ok0 (hs0'.fr g35.fa) (fun c f v e => by rw [hrec0] at e; cases e) fun _ S6 g g56 hgl hRg => ?_)
  walk_at "dw"
  refine run_par3.mpr ?_
  have ht7 : (S6 ++ [O.lst []])[S6.length]? = some (.lst []) := last_get
  have g67 : Gw S6 (S6 ++ [O.lst []]) := Gw.one
  have hl67 : (S6 ++ [O.lst []]).length = S6.length + 1 := by simp
  generalize S6 ++ [O.lst []] = S7 at ht7 g67 hl67
  generalize htt : S6.length = t at ht7 hl67
  walk_at "dw"
  have hRg7 := hRg.fr g67.fa
  have hRg' := hRg7
  obtain ⟨_, qg, hqg, _⟩ := hRg'
  refine run_mkH (book_init_run hqg fun S8 k r d u c g78 hkl hrl hdl hrd hkr hkd hbk => ?_)
  walk_at "dw"
  have g89 : Gw S8 (S8 ++ [O.lst []]) := Gw.one
  have hlg9 : (S8 ++ [O.lst []])[S8.length]? = some (.lst []) := last_get
  have hl89 : (S8 ++ [O.lst []]).length = S8.length + 1 := by simp
  generalize S8 ++ [O.lst []] = S9 at g89 hlg9 hl89
  generalize hlgg : S8.length = lg at hlg9 hl89
  have g59 : Gw S5 S9 := ((g56.trans g67).trans g78).trans g89
  have g39 := g35.trans g59
  obtain ⟨dsx, m0, hSx, hdx, hm0, hm0n, _⟩ := hlast
  have hm0l := get_lt hm0
  refine (run_ixL (g39.get hSx) at_last).mpr ?_
  unfold SV.row
  walk_at "dw"
  refine ⟨tyD_lst (g39.get hm0), ?_⟩
  walk_at "dw"
  refine (run_append (g39.get hm0) (small_len (by have := ok0.lastOk.len; omega))).mpr ?_
  walk_at "dw"
  have l35 := g35.len
  have l56 := g56.len
  have l78 := g78.len
  have l89 := g89.len
  have lk := get_lt hbk.bk
  have lr := get_lt hbk.rc
  have ld := get_lt hbk.dd
  -- all that moves from here on
  have fr910 : FrA (fun j => j < S3.length) S9 (S9.set m0 (.lst (last0.sp ++ [.int 0]))) := FrA.set (by omega)
  have hB10 : Bag (S9.set m0 (.lst (last0.sp ++ [.int 0]))) 2 := (g39.bag hB3).set (by omega)
  have hn10 : (S9.set m0 (.lst (last0.sp ++ [.int 0])))[n]? = some (.lst xs) := by rw [List.getElem?_set_ne (by omega)]; exact g39.get hn3
  have hl10 : (S9.set m0 (.lst (last0.sp ++ [.int 0]))).length = S9.length := by simp
  have hf9 := hf.fr g59.fa
  have hR9 := hRg7.fr (g78.trans g89).fa
  have hbk10 : BkAt (S9.set m0 (.lst (last0.sp ++ [.int 0]))) k r d u c [.ref g] [] := ⟨by rw [List.getElem?_set_ne (by omega)]; exact g89.get hbk.bk, by rw [List.getElem?_set_ne (by omega)]; exact g89.get hbk.rc, by rw [List.getElem?_set_ne (by omega)]; exact g89.get hbk.dd⟩
  have ht10 : (S9.set m0 (.lst (last0.sp ++ [.int 0])))[t]? = some (.lst []) := by rw [List.getElem?_set_ne (by omega)]; exact (g78.trans g89).get ht7
  have hlg10 : (S9.set m0 (.lst (last0.sp ++ [.int 0])))[lg]? = some (.lst []) := by rw [List.getElem?_set_ne (by omega)]; exact hlg9
  have hwf : ∀ i, i < S5.length → (i = 2 ∨ i = k ∨ i = r ∨ i = d ∨ i = t) → i < S3.length := fun i h1 h2 => by omega
  have hwg : ∀ i, i < S6.length → (i = 2 ∨ i = k ∨ i = r ∨ i = d ∨ i = t) → i < S3.length := fun i h1 h2 => by omega
  have fr510 : FrA (fun j => j < S3.length) S5 (S9.set m0 (.lst (last0.sp ++ [.int 0]))) := g59.fa.trans fr910
  have fr610 : FrA (fun j => j < S3.length) S6 (S9.set m0 (.lst (last0.sp ++ [.int 0]))) := ((g67.trans g78).trans g89).fa.trans fr910
  have hfB : StsAt (fun i => i = 2 ∨ i = k ∨ i = r ∨ i = d ∨ i = t) (S9.set m0 (.lst (last0.sp ++ [.int 0]))) f (pre0 ++ [last0]) := by
    have w := hf.wide (A' := fun i => i < S3.length ∨ i = k ∨ i = r ∨ i = d ∨ i = t) fun i h1 h2 => by omega
    exact (w.fr (fr510.mono fun i z => .inl z)).wide fun i _ z => by omega
  have hRB : RcAt (fun i => i = 2 ∨ i = k ∨ i = r ∨ i = d ∨ i = t) (S9.set m0 (.lst (last0.sp ++ [.int 0]))) g (pre0 ++ [last0]) := by
    have w := hRg.wide (A' := fun i => i < S3.length ∨ i = k ∨ i = r ∨ i = d ∨ i = t) fun i h1 h2 => by omega
    exact (w.fr (fr610.mono fun i z => .inl z)).wide fun i _ z => by omega
  have hLS : LS (fun i => i = 2 ∨ i = k ∨ i = r ∨ i = d ∨ i = t) k r d f g (pre0 ++ [last0]) (S9.set m0 (.lst (last0.sp ++ [.int 0]))) g lg f u c [] [] pre0 last0 :=
    ⟨hbk10, ⟨[], rfl⟩, hRB, hfB, ok0, hRB, hfB, hlg10, fun z => by omega, fun e he => by simp at he⟩
  have hBl : ∀ i, (i = 2 ∨ i = k ∨ i = r ∨ i = d ∨ i = t) → i < (S9.set m0 (.lst (last0.sp ++ [.int 0]))).length := fun i z => by omega
  have hnB : ¬ (n = 2 ∨ n = k ∨ n = r ∨ n = d ∨ n = t) := fun z => by omega
  have k2 : k ≠ 2 := by omega
  have r2 : r ≠ 2 := by omega
  have d2 : d ≠ 2 := by omega
  have t2 : t ≠ 2 := by omega
  have tk : t ≠ k := by omega
  have tr : t ≠ r := by omega
  have td : t ≠ d := by omega
  generalize S9.set m0 (.lst (last0.sp ++ [.int 0])) = S10 at hB10 hn10 ht10 hLS hBl hl10
  have l39 := g39.len
  generalize hBB : (fun i => i = 2 ∨ i = k ∨ i = r ∨ i = d ∨ i = t) = B at hLS
  have b2 : B 2 := by rw [← hBB]; exact .inl rfl
  have bk : B k := by rw [← hBB]; exact .inr (.inl rfl)
  have br : B r := by rw [← hBB]; exact .inr (.inr (.inl rfl))
  have bd : B d := by rw [← hBB]; exact .inr (.inr (.inr (.inl rfl)))
  have bt : B t := by rw [← hBB]; exact .inr (.inr (.inr (.inr rfl)))
  have nB : ¬ B n := by rw [← hBB]; exact hnB
  have n2 : n ≠ 2 := fun z => hnB (.inl z)
  have hBl' : ∀ i, B i → i < S10.length := by rw [← hBB]; exact hBl
  have hdo : ∀ i, (i = k ∨ i = r ∨ i = d) → B i := fun i z => by rcases z with rfl | rfl | rfl <;> assumption
  clear hBl hnB hf9 hR9 hwf hwg
  clear hBB
  walk_at "dw"
  refine run_itR1 (by decide) (by decide) ?_
  rw [size_rng]
  refine for_rng (len := (12 : Int).toNat) (fun i rr S' => i ≤ 12 ∧ Bag S' 2 ∧ S'[n]? = some (.lst xs) ∧ S10.length ≤ S'.length ∧ ∃ m lg sh u c rs ds tl pre last, LS B k r d f g (pre0 ++ [last0]) S' m lg sh u c rs ds pre last ∧ ds.length ≤ i ∧ rs.length ≤ i ∧ S'[t]? = some (.lst tl) ∧ tl.length = i ∧ TlOk B S' tl ∧
      ∃ a10 a11 a12 a13 a14 a15 a16 a17 a18 a19 a20, rr = [some (.fl (ns.map DL.D.int)), some (.ref 2), some (.ref n), some (.ref p), some (.ref f), some (.ref g), some (.ref t), some (.ref k), some (.ref lg), some (.ref sh), a10, a11, a12, a13, a14, a15, a16, a17, a18, a19, a20])
    ⟨by decide, hB10, hn10, Nat.le_refl _, g, lg, f, u, c, [], [], [], pre0, last0, hLS, Nat.le_refl _, Nat.le_refl _, ht10, rfl, fun x hx => by simp at hx, _, _, _, _, _, _, _, _, _, _, _, rfl⟩ (fun i rr S' hi ⟨hi12, hB, hnn, hlen, m, lg, sh, u, c, rs, ds, tl, pre, last, L, hdsl, hrsl, htt, htl, hTl, a10, a11, a12, a13, a14, a15, a16, a17, a18, a19, a20, er⟩ => ?_)
    fun rr S' ⟨hi12, hB, hnn, hlen, m, lg, sh, u, c, rs, ds, tl, pre, last, L, hdsl, hrsl, htt, htl, hTl, a10, a11, a12, a13, a14, a15, a16, a17, a18, a19, a20, er⟩ => ?_
  · subst er
    have hi11 : i < 12 := hi
    walk_at "dw"
    refine some_deed hB hnn n2 hx L.Ss b2 L.ok fun e w at_ l S1 dd hB1 fr1 => ?_
    have f1 : FrA B S' S1 := Fr.fa b2 fr1
    have L1 := L.fr f1 (fr1.at_ k (get_lt L.bk.bk) k2) (fr1.at_ r (get_lt L.bk.rc) r2) (fr1.at_ d (get_lt L.bk.dd) d2)
    have ht1 := fr1.get t2 htt
    have hTl1 := hTl.fr f1
    have hn1 := fr1.get n2 hnn
    have hl1' := fr1.len
    walk_at "dw"
    refine behind_run (A := B) (fun j hj => Nat.lt_of_lt_of_le (hBl' j hj) (by omega)) L1.Ss L1.ok dd (fun c1 f1' v1 ho S2 g2 => ?_) fun ho S2 nd g2 hS2 => ?_
    · have L2 := L1.gw g2
      have l2 := g2.len
      walk_at "dw"
      refine did_run (A := B) (fun j hj => Nat.lt_of_lt_of_le (hBl' j hj) (by omega)) bk br bd hrd hkr hkd L2.bk L2.Rm L2.ok dd (by omega) (by omega) (fun c2 f2 v2 ho2 S3' g3 => ?_) fun ho2 => by rw [ho] at ho2; cases ho2
      rw [ho] at ho2
      cases ho2
      have L3 := L2.gw g3
      have gs3 := g2.trans g3
      obtain ⟨word, ew, hwd, hpz⟩ := err_pz L.ok dd ho
      rw [ew]
      obtain ⟨pp, hpp⟩ := hpz
      walk_at "dw"
      refine ite_tr (by rw [hwd]; rfl) ?_
      walk_at "dw"
      refine alike_run (hpp S3') (hpp S3') (by decide) (by decide) ?_
      walk_at "dw"
      refine L3.right ok0.ok ok0.le3 (by omega) fun S4' g4' => ?_
      have L4 := L3.gw g4'
      have gs4 := gs3.trans g4'
      walk_at "dw"
      refine ⟨tyD_lst (gs4.get ht1), ?_⟩
      walk_at "dw"
      refine (run_insOk L4.bk.bk (lk_no (by decide +kernel) (by decide +kernel) (by decide +kernel) (by decide +kernel))).mpr ?_
      walk_at "dw"
      refine book_recipe_run L4.bk.bk L4.bk.rc ?_
      walk_at "dw"
      refine (run_append (gs4.get ht1) (small_len (by omega))).mpr ?_
      walk_at "dw"
      have f5 : FrA B S4' (S4'.set t (.lst (tl ++ [.tup [.ref m, .ref sh]]))) := FrA.set bt
      have hl4 := gs4.len
      have L5 := L4.fr f5 (List.getElem?_set_ne tk) (List.getElem?_set_ne tr) (List.getElem?_set_ne td)
      refine ⟨by omega, (gs4.bag hB1).set (by omega), f5.get nB (gs4.get hn1), by rw [List.length_set]; omega, m, lg, sh, u, c, rs, ds, tl ++ [.tup [.ref m, .ref sh]], pre, last, L5, by omega, by omega, List.getElem?_set_self (get_lt (gs4.get ht1)), by simp [htl], fun x hx => ?_, _, _, _, _, _, _, _, _, _, _, _, rfl⟩
      rcases List.mem_append.mp hx with hx | hx
      · exact (hTl1.fr (gs4.fa.trans f5)) x hx
      · rw [List.mem_singleton.mp hx]
        exact ⟨m, sh, pre, last, rfl, L5.ok, L5.Rm, L5.Ss⟩
    · have L2 := L1.gw g2
      have l2 := g2.len
      have ho' := ho
      walk_at "dw"
      refine did_run (A := B) (fun j hj => Nat.lt_of_lt_of_le (hBl' j hj) (by omega)) bk br bd hrd hkr hkd L2.bk L2.Rm L2.ok dd (by omega) (by omega) (fun c2 f2 v2 ho2 => by rw [ho] at ho2; cases ho2) fun ho2 S3' m' u' x f3 hbk3 hm'l hR3 hx3 => ?_
      have fB3 : FrA B S2 S3' := f3.mono hdo
      have l3 := f3.len
      have n1 : ¬ ((last.sp.length : Int) < at_ ∨ (at_ = last.sp.length ∧ isPut w = false)) := fun z => by unfold outE at ho; rw [if_pos z] at ho; cases ho
      have n2' : ¬ (isPut w = true ∧ last.sp.length = 8) := fun z => by unfold outE at ho; rw [if_neg n1, if_pos z] at ho; cases ho
      have ok' := later_ok L.ok dd n1 n2'
      have ht3 : S3'[t]? = some (.lst tl) := by rw [f3.at_ t (get_lt (g2.get ht1)) (fun z => by rcases z with z | z | z <;> contradiction)]; exact g2.get ht1
      have hB3' : Bag S3' 2 := by
        obtain ⟨x, y, z, l, cells, q1, q2, q3, q4⟩ := (g2.bag hB1).ex
        have hl2 : ∀ i, i < S3.length → S3'[i]? = S2[i]? := fun i hi => f3.at_ i (by omega) fun z => by omega
        exact ⟨x, y, z, l, cells, (hl2 2 (by omega)).trans q1, (hl2 l (by omega)).trans q2, q3, q4⟩
      have hx' : x = .non ∨ Stp x := by
        split at hx3
        · exact .inl hx3
        · exact .inr (L.ok.lastOk.sp x (List.mem_of_getElem? hx3))
      obtain ⟨pp, hpp⟩ := done_pz hx'
      have hSs3 : StsAt B S3' sh (pre ++ [last]) := L2.Ss.fr fB3
      have hdd' : Dds (ds ++ [e]) := fun y hy => by
        rcases List.mem_append.mp hy with hy | hy
        · exact L.dds y hy
        · rw [List.mem_singleton.mp hy]; exact ⟨w, at_, l, dd⟩
      have ed := dd.e
      have hlg3 : S3'[lg]? = some (.lst ds) := fB3.get L.lgB L2.lgl
      have hnew : ∀ S4 : Sto, S3'.length ≤ S4.length → ¬ B S4.length := fun S4 hl z => by have := hBl' _ z; omega
      have taken : ∀ (Q' : D → Sto → Prop) (b12 b13 : Option D), Q' x S3' → Run (ifM (tstM (binM eqD (binM ixD (getv 11) (cst (.int 0))) (cst (.str "put")))) (cst .non) (binM ixD (binM ixD (binM ixD (getv 9) (unM negD (cst (.int 1)))) (cst (.int 2))) (binM ixD (getv 11) (cst (.int 1))))
          [some (.fl (ns.map DL.D.int)), some (.ref 2), some (.ref n), some (.ref p), some (.ref f), some (.ref g), some (.ref t), some (.ref k), some (.ref lg), some (.ref sh), some (.int (0 + (i : Nat))), some e, b12, b13, a14, a15, a16, a17, a18, a19, a20]) S3' Q' := fun Q' b12 b13 hq => by
        subst ed
        walk_at "dw"
        refine ite_bo (fun hp => ?_) (fun hp => ?_)
        · have hp' : isPut w = true := hp
          rw [if_pos hp'] at hx3
          subst hx3
          walk_at "dw"
          exact hq
        · have hp' : isPut w = false := hp
          rw [if_neg (by rw [hp']; exact Bool.false_ne_true)] at hx3
          obtain ⟨dsy, my, hSy, _, hmy, _, _⟩ := sts_last hSs3
          walk_at "dw"
          refine (run_ixL hSy at_last).mpr ?_
          unfold SV.row
          walk_at "dw"
          have e1 : ((at_.toNat : Nat) : Int) = at_ := Int.toNat_of_nonneg dd.h0
          have e2 : atI last.sp at_ = some x := by
            have := at_nat hx3
            rw [e1] at this
            exact this
          exact (run_ixL hmy e2).mpr hq
      refine run_gNm.mpr (on_nx.mpr (run_seq.mpr (run_ifS.mpr ?_)))
      refine run_tst.mpr (run_bin.mpr (run_bin.mpr ?_))
      refine (run_getv rfl).mpr (run_cst.mpr ((run_ixT at0).mpr (run_cst.mpr (run_neS.mpr (run_asB.mpr ?_)))))
      refine ite_fr (by decide +kernel) ?_
      refine run_seq.mpr (run_asg.mpr (taken _ _ _ ?_))
      walk_at "dw"
      refine alike_run (hpp S3') (hpp S3') (by decide) (Nat.le_trans (show 60000 ≤ 60000 from Nat.le_refl _) (by decide)) ?_
      walk_at "dw"
      refine (run_addL (Gw.one.get hlg3) last_get (Nat.le_of_lt (small_len (by rw [List.length_singleton]; omega)))).mpr ?_
      walk_at "dw"
      have g34 : Gw S3' ((S3' ++ [O.lst [e]]) ++ [O.lst (ds ++ [e])]) := Gw.one.trans Gw.one
      have hlg' : ((S3' ++ [O.lst [e]]) ++ [O.lst (ds ++ [e])])[(S3' ++ [O.lst [e]]).length]? = some (.lst (ds ++ [e])) := last_get
      have hlgB' : ¬ B (S3' ++ [O.lst [e]]).length := hnew _ (by simp)
      generalize (S3' ++ [O.lst [e]]) ++ [O.lst (ds ++ [e])] = S4 at g34 hlg'
      generalize (S3' ++ [O.lst [e]]).length = lg' at hlg' hlgB'
      have L4 : LS B k r d f g (pre0 ++ [last0]) S4 m' lg' nd u' c (rs ++ [.ref m]) (ds ++ [e]) pre (last.withSp (later last.sp (isPut w) at_ l)) := by
        obtain ⟨rs', er⟩ := L.rh
        exact ⟨⟨g34.get hbk3.bk, g34.get hbk3.rc, g34.get hbk3.dd⟩, ⟨rs' ++ [.ref m'], by rw [er]; rfl⟩, (L2.Rg.fr fB3).fr g34.fa, (L2.Sf.fr fB3).fr g34.fa, ok', hR3.fr g34.fa, (hS2.fr fB3).fr g34.fa, hlg', hlgB', hdd'⟩
      refine L4.right ok0.ok ok0.le3 (by simp; omega) fun S5 g5 => ?_
      have L5 := L4.gw g5
      have g35' := g34.trans g5
      walk_at "dw"
      refine ⟨tyD_lst (g35'.get ht3), ?_⟩
      walk_at "dw"
      refine (run_insOk L5.bk.bk (lk_no (by decide +kernel) (by decide +kernel) (by decide +kernel) (by decide +kernel))).mpr ?_
      walk_at "dw"
      refine book_recipe_run L5.bk.bk L5.bk.rc ?_
      walk_at "dw"
      refine (run_append (g35'.get ht3) (small_len (by omega))).mpr ?_
      walk_at "dw"
      have f6 : FrA B S5 (S5.set t (.lst (tl ++ [.tup [.ref m', .ref nd]]))) := FrA.set bt
      have hl5 := g35'.len
      have L6 := L5.fr f6 (List.getElem?_set_ne tk) (List.getElem?_set_ne tr) (List.getElem?_set_ne td)
      refine ⟨by omega, (g35'.bag hB3').set (by omega), f6.get nB (g35'.get (fB3.get nB (g2.get hn1))), by rw [List.length_set]; omega, m', lg', nd, u', c, rs ++ [.ref m], ds ++ [e], tl ++ [.tup [.ref m', .ref nd]], pre, _, L6, by simp; omega, by simp; omega, List.getElem?_set_self (get_lt (g35'.get ht3)), by simp [htl], fun x hx => ?_, _, _, _, _, _, _, _, _, _, _, _, rfl⟩
      rcases List.mem_append.mp hx with hx | hx
      · exact (((hTl1.fr g2.fa).fr fB3).fr (g35'.fa.trans f6)) x hx
      · rw [List.mem_singleton.mp hx]
        exact ⟨m', nd, pre, _, rfl, L6.ok, L6.Rm, L6.Ss⟩
  · subst er
    have hno : ∀ {x : Str}, (x == "recipes_kept") = false → (x == "deeds") = false → (x == "undone") = false → (x == "own_cache") = false → ∀ {r d u c : Nat}, (bkF r d u c).lookup x = none := fun h1 h2 h3 h4 => lk_no h1 h2 h3 h4
    walk_at "dw"
    refine run_itAL htt ?_
    refine comp_pair (P := fun i x y S => ∃ q m sh pre last, x = .tup [.ref m, .ref sh] ∧ y = .ref q ∧ VsOk pre last ∧ StsAt (fun _ => False) S q (pre ++ [last]) ∧ StsAt B S sh (pre ++ [last])) (fun i x y S1 S2 gg ⟨q, m, sh, pre, last, a, b, c, dd, e⟩ => ⟨q, m, sh, pre, last, a, b, c, dd.fr gg.fa, e.fr gg.fa⟩) htt (by omega) (fun i x S4 hi g4 => ?_) fun acc1 S4 g4 hl4 hP1 => ?_
    · obtain ⟨m1, sh1, pre1, last1, rfl, ok1, hR1, hS1⟩ := hTl x (List.mem_of_getElem? hi)
      have hR1' := hR1
      obtain ⟨_, q1, e1, _⟩ := hR1'
      obtain ⟨fs, hfs, hlk⟩ := ins_row (x := "stages") e1 (by decide +kernel)
      walk_at "dw"
      refine ⟨rfl, ?_⟩
      walk_at "dw"
      refine (run_insOk (g4.get hfs) hlk).mpr ?_
      walk_at "dw"
      exact stages_run (A := fun _ => False) (fun _ z => z.elim) (by have := ok1.le3; omega) (hR1.fr g4.fa) fun S5 nn g5 _ hS5 => ⟨g5, nn, m1, sh1, pre1, last1, rfl, rfl, ok1, hS5, (hS1.fr g4.fa).fr g5.fa⟩
    walk_at "dw"
    have g5 : Gw S' (S4 ++ [O.lst acc1]) := g4.trans Gw.one
    have hacc1 : (S4 ++ [O.lst acc1])[S4.length]? = some (.lst acc1) := last_get
    have hP1' : ∀ (i : Nat) (x y : D), tl[i]? = some x → acc1[i]? = some y → ∃ q m sh pre last, x = .tup [.ref m, .ref sh] ∧ y = .ref q ∧ VsOk pre last ∧ StsAt (fun _ => False) (S4 ++ [O.lst acc1]) q (pre ++ [last]) ∧ StsAt B (S4 ++ [O.lst acc1]) sh (pre ++ [last]) := fun i x y a b => let ⟨q, m, sh, pre, last, h1, h2, h3, h4, h5⟩ := hP1 i x y a b; ⟨q, m, sh, pre, last, h1, h2, h3, h4.fr Gw.one.fa, h5.fr Gw.one.fa⟩
    generalize S4 ++ [O.lst acc1] = S5 at g5 hacc1 hP1'
    generalize S4.length = ia1 at hacc1
    refine run_itAL (g5.get htt) ?_
    refine comp_pair (P := fun i x y S => ∃ m sh, x = .tup [.ref m, .ref sh] ∧ y = .ref sh) (fun i x y S1 S2 gg z => z) (g5.get htt) (by omega) (fun i x S6 hi g6 => ?_) fun acc2 S6 g6 hl6 hP2 => ?_
    · obtain ⟨m1, sh1, pre1, last1, rfl, ok1, hR1, hS1⟩ := hTl x (List.mem_of_getElem? hi)
      walk_at "dw"
      refine ⟨rfl, ?_⟩
      walk_at "dw"
      exact ⟨Gw.refl, m1, sh1, rfl, rfl⟩
    walk_at "dw"
    have g8 : Gw S5 ((S6 ++ [O.lst acc2]) ++ [O.lst [.ref ia1, .ref S6.length]]) := (g6.trans Gw.one).trans Gw.one
    have hacc2 : ((S6 ++ [O.lst acc2]) ++ [O.lst [.ref ia1, .ref S6.length]])[S6.length]? = some (.lst acc2) := Gw.one.get last_get
    have hk8 : ((S6 ++ [O.lst acc2]) ++ [O.lst [.ref ia1, .ref S6.length]])[(S6 ++ [O.lst acc2]).length]? = some (.lst [.ref ia1, .ref S6.length]) := last_get
    generalize (S6 ++ [O.lst acc2]) ++ [O.lst [.ref ia1, .ref S6.length]] = S8 at g8 hacc2 hk8
    generalize (S6 ++ [O.lst acc2]).length = ik at hk8
    generalize S6.length = ia2 at hacc2 hk8
    have L8 := L.gw (g5.trans g8)
    have hRg8 := L8.Rg
    obtain ⟨_, qg8, eg8, _⟩ := hRg8
    obtain ⟨fs, hfs, hlk⟩ := ins_row (x := "stages") eg8 (by decide +kernel)
    refine (run_insOk hfs hlk).mpr ?_
    walk_at "dw"
    refine stages_run (A := fun _ => False) (fun _ z => z.elim) (by omega) L8.Rg fun S9 n9 g9 _ hS9 => ?_
    walk_at "dw"
    refine (sts_ne ok0.ok ok0.le3 hS9 (L8.Sf.fr g9.fa)).mpr ?_
    walk_at "dw"
    refine (run_ixL (g9.get hk8) rfl).mpr ?_
    walk_at "dw"
    refine (run_ixL (g9.get hk8) rfl).mpr ?_
    obtain ⟨ps, hpa, hpb⟩ := lists_pg (S := S9) (ys := acc1) (zs := acc2) (by omega) fun i y z hy hz => by
      have hi := (List.getElem?_eq_some_iff.mp hy).1
      obtain ⟨x, hx⟩ : ∃ x, tl[i]? = some x := ⟨tl[i]'(by omega), List.getElem?_eq_getElem _⟩
      obtain ⟨q, m1, sh1, pre1, last1, rfl, rfl, ok1, h4, h5⟩ := hP1' i x y hx hy
      obtain ⟨m2, sh2, e2, rfl⟩ := hP2 i _ z hx hz
      cases e2
      exact ⟨q, sh1, pre1 ++ [last1], _, _, rfl, rfl, ok1.ok, ok1.le3, (h4.fr g8.fa).fr g9.fa, (h5.fr g8.fa).fr g9.fa⟩
    refine (pg_ne (pg_lst (g9.get (g8.get hacc1)) hpa) (pg_lst (g9.get hacc2) hpb) (by decide) (by decide)).mpr ?_
    walk_at "dw"
    have L9 := L8.gw g9
    refine run_mkH (recipe_run (A := fun _ => False) (fun _ z => z.elim) ok0 L9.Sf (fun c f v e => by rw [hrec0] at e; cases e) fun _ S10' g10 gg10 _ hRg10 => ?_)
    walk_at "dw"
    have hRg10' := hRg10
    obtain ⟨_, qg10, eg10, _⟩ := hRg10'
    refine run_mkH (book_init_run eg10 fun S11 k1 r1 d1 u1 c1 gg11 _ _ _ _ _ _ hbk11 => ?_)
    walk_at "dw"
    have L11 := (L9.gw gg10).gw gg11
    obtain ⟨rs', ers⟩ := L11.rh
    have hbkL := L11.bk
    rw [ers] at hbkL
    refine run_eqO hbk11.bk (eqSide_ins L11.bk.bk) (book_eq0_run ok0.ok ok0.le3 hbk11 hbkL (hRg10.fr gg11.fa) L11.Rg L11.dds ⟨_, rfl, ?_⟩)
    walk_at "dw"
    refine ite_bo (fun he => ?_) (fun he => ?_)
    · walk_at "dw"
      first | rfl | exact congrArg D.bl rfl
    · walk_at "dw"
      refine (run_eqEL (Gw.one.get L11.lgl) last_get).mpr ?_
      walk_at "dw"
      exact congrArg D.bl (not_f he)
theorem law_true (ns : List Int) (h : ns.length ≤ 63) : ∃ S', m_law [.fl (ns.map DL.D.int)] [] = .ok (.bl true) S' := by
  obtain ⟨a, S', e, q⟩ := Run.ex (law_run ns h)
  subst q
  exact ⟨S', e⟩

end W
set_option pp.deepTerms false
set_option pp.maxSteps 300
open PySem PySem.W PyProof.Rows
set_option maxRecDepth 100000 in
set_option maxHeartbeats 0 in
theorem PySem.Challenge.cw_recipelayers_k90_books_of_deeds_holds : PySem.Challenge.rw_recipelayers_k90_books_of_deeds.Holds := by
  w_on; o_law
  refine HandSHeadRun.head_any (r := PySem.W.OpenLaw.row PySem.Challenge.rw_recipelayers_k90_books_of_deeds) (q := W.lawView) (H := W.lawHook) (ob := W.lawOb) (M := 20000) (loose := W.names) (d := HandSHeadRun.topDef (PySem.W.OpenLaw.row PySem.Challenge.rw_recipelayers_k90_books_of_deeds).prog 117) (kwd := []) W.lawOb_eq
    (by kernel_rfl) (fun s => by kernel_rfl) W.top_run (by kernel_rfl) (by kernel_rfl) (by kernel_rfl) (by rfl) (by first | assumption | decide +kernel) (by decide +kernel) ⟨rfl, rfl, rfl, rfl, rfl, by decide +kernel⟩ ?hw ?hc
  case hw => w_witness2
  case hc =>
    refine DL.walk_GB (l := PySem.Challenge.rw_recipelayers_k90_books_of_deeds) (n := 63) (k := 17) (x := "_law_script") (mf := W.m_law) (by decide +kernel) rfl (by decide) (by kernel_rfl) ⟨rfl, by decide, by decide⟩ ?F (fun ns h => W.law_true ns h)
    intro w mg fa h Y G hmg0
    obtain ⟨K, KX, c⟩ := Y
    have hmg : mg ("law" : PySem.Str) = some (.ref fa) := by
      have e : (HandSHeadRun.topDef (PySem.W.OpenLaw.row PySem.Challenge.rw_recipelayers_k90_books_of_deeds).prog 117).name = ("law" : PySem.Str) := by kernel_rfl
      rw [← e]
      exact hmg0
    obtain ⟨Γ, T⟩ := W.facts KX G c
    obtain ⟨f, fd, F, g, hb⟩ := T.d_law.ex
    have e := hmg.symm.trans g
    cases e
    refine ⟨K, Γ, fd, KX, fun s u => ?_, fun base _ _ Z => W.ok_law F T Z⟩
    obtain ⟨_, _, _, _, _, _, _, _, _, rfl, _, _⟩ := F.ex
    exact .of_eq rfl
