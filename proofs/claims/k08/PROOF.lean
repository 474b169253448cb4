import PyProof.Rows.All
import Wide.All
import OpenK.AllK
import Wide.FinOn
import HandS.Words
import KE.KExcInit
import HandS.Head0
import HandS.Head1
import HandS.Head2
import HandS.Defaults
import HandS.HeadHook1
import HandS.HeadHook2
import HandS.HeadHook3
import HandS.HeadHook4
import HandS.ForMost
import HandS.ForExc
import HandS.Lambda
import HandS.TupAny
import HandS.TupMul
import HandS.Wide
import HandS.WideBits
import HandS.Walk
import HandS.RevRange
import HandS.IsInst
import HandS.More
import HandS.SortInts
import HandS.Style
import HandS.EndBits
import KE.GoesNew
import KE.GoesMore
import HandS.ExcIs
import HandS.ExcOwn
import HandS.Nested
import HandS.MakeKw
import HandS.ClsMeth
import KE.KMinKey
import KE.KNestM
import HandS.Codes
import HandS.HeadWalk
import HandS.EndTab
import HandS.SetFor
import HandS.NoneIn
import PyProof.ReprRoads
import HandS.FStr
import HandS.StrMore
import PyProof.StrBlock2
import HandS.Flt
import HandS.Flow
import HandS.TryOnly
import HandS.ExcInit
import HandS.ExcField
import KE.KExcIs
import PySem.Challenge.RW_pointpress_k08_where_it_fails
set_option Elab.async false
set_option linter.all false
set_option maxRecDepth 100000
set_option maxHeartbeats 16000000
open PySem.W (Frag nsIn findIn keepIn mg_of codeIn fnOf isFn hasDictIn plainGet plainOver makesIn mg_none_of)
namespace Hz
open PySem PySem.Spec PyProof.Rows L2
/-- a def without defaults, as the end wants it -/
theorem def_l {K : Frag} {nm q : Str} {a : Arguments} {b : List Stmt} {s : Scope} {f : Addr} {fd : FuncData} (F : FunD K nm q a b s [] [] f fd) :
    ∃ (oc : Value) (od : Option Addr) (sl : Array (Option Value)) (kV dc pm : Value) (an : Option Addr) (cd ct : Value),
      K.lookup f = some ⟨oc, od, .func (fnOf nm q a b s .none kV dc pm an cd ct), sl⟩ ∧ codeIn K cd q = true ∧ keepIn K (.ref f) = true := by
  obtain ⟨⟨oc, od, dV, kV, dc, pm, an, cd, ct, sl, e, l, c, d, k⟩, kp⟩ := F
  cases d with
  | inl h =>
    obtain ⟨_, h2⟩ := h
    subst h2 e
    exact ⟨oc, od, sl, kV, dc, pm, an, cd, ct, l, c, kp⟩
  | inr h => exact absurd rfl h.1
/-- a name of the module that stands for a whole number -/
def intB (K : Frag) (x : Str) (i : Int) : Bool := match nsIn K mainGlobals x with
  | some (some (.int j _)) => decide (j = i)
  | _ => false
theorem intB_ok {K : Frag} {x : Str} {i : Int} (c : intB K x i = true) : ∃ t, nsIn K mainGlobals x = some (some (.int i t)) := by
  unfold intB at c
  cases e : nsIn K mainGlobals x with
  | none => rw [e] at c; cases c
  | some o =>
    rw [e] at c
    cases o with
    | none => cases c
    | some v =>
      cases v with
      | int j t =>
        have ej : j = i := of_decide_eq_true c
        rw [ej]
        exact ⟨t, rfl⟩
      | _ => cases c
/-- a name of the module that stands for a text -/
def strB (K : Frag) (x y : Str) : Bool := match nsIn K mainGlobals x with
  | some (some (.str j _)) => decide (j = y)
  | _ => false
theorem strB_ok {K : Frag} {x y : Str} (c : strB K x y = true) : ∃ t, nsIn K mainGlobals x = some (some (.str y t)) := by
  unfold strB at c
  cases e : nsIn K mainGlobals x with
  | none => rw [e] at c; cases c
  | some o =>
    rw [e] at c
    cases o with
    | none => cases c
    | some v =>
      cases v with
      | str j t =>
        have ej : j = y := of_decide_eq_true c
        rw [ej]
        exact ⟨t, rfl⟩
      | _ => cases c
/-- what a class's name m is found to be: a built-in one -/
def fclN (K : Frag) (C : Addr) (m : Str) (n : String) : Bool := match PySem.W.findCls K (.ref C) (.type "type") m with
  | some (.val (.builtin b)) => decide (b = n)
  | _ => false
theorem fclN_ok {K : Frag} {C : Addr} {m : Str} {n : String} (c : fclN K C m n = true) : PySem.W.findCls K (.ref C) (.type "type") m = some (.val (.builtin n)) := by
  unfold fclN at c
  cases e : PySem.W.findCls K (.ref C) (.type "type") m with
  | none => rw [e] at c; cases c
  | some o =>
    rw [e] at c
    cases o with
    | val v =>
      cases v with
      | builtin b => rw [show b = n from of_decide_eq_true c]
      | _ => cases c
    | _ => cases c
/-- one fact off a row of them -/
theorem at_ {l : List Bool} (h : l.all (fun b => b) = true) (i : Nat) {b : Bool} (e : l[i]? = some b := by rfl) : b = true := List.all_eq_true.mp h b (List.mem_of_getElem? e)
theorem eq_at {α : Type} [DecidableEq α] {a b : α} (h : decide (a = b) = true) : a = b := of_decide_eq_true h
end Hz
namespace Hz
open PySem PySem.Spec PyProof.Rows L2
def refsR (o : Obj) : List Addr := match o.data with
  | .seq its _ => its.toList.flatMap He.refV
  | .dict es _ => es.toList.flatMap fun e => He.refV e.val
  | .func fd => He.refV fd.code
  | .cls cd => [cd.ns]
  | _ => []
def levR (g : Addr → Option Obj) : List Addr → List Addr
  | [] => []
  | a :: r => (match g a with | some o => refsR o | none => []) ++ levR g r
def asR (g : Addr → Option Obj) : Nat → List Addr → List Addr
  | 0, as => as
  | n + 1, as => as ++ asR g n (levR g as)
def frNs {α : Type} : List Nat → (List Nat → α) → α
  | [], k => k []
  | a :: r, k => HandSHeadRun.frNat a fun a => frNs r fun l => k (a :: l)
theorem frNs_eq {α : Type} : ∀ (l : List Nat) (k : List Nat → α), frNs l k = k l
  | [], _ => rfl
  | a :: r, k => by
    show HandSHeadRun.frNat a (fun a => frNs r fun l => k (a :: l)) = _
    rw [HandSHeadRun.frNat_eq, frNs_eq r]
def frV {α : Type} (v : Value) (k : Value → α) : α := match v with
  | .ref a => HandSHeadRun.frNat a fun a => k (.ref a)
  | v => k v
theorem frV_eq {α : Type} (v : Value) (k : Value → α) : frV v k = k v := by
  cases v with
  | ref a =>
    show HandSHeadRun.frNat a (fun a => k (.ref a)) = _
    rw [HandSHeadRun.frNat_eq]
  | _ => rfl
def frEs {α : Type} : List DictEntry → (List DictEntry → α) → α
  | [], k => k []
  | ⟨h, x, v⟩ :: r, k => frV v fun v => frEs r fun l => k (⟨h, x, v⟩ :: l)
theorem frEs_eq {α : Type} : ∀ (l : List DictEntry) (k : List DictEntry → α), frEs l k = k l
  | [], _ => rfl
  | ⟨h, x, v⟩ :: r, k => by
    show frV v (fun v => frEs r fun l => k (⟨h, x, v⟩ :: l)) = _
    rw [frV_eq, frEs_eq r]
def frO {α : Type} (o : Obj) (k : Obj → α) : α := match o with
  | ⟨c, d, .dict es n, sl⟩ => frEs es.toList fun l => k ⟨c, d, .dict ⟨l⟩ n, sl⟩
  | o => k o
theorem frO_eq {α : Type} (o : Obj) (k : Obj → α) : frO o k = k o := by
  obtain ⟨c, d, dt, sl⟩ := o
  cases dt <;> first | rfl | (show frEs _ _ = _; rw [frEs_eq])
def frK {α : Type} : List (Addr × Obj) → (List (Addr × Obj) → α) → α
  | [], k => k []
  | (a, o) :: r, k => HandSHeadRun.frNat a fun a => frO o fun o => frK r fun l => k ((a, o) :: l)
theorem frK_eq {α : Type} : ∀ (l : List (Addr × Obj)) (k : List (Addr × Obj) → α), frK l k = k l
  | [], _ => rfl
  | (a, o) :: r, k => by
    show HandSHeadRun.frNat a (fun a => frO o fun o => frK r fun l => k ((a, o) :: l)) = _
    rw [HandSHeadRun.frNat_eq, frO_eq, frK_eq r]
/-- what is looked at of K -/
def atK (fn : List He.DefD) (tf : List He.Defn) (ex : Frag → Bool) (g : Addr → Option Obj) (K : Frag) : He.AlX := (He.obsT [] fn [] K, ex K && He.tabsB g tf K)
def obsR (as0 : List Addr) (n : Nat) (fn : List He.DefD) (tf : List He.Defn) (ex : Frag → Bool) (g : Addr → Option Obj) : He.AlX :=
  frNs (asR g n as0) fun as => frK (He.frT g as) (atK fn tf ex g)
theorem obsR_K {as0 : List Addr} {n : Nat} {fn : List He.DefD} {tf : List He.Defn} {ex : Frag → Bool} {g : Addr → Option Obj} : obsR as0 n fn tf ex g = atK fn tf ex g (He.frT g (asR g n as0)) := by
  unfold obsR
  rw [frNs_eq, frK_eq]
theorem saysA_of {as : List Addr} {fn : List He.DefD} {tf : List He.Defn} {ex : Frag → Bool} {w : World} {h : Heap} (e : atK fn tf ex h.get? (He.frT h.get? as) = He.valX fn [] w) : He.SaysX [] fn [] tf ex w h (He.frT h.get? as) := by
  have e1 : He.obsT [] fn [] (He.frT h.get? as) = He.valT fn [] w := congrArg (fun z : He.AlX => z.1) e
  have e2 : (ex (He.frT h.get? as) && He.tabsB h.get? tf (He.frT h.get? as)) = true := congrArg (fun z : He.AlX => z.2) e
  obtain ⟨h1, h2⟩ := He.ba e2
  have key : ∀ p ∈ tf, PySem.W.codeHdIn (He.frT h.get? as) (He.cT (He.frT h.get? as) p).1 (He.cT (He.frT h.get? as) p).2 = true ∧ ∃ o, h.get? (He.cT (He.frT h.get? as) p).2 = some o ∧ He.emptyTab o = true := fun p hp => by
    obtain ⟨h3, h4⟩ := He.ba (List.all_eq_true.mp h2 p hp)
    refine ⟨h3, ?_⟩
    cases q : h.get? (He.cT (He.frT h.get? as) p).2 with
    | none =>
      rw [q] at h4
      cases h4
    | some o =>
      rw [q] at h4
      exact ⟨o, rfl, h4⟩
  exact ⟨e1, h1, fun p hp => (key p hp).1, fun p hp => by
    obtain ⟨_, o, q, z⟩ := key p hp
    exact He.frT_none q z, fun p hp => by
    obtain ⟨_, o, q, z⟩ := key p hp
    rw [q, He.emptyTab_eq z]⟩
def hookR (as0 : List Addr) (n : Nat) (fn : List He.DefD) (tf : List He.Defn) (ex : Frag → Bool) : PySem.W.Hook where
  α := He.AlX
  obs := fun s => obsR as0 n fn tf ex s.heap.get?
  val := fun w => He.valX fn [] w
  says := fun w h => ∃ K : Frag, K.In h ∧ He.SaysX [] fn [] tf ex w h K
  of := fun _ _ e => ⟨_, He.frT_in, saysA_of (obsR_K.symm.trans e)⟩
  keeps := fun _ _ _ ⟨K, hK, c⟩ k => ⟨K, Frag.In.keeps hK k, ⟨c.t, c.more, c.hd, c.out, fun p hp => k _ _ (c.empty p hp)⟩⟩
theorem obsR_eq {as0 : List Addr} {n : Nat} {fn : List He.DefD} {tf : List He.Defn} {ex : Frag → Bool} {g : Addr → Option Obj} {s : Shared} (h : ∀ a, g a = s.heap.get? a) : obsR as0 n fn tf ex g = (hookR as0 n fn tf ex).obs s := by
  have e : g = s.heap.get? := funext h
  rw [e] <;> rfl
end Hz
namespace LH
open PySem L2
def topS (i : Nat) : Stmt := PySem.Challenge.pw_pointpress_k08_where_it_fails.main.body.getD i (.Pass ⟨0, 0, 0, 0⟩)
def clsS (i j : Nat) : Stmt := match topS i with
  | .ClassDef (body := b) .. => b.getD j (.Pass ⟨0, 0, 0, 0⟩)
  | s => s
abbrev s_number_by : Stmt := topS 10
abbrev s_numbers_by : Stmt := topS 11
abbrev s_head_by : Stmt := topS 12
abbrev s_told_lines : Stmt := topS 13
abbrev s_read : Stmt := topS 14
abbrev s__law_cell_at : Stmt := topS 16
abbrev s__law_whole : Stmt := topS 17
abbrev s__law_mixed : Stmt := topS 18
abbrev s__law_power : Stmt := topS 19
abbrev s__law_point : Stmt := topS 20
abbrev s__law_picture : Stmt := topS 21
abbrev s__law_lines : Stmt := topS 22
abbrev s__law_loose : Stmt := topS 23
abbrev s__law_loose_lines : Stmt := topS 24
abbrev s__law_class : Stmt := topS 25
abbrev s__law_number : Stmt := topS 26
abbrev s__law_fault : Stmt := topS 27
abbrev s__law_changed : Stmt := topS 28
abbrev s__law_read : Stmt := topS 29
abbrev s_law : Stmt := topS 30
abbrev s_NoPicture_init : Stmt := clsS 2 0
def dd0 : He.DefD := ⟨("number_by", none), "number_by", "number_by", defArgs s_number_by, defBody s_number_by, defScope s_number_by, [], []⟩
def dd1 : He.DefD := ⟨("numbers_by", none), "numbers_by", "numbers_by", defArgs s_numbers_by, defBody s_numbers_by, defScope s_numbers_by, [], []⟩
def dd2 : He.DefD := ⟨("head_by", none), "head_by", "head_by", defArgs s_head_by, defBody s_head_by, defScope s_head_by, [], []⟩
def dd3 : He.DefD := ⟨("told_lines", none), "told_lines", "told_lines", defArgs s_told_lines, defBody s_told_lines, defScope s_told_lines, [], []⟩
def dd4 : He.DefD := ⟨("read", none), "read", "read", defArgs s_read, defBody s_read, defScope s_read, [], []⟩
def dd5 : He.DefD := ⟨("_law_cell_at", none), "_law_cell_at", "_law_cell_at", defArgs s__law_cell_at, defBody s__law_cell_at, defScope s__law_cell_at, [], []⟩
def dd6 : He.DefD := ⟨("_law_whole", none), "_law_whole", "_law_whole", defArgs s__law_whole, defBody s__law_whole, defScope s__law_whole, [], []⟩
def dd7 : He.DefD := ⟨("_law_mixed", none), "_law_mixed", "_law_mixed", defArgs s__law_mixed, defBody s__law_mixed, defScope s__law_mixed, [], []⟩
def dd8 : He.DefD := ⟨("_law_power", none), "_law_power", "_law_power", defArgs s__law_power, defBody s__law_power, defScope s__law_power, [], []⟩
def dd9 : He.DefD := ⟨("_law_point", none), "_law_point", "_law_point", defArgs s__law_point, defBody s__law_point, defScope s__law_point, [], []⟩
def dd10 : He.DefD := ⟨("_law_picture", none), "_law_picture", "_law_picture", defArgs s__law_picture, defBody s__law_picture, defScope s__law_picture, [], []⟩
def dd11 : He.DefD := ⟨("_law_lines", none), "_law_lines", "_law_lines", defArgs s__law_lines, defBody s__law_lines, defScope s__law_lines, [], []⟩
def dd12 : He.DefD := ⟨("_law_loose", none), "_law_loose", "_law_loose", defArgs s__law_loose, defBody s__law_loose, defScope s__law_loose, [], []⟩
def dd13 : He.DefD := ⟨("_law_loose_lines", none), "_law_loose_lines", "_law_loose_lines", defArgs s__law_loose_lines, defBody s__law_loose_lines, defScope s__law_loose_lines, [], []⟩
def dd14 : He.DefD := ⟨("_law_class", none), "_law_class", "_law_class", defArgs s__law_class, defBody s__law_class, defScope s__law_class, [], []⟩
def dd15 : He.DefD := ⟨("_law_number", none), "_law_number", "_law_number", defArgs s__law_number, defBody s__law_number, defScope s__law_number, [], []⟩
def dd16 : He.DefD := ⟨("_law_fault", none), "_law_fault", "_law_fault", defArgs s__law_fault, defBody s__law_fault, defScope s__law_fault, [], []⟩
def dd17 : He.DefD := ⟨("_law_changed", none), "_law_changed", "_law_changed", defArgs s__law_changed, defBody s__law_changed, defScope s__law_changed, [], []⟩
def dd18 : He.DefD := ⟨("_law_read", none), "_law_read", "_law_read", defArgs s__law_read, defBody s__law_read, defScope s__law_read, [], []⟩
def dd19 : He.DefD := ⟨("law", none), "law", "law", defArgs s_law, defBody s_law, defScope s_law, [], []⟩
def dd20 : He.DefD := ⟨("NoPicture", some "__init__"), "__init__", "NoPicture.__init__", defArgs s_NoPicture_init, defBody s_NoPicture_init, defScope s_NoPicture_init, [], []⟩
def fnL : List He.DefD := [dd0, dd1, dd2, dd3, dd4, dd5, dd6, dd7, dd8, dd9, dd10, dd11, dd12, dd13, dd14, dd15, dd16, dd17, dd18, dd19, dd20]
def tfL : List He.Defn := []
def ck0 (K : Frag) : List Bool := [decide (nsIn K mainGlobals "number_by" = some (some (.ref (He.ga K "number_by")))),
  decide (nsIn K mainGlobals "numbers_by" = some (some (.ref (He.ga K "numbers_by")))),
  decide (nsIn K mainGlobals "head_by" = some (some (.ref (He.ga K "head_by")))),
  decide (nsIn K mainGlobals "told_lines" = some (some (.ref (He.ga K "told_lines")))),
  decide (nsIn K mainGlobals "read" = some (some (.ref (He.ga K "read")))),
  decide (nsIn K mainGlobals "_law_cell_at" = some (some (.ref (He.ga K "_law_cell_at")))),
  decide (nsIn K mainGlobals "_law_whole" = some (some (.ref (He.ga K "_law_whole")))),
  decide (nsIn K mainGlobals "_law_mixed" = some (some (.ref (He.ga K "_law_mixed")))),
  decide (nsIn K mainGlobals "_law_power" = some (some (.ref (He.ga K "_law_power")))),
  decide (nsIn K mainGlobals "_law_point" = some (some (.ref (He.ga K "_law_point")))),
  decide (nsIn K mainGlobals "_law_picture" = some (some (.ref (He.ga K "_law_picture")))),
  decide (nsIn K mainGlobals "_law_lines" = some (some (.ref (He.ga K "_law_lines")))),
  decide (nsIn K mainGlobals "_law_loose" = some (some (.ref (He.ga K "_law_loose")))),
  decide (nsIn K mainGlobals "_law_loose_lines" = some (some (.ref (He.ga K "_law_loose_lines")))),
  decide (nsIn K mainGlobals "_law_class" = some (some (.ref (He.ga K "_law_class")))),
  decide (nsIn K mainGlobals "_law_number" = some (some (.ref (He.ga K "_law_number")))),
  decide (nsIn K mainGlobals "_law_fault" = some (some (.ref (He.ga K "_law_fault")))),
  decide (nsIn K mainGlobals "_law_changed" = some (some (.ref (He.ga K "_law_changed")))),
  decide (nsIn K mainGlobals "_law_read" = some (some (.ref (He.ga K "_law_read")))),
  decide (nsIn K mainGlobals "law" = some (some (.ref (He.ga K "law")))),
  Hz.intB K "MOST_SIDE" 40,
  Hz.intB K "MOST_DEPTH" 8,
  Hz.strB K "FIGURES" (Str.ofString "0123456789"),
  Hz.intB K "MOST_FIGURES" 9,
  decide (nsIn K mainGlobals "NoFile" = some (some (.ref (He.ga K "NoFile")))),
  decide (nsIn K mainGlobals "NoPicture" = some (some (.ref (He.ga K "NoPicture")))),
  decide (nsIn K mainGlobals "NoPlan" = some (some (.ref (He.ga K "NoPlan")))),
  decide (nsIn K mainGlobals "PressError" = some (some (.ref (He.ga K "PressError")))),
  decide (PySem.W.excInitIn K (He.ga K "NoPicture") [.type "ValueError", .type "Exception", .type "BaseException", .type "object"] "ValueError.__new__" = true),
  decide (hasDictIn K (He.ga K "NoPicture") = true),
  decide (findIn K (.ref (He.ga K "NoPicture")) "__setattr__" = some (some (.builtin "object.__setattr__"))),
  decide (PySem.W.subIn K (.ref (He.ga K "NoPicture")) (.type "BaseException") = some true)]
def ck1 (K : Frag) : List Bool := [decide (PySem.W.typeIn K (.ref (He.ga K "NoPicture")) = some (.type "type")),
  decide (keepIn K (.ref (He.ga K "NoPicture")) = true),
  decide (findIn K (.ref (He.ga K "NoPicture")) "row" = some none),
  decide (findIn K (.ref (He.ga K "NoPicture")) "__init__" = some (some (.ref (He.ma K (He.ga K "NoPicture") "__init__")))),
  decide (PySem.W.typeIn K (.ref (He.ma K (He.ga K "NoPicture") "__init__")) = some (.type "function")),
  decide (PySem.W.readsIn K (He.ga K "PressError") (.type "type") = true),
  decide (PySem.W.specialIn K (.ref (He.ga K "PressError")) "__getattribute__" = some (some (.builtin "type.__getattribute__"))),
  Hz.fclN K (He.ga K "PressError") "__init__" "ValueError.__init__",
  decide (findIn K (.ref (He.ga K "NoPicture")) "__getattribute__" = some (some (.builtin "BaseException.__getattribute__"))),
  decide (findIn K (.ref (He.ga K "NoPicture")) "__getattr__" = some none),
  decide (PySem.W.subIn K (.ref (He.ga K "NoPicture")) (.type "BaseException") = some true),
  decide (hasDictIn K (He.ga K "NoPicture") = true),
  decide (findIn K (.ref (He.ga K "NoPicture")) "__class__" = some (some (.builtin "object.__class__"))),
  decide (PySem.W.mroIn K (He.ga K "NoPicture") (.type "object") = some true),
  decide (PySem.W.kitOne K (.ref (He.ga K "NoPicture")) (.ref (He.ga K "NoFile")) = some false),
  decide (PySem.W.kitOne K (.ref (He.ga K "NoPicture")) (.ref (He.ga K "NoPicture")) = some true),
  decide (PySem.W.kitOne K (.ref (He.ga K "NoPicture")) (.ref (He.ga K "NoPlan")) = some false),
  decide (PySem.W.kitOne K (.ref (He.ga K "NoPicture")) (.type "ValueError") = some true),
  decide (PySem.W.exmOne K (.ref (He.ga K "NoPicture")) (.ref (He.ga K "PressError")) = some true),
  decide (nsIn K mainGlobals "ValueError" = some none),
  decide (PySem.W.specialIn K (.builtin "object.__class__") "__get__" = some (some (.builtin "getset_descriptor.__get__"))),
  decide (PySem.W.takesIn K (.builtin "object.__class__") = some true),
  decide (nsIn K mainGlobals "range" = some none),
  decide (nsIn K mainGlobals "len" = some none),
  decide (nsIn K mainGlobals "list" = some none),
  decide (nsIn K mainGlobals "tuple" = some none),
  decide (nsIn K mainGlobals "isinstance" = some none),
  decide (nsIn K mainGlobals "int" = some none),
  decide (nsIn K mainGlobals "bool" = some none),
  decide (nsIn K mainGlobals "str" = some none),
  decide (nsIn K mainGlobals "max" = some none),
  decide (nsIn K mainGlobals "min" = some none)]
def ck2 (K : Frag) : List Bool := [decide (nsIn K mainGlobals "abs" = some none),
  decide (nsIn K mainGlobals "all" = some none),
  decide (nsIn K mainGlobals "any" = some none),
  decide (nsIn K mainGlobals "sum" = some none),
  decide (nsIn K mainGlobals "sorted" = some none),
  decide (nsIn K mainGlobals "divmod" = some none),
  decide (nsIn K mainGlobals "enumerate" = some none),
  decide (nsIn K mainGlobals "zip" = some none),
  decide (nsIn K mainGlobals "reversed" = some none),
  decide (nsIn K mainGlobals "repr" = some none),
  decide (nsIn K mainGlobals "set" = some none)]
def exL (K : Frag) : Bool := (((true && (ck0 K).all (fun b => b)) && (ck1 K).all (fun b => b)) && (ck2 K).all (fun b => b))
abbrev R0 : PySem.W.OpenRow := PySem.W.OpenLaw.row PySem.Challenge.rw_pointpress_k08_where_it_fails
def nm0 : List PySem.Str := ["PressError", "NoPicture", "NoPlan", "NoFile", "MOST_SIDE", "MOST_DEPTH", "FIGURES", "MOST_FIGURES", "number_by", "numbers_by", "head_by", "told_lines", "read", "_law_cell_at", "_law_whole", "_law_mixed", "_law_power", "_law_point", "_law_picture", "_law_lines"]
def nm1 : List PySem.Str := ["_law_loose", "_law_loose_lines", "_law_class", "_law_number", "_law_fault", "_law_changed", "_law_read"]
def nmL : List PySem.Str := nm0 ++ nm1
abbrev hk : PySem.W.Hook := Hz.hookR [mainGlobals, cStatics] 4 fnL tfL exL
def ob (s : PySem.W.SharedT) : He.AlX := Hz.obsR [mainGlobals, cStatics] 4 fnL tfL exL (HandSHeadRun.getT s)
theorem ob_eq (s : PySem.W.SharedT) : ob s = hk.obs s.abs := Hz.obsR_eq (HandSHeadRun.getT_eq s)
theorem run (w : World) : HandSHeadRun.RunEq R0 (PySem.W.view R0.prog [30]) hk ob 20000 nmL w := by
  intro os
  kernel_rfl
end LH
namespace DL
open PySem L2
/-- Python's data, without addresses -/
inductive D where
  | non
  | bl (b : Bool)
  | int (i : Int)
  | str (x : Str)
  | tup (ds : List D)
  | lst (ds : List D)
  | ob (C : Addr) (ns : List Str) (ds : List D)
  | cl (a : Addr)
  | ex (C : Addr) (ds : List D)
/-- a raised exception: its class, what its fields hold -/
structure Ex where
  cls : Addr
  ds : List D
inductive R (α : Type) where
  | ok (a : α)
  | exc (x : Ex)
  | bad
def R.bind {α β : Type} : R α → (α → R β) → R β
  | .ok a, f => f a
  | .exc x, _ => .exc x
  | .bad, _ => .bad
instance : Monad R where
  pure := R.ok
  bind := R.bind
@[simp] theorem bind_ok {α β : Type} (a : α) (f : α → R β) : (R.ok a >>= f) = f a := rfl
@[simp] theorem bind_exc {α β : Type} (x : Ex) (f : α → R β) : ((R.exc x : R α) >>= f) = R.exc x := rfl
@[simp] theorem bind_bad {α β : Type} (f : α → R β) : ((R.bad : R α) >>= f) = R.bad := rfl
@[simp] theorem pure_ok {α : Type} (a : α) : (pure a : R α) = R.ok a := rfl
/-- the tables of code objects that a law's text may write, with the name of what they hold -/
class Tbs where
  T : List (Addr × Str)
def notTbl : HO → Bool
  | .tbl _ => false
  | _ => true
/-- what may be owned: lists, instances and their dicts -/
def ownK : HO → Bool
  | .lst _ => true
  | .ins _ _ _ => true
  | .own _ => true
  | _ => false
theorem notTbl_own {o : HO} (h : ownK o = true) : notTbl o = true := by cases o <;> first | rfl | cases h
structure Same (H H' : Hp) : Prop where
  keep : ∀ b o, H b = some o → notTbl o = true → H' b = some o
  there : ∀ b, H' b = none → H b = none
theorem Same.at_ {H H' : Hp} {b : Addr} {o : HO} (e : Same H H') (h : H b = some o) (n : notTbl o = true := by rfl) : H' b = some o := e.keep b o h n
theorem Same.free {H H' : Hp} (e : Same H H') {l : Addr} (h : H' l = none) : H l = none := e.there l h
theorem Same.ex {H H' : Hp} {a : Addr} {o : HO} (e : Same H H') (h : H a = some o) : ∃ o', H' a = some o' := by
  cases q : H' a with
  | none => rw [e.there a q] at h; cases h
  | some o' => exact ⟨o', rfl⟩
theorem Same.of {H H' : Hp} (h : ∀ b o, H b = some o → H' b = some o) : Same H H' := ⟨fun b o q _ => h b o q, fun b q => by
  cases z : H b with
  | none => rfl
  | some o => rw [h b o z] at q; cases q⟩
theorem Same.refl (H : Hp) : Same H H := .of fun _ _ h => h
theorem Same.trans {H H1 H2 : Hp} (a : Same H H1) (b : Same H1 H2) : Same H H2 := ⟨fun c o h n => b.keep c o (a.keep c o h n) n, fun c h => a.there c (b.there c h)⟩
theorem Same.seq {K : Frag} {H H' : Hp} {a : Addr} {xs : List V} (e : Same H H') (h : SqL K H a xs) : SqL K H' a xs := by
  rcases h with (h | ⟨o, h⟩) | h
  · exact .inl (.inl (e.at_ h))
  · exact .inl (.inr ⟨o, e.at_ h⟩)
  · exact .inr h
abbrev TbsOk [Tbs] (H : Hp) : Prop := LamX.Tabs Tbs.T H
theorem TbsOk.ext [Tbs] {H H' : Hp} (t : TbsOk H) (e : ∀ b o, H b = some o → H' b = some o) : TbsOk H' := LamX.Tabs.ext t e
/-- a list is written -/
theorem TbsOk.upd [Tbs] {H : Hp} {a : Addr} {o0 o : HO} (t : TbsOk H) (h : H a = some o0 ∧ ownK o0 = true) : TbsOk (upd H a o) := fun p hp => by
  obtain ⟨ps, h1, h2, h3⟩ := t p hp
  have n1 : p.1 ≠ a := ne_of h1 h.1 (fun z => by subst z; cases h.2)
  refine ⟨ps, by rw [upd_ne n1]; exact h1, h2, fun pos cv hc => ?_⟩
  obtain ⟨c, e1, e2⟩ := h3 pos cv hc
  have n2 : c ≠ a := ne_of e2 h.1 (fun z => by subst z; unfold LamX.CodeO at h; cases h.2)
  exact ⟨c, e1, by rw [upd_ne n2]; exact e2⟩
/-- what is free may be laid -/
theorem TbsOk.new [Tbs] {H : Hp} {a : Addr} {o : HO} (t : TbsOk H) (h : H a = none) : TbsOk (L2.upd H a o) := t.ext fun b u q => by rw [upd_ne (ne_of_none q h)]; exact q
/-- an error that was caught and kept: its class, its dict -/
def exO (a C : Addr) (dx : Option Addr) : HO := .ext fun h => ∃ oe vs, h.get? a = some oe ∧ Zc (.ref C) dx oe ∧ oe.data = .fields vs
mutual
inductive Fz (K : Frag) (F : Hp) : V → D → Prop
  | non : Fz K F .non .non
  | bl (b : Bool) : Fz K F (.bl b) (.bl b)
  | int (i : Int) : Fz K F (.int i) (.int i)
  | str (x : Str) : Fz K F (.str x) (.str x)
  | tup {a : Addr} {vs : List V} {ds : List D} : SqT K F a vs → FzL K F vs ds → Fz K F (.ref a) (.tup ds)
  | lst {a : Addr} {vs : List V} {ds : List D} : SqL K F a vs → FzL K F vs ds → Fz K F (.ref a) (.lst ds)
  | ob {a C dx : Addr} {fs : List (Str × V)} {ds : List D} : F a = some (.ins C dx fs) → F dx = some (.own a) → FzL K F (fs.map (·.2)) ds → Fz K F (.ref a) (.ob C (fs.map (·.1)) ds)
  | cl (a : Addr) : Fz K F (.ref a) (.cl a)
  | ex {a C : Addr} : F a = some (exO a C none) → Fz K F (.ref a) (.ex C [])
  | exr {a C dx : Addr} {v : V} {d : D} : F a = some (exO a C (some dx)) → F dx = some (.xd [("row", v)]) → Fz K F v d → Fz K F (.ref a) (.ex C [d])
inductive FzL (K : Frag) (F : Hp) : List V → List D → Prop
  | nil : FzL K F [] []
  | cons {v : V} {d : D} {vs : List V} {ds : List D} : Fz K F v d → FzL K F vs ds → FzL K F (v :: vs) (d :: ds)
end
theorem Same.sqt {K : Frag} {H H' : Hp} {a : Addr} {xs : List V} (e : Same H H') (h : SqT K H a xs) : SqT K H' a xs := by
  rcases h with (h | ⟨o, h⟩) | h
  · exact .inl (.inl (e.at_ h))
  · exact .inl (.inr ⟨o, e.at_ h⟩)
  · exact .inr h
mutual
theorem Fz.mono {K : Frag} {F F' : Hp} (e : Same F F') : ∀ {v : V} {d : D}, Fz K F v d → Fz K F' v d
  | _, _, .non => .non
  | _, _, .bl b => .bl b
  | _, _, .int i => .int i
  | _, _, .str x => .str x
  | _, _, .tup h hs => .tup (Same.sqt e h) (FzL.mono e hs)
  | _, _, .lst h hs => .lst (e.seq h) (FzL.mono e hs)
  | _, _, .ob h1 h2 hs => .ob (e.at_ h1) (e.at_ h2) (FzL.mono e hs)
  | _, _, .cl a => .cl a
  | _, _, .ex h => .ex (e.at_ h)
  | _, _, .exr h1 h2 h3 => .exr (e.at_ h1) (e.at_ h2) (Fz.mono e h3)
theorem FzL.mono {K : Frag} {F F' : Hp} (e : Same F F') : ∀ {vs : List V} {ds : List D}, FzL K F vs ds → FzL K F' vs ds
  | _, _, .nil => .nil
  | _, _, .cons h hs => .cons (Fz.mono e h) (FzL.mono e hs)
end
section
variable {K : Frag} {F : Hp}
theorem FzL.length : ∀ {vs : List V} {ds : List D}, FzL K F vs ds → vs.length = ds.length
  | _, _, .nil => rfl
  | _, _, .cons _ hs => by rw [List.length_cons, List.length_cons, FzL.length hs]
theorem FzL.get : ∀ {vs : List V} {ds : List D} {i : Nat} {d : D}, FzL K F vs ds → ds[i]? = some d → ∃ v, vs[i]? = some v ∧ Fz K F v d
  | _, _, i, d, .nil, e => by simp at e
  | _, _, 0, d, .cons h _, e => by simp at e; subst e; exact ⟨_, rfl, h⟩
  | _, _, i + 1, d, .cons _ hs, e => by
    obtain ⟨v, h1, h2⟩ := FzL.get (i := i) (d := d) hs (by simpa using e)
    exact ⟨v, by simpa using h1, h2⟩
theorem FzL.getV : ∀ {vs : List V} {ds : List D} {i : Nat} {v : V}, FzL K F vs ds → vs[i]? = some v → ∃ d, ds[i]? = some d ∧ Fz K F v d
  | _, _, i, d, .nil, e => by simp at e
  | _, _, 0, d, .cons h _, e => by simp at e; subst e; exact ⟨_, rfl, h⟩
  | _, _, i + 1, d, .cons _ hs, e => by
    obtain ⟨v, h1, h2⟩ := FzL.getV (i := i) (v := d) hs (by simpa using e)
    exact ⟨v, by simpa using h1, h2⟩
theorem FzL.append : ∀ {vs ws : List V} {ds es : List D}, FzL K F vs ds → FzL K F ws es → FzL K F (vs ++ ws) (ds ++ es)
  | _, _, _, _, .nil, h => h
  | _, _, _, _, .cons h hs, h' => .cons h (FzL.append hs h')
theorem FzL.take : ∀ {vs : List V} {ds : List D} (n : Nat), FzL K F vs ds → FzL K F (vs.take n) (ds.take n)
  | _, _, 0, _ => by simp only [List.take_zero]; exact .nil
  | _, _, _ + 1, .nil => .nil
  | _, _, n + 1, .cons h hs => .cons h (FzL.take n hs)
theorem FzL.drop : ∀ {vs : List V} {ds : List D} (n : Nat), FzL K F vs ds → FzL K F (vs.drop n) (ds.drop n)
  | _, _, 0, h => h
  | _, _, _ + 1, .nil => .nil
  | _, _, n + 1, .cons _ hs => FzL.drop n hs
theorem FzL.set : ∀ {vs : List V} {ds : List D} {v : V} {d : D} (i : Nat), FzL K F vs ds → Fz K F v d → FzL K F (vs.set i v) (ds.set i d)
  | _, _, _, _, _, .nil, _ => .nil
  | _, _, _, _, 0, .cons _ hs, h => .cons h hs
  | _, _, _, _, i + 1, .cons h' hs, h => .cons h' (FzL.set i hs h)
theorem FzL.reverse {vs : List V} {ds : List D} (h : FzL K F vs ds) : FzL K F vs.reverse ds.reverse := by
  induction vs generalizing ds with
  | nil => cases h; exact .nil
  | cons v vs ih =>
    cases h with
    | cons h1 h2 =>
      rw [List.reverse_cons, List.reverse_cons]
      exact (ih h2).append (.cons h1 .nil)
theorem FzL.rep {vs : List V} {ds : List D} (h : FzL K F vs ds) : ∀ k : Nat, FzL K F (List.replicate k vs).flatten (List.replicate k ds).flatten
  | 0 => .nil
  | k + 1 => by
    rw [List.replicate_succ, List.replicate_succ, List.flatten_cons, List.flatten_cons]
    exact h.append (FzL.rep h k)
theorem FzL.ints : ∀ (ns : List Int), FzL K F (ns.map V.int) (ns.map D.int)
  | [] => .nil
  | n :: ns => .cons (.int n) (FzL.ints ns)
end
mutual
inductive Bo (K : Frag) (H F : Hp) : V → D → Prop
  | fz {v : V} {d : D} : Fz K F v d → Bo K H F v d
  | lst {a : Addr} {vs : List V} {ds : List D} : SqL K H a vs → BoL K H F vs ds → Bo K H F (.ref a) (.lst ds)
  | ob {a C dx : Addr} {fs : List (Str × V)} {ds : List D} : H a = some (.ins C dx fs) → H dx = some (.own a) → BoL K H F (fs.map (·.2)) ds → Bo K H F (.ref a) (.ob C (fs.map (·.1)) ds)
inductive BoL (K : Frag) (H F : Hp) : List V → List D → Prop
  | nil : BoL K H F [] []
  | cons {v : V} {d : D} {vs : List V} {ds : List D} : Bo K H F v d → BoL K H F vs ds → BoL K H F (v :: vs) (d :: ds)
end
mutual
theorem Bo.mono {K : Frag} {H H' F F' : Hp} (eH : Same H H') (e : Same F F') : ∀ {v : V} {d : D}, Bo K H F v d → Bo K H' F' v d
  | _, _, .fz h => .fz (h.mono e)
  | _, _, .lst h hs => .lst (eH.seq h) (BoL.mono eH e hs)
  | _, _, .ob h1 h2 hs => .ob (eH.at_ h1) (eH.at_ h2) (BoL.mono eH e hs)
theorem BoL.mono {K : Frag} {H H' F F' : Hp} (eH : Same H H') (e : Same F F') : ∀ {vs : List V} {ds : List D}, BoL K H F vs ds → BoL K H' F' vs ds
  | _, _, .nil => .nil
  | _, _, .cons h hs => .cons (Bo.mono eH e h) (BoL.mono eH e hs)
end
section
variable {K : Frag} {H F : Hp}
theorem BoL.length : ∀ {vs : List V} {ds : List D}, BoL K H F vs ds → vs.length = ds.length
  | _, _, .nil => rfl
  | _, _, .cons _ hs => by rw [List.length_cons, List.length_cons, BoL.length hs]
theorem BoL.get : ∀ {vs : List V} {ds : List D} {i : Nat} {d : D}, BoL K H F vs ds → ds[i]? = some d → ∃ v, vs[i]? = some v ∧ Bo K H F v d
  | _, _, i, d, .nil, e => by simp at e
  | _, _, 0, d, .cons h _, e => by simp at e; subst e; exact ⟨_, rfl, h⟩
  | _, _, i + 1, d, .cons _ hs, e => by
    obtain ⟨v, h1, h2⟩ := BoL.get (i := i) (d := d) hs (by simpa using e)
    exact ⟨v, by simpa using h1, h2⟩
theorem FzL.bo : ∀ {vs : List V} {ds : List D}, FzL K F vs ds → BoL K H F vs ds
  | _, _, .nil => .nil
  | _, _, .cons h hs => .cons (.fz h) (FzL.bo hs)
/-- no list, no object: then borrowed is frozen -/
def nlB : D → Bool
  | .lst _ => false
  | .ob _ _ _ => false
  | _ => true
theorem Bo.fix {v : V} {d : D} (h : Bo K H F v d) (n : nlB d = true) : Fz K F v d := by
  cases h with
  | fz h => exact h
  | lst _ _ => exact absurd n (by simp [nlB])
  | ob _ _ _ => exact absurd n (by simp [nlB])
theorem BoL.fix : ∀ {vs : List V} {ds : List D}, BoL K H F vs ds → ds.all nlB = true → FzL K F vs ds
  | _, _, .nil, _ => .nil
  | _, _, .cons h hs, n => by
    simp only [List.all_cons, Bool.and_eq_true] at n
    exact .cons (h.fix n.1) (BoL.fix hs n.2)
/-- what is borrowed and a list, a tuple -/
theorem Bo.listOf {v : V} {ds : List D} (h : Bo K H F v (.lst ds)) (e : Same F H) : ∃ a vs, v = .ref a ∧ SqL K H a vs ∧ BoL K H F vs ds := by
  cases h with
  | fz h =>
    cases h with
    | lst h hs => exact ⟨_, _, rfl, e.seq h, hs.bo⟩
  | lst h hs => exact ⟨_, _, rfl, h, hs⟩
theorem Bo.tupOf {v : V} {ds : List D} (h : Bo K H F v (.tup ds)) : ∃ a vs, v = .ref a ∧ SqT K F a vs ∧ FzL K F vs ds := by
  cases h with
  | fz h =>
    cases h with
    | tup h hs => exact ⟨_, _, rfl, h, hs⟩
theorem Fz.listOf {v : V} {ds : List D} (h : Fz K F v (.lst ds)) : ∃ a vs, v = .ref a ∧ SqL K F a vs ∧ FzL K F vs ds := by
  cases h with
  | lst h hs => exact ⟨_, _, rfl, h, hs⟩
theorem Fz.tupOf {v : V} {ds : List D} (h : Fz K F v (.tup ds)) : ∃ a vs, v = .ref a ∧ SqT K F a vs ∧ FzL K F vs ds := by
  cases h with
  | tup h hs => exact ⟨_, _, rfl, h, hs⟩
theorem Bo.intOf {v : V} {i : Int} (h : Bo K H F v (.int i)) : v = .int i := by cases h with | fz h => cases h; rfl
theorem Bo.blOf {v : V} {i : Bool} (h : Bo K H F v (.bl i)) : v = .bl i := by cases h with | fz h => cases h; rfl
theorem Bo.strOf {v : V} {i : Str} (h : Bo K H F v (.str i)) : v = .str i := by cases h with | fz h => cases h; rfl
theorem Bo.nonOf {v : V} (h : Bo K H F v .non) : v = .non := by cases h with | fz h => cases h; rfl
theorem BoL.intsOf : ∀ {ns : List Int} {vs : List V}, BoL K H F vs (ns.map D.int) → vs = ns.map V.int
  | [], _, .nil => rfl
  | n :: ns, _, .cons h hs => by rw [h.intOf, BoL.intsOf hs]; rfl
end
/-- un: no value; fr: frozen; bo: borrowed from the entry's heap; pk: borrowed from the heap as it stands; ow m: an own list (or object) of such, to be changed; pin m v: m, and it is v; io r m v: for a def's return: r, and what m says of v as it is left -/
inductive M where
  | un
  | fr
  | bo
  | pk
  | ow (m : M)
  | pin (m : M) (v : V)
  | io (r m : M) (v : V)
/-- values, data and the addresses that are owned, side by side -/
def Al (r : V → D → List Addr → Prop) : List V → List D → List Addr → Prop
  | [], [], fp => fp = []
  | v :: vs, d :: ds, fp => ∃ f1 f2, fp = f1 ++ f2 ∧ r v d f1 ∧ Al r vs ds f2
  | _, _, _ => False
def Rv (K : Frag) (H0 F H : Hp) : M → V → D → List Addr → Prop
  | .un, _, _, _ => False
  | .fr, v, d, fp => Fz K F v d ∧ fp = []
  | .bo, v, d, fp => Bo K H0 F v d ∧ fp = []
  | .pk, v, d, fp => Bo K H F v d ∧ fp = []
  | .ow m, v, .lst ds, fp => ∃ a vs fps, v = .ref a ∧ H a = some (.lst vs) ∧ Al (Rv K H0 F H m) vs ds fps ∧ fp = a :: fps
  | .ow m, v, .ob C ns ds, fp => ∃ a dx fs fps, v = .ref a ∧ H a = some (.ins C dx fs) ∧ H dx = some (.own a) ∧ ns = fs.map (·.1) ∧ Al (Rv K H0 F H m) (fs.map (·.2)) ds fps ∧ fp = a :: dx :: fps
  | .ow _, v, d, fp => Fz K F v d ∧ fp = []
  | .pin m sv, v, d, fp => v = sv ∧ Rv K H0 F H m v d fp
  | .io _ _ _, _, _, _ => False
section
variable {r r' : V → D → List Addr → Prop}
theorem Al.imp : ∀ {vs : List V} {ds : List D} {fp : List Addr}, Al r vs ds fp → (∀ v d f, (∀ a ∈ f, a ∈ fp) → r v d f → r' v d f) → Al r' vs ds fp
  | [], [], _, h, _ => h
  | _ :: _, _ :: _, _, ⟨f1, f2, e, h1, h2⟩, k => ⟨f1, f2, e, k _ _ _ (fun a ha => by rw [e]; exact List.mem_append_left _ ha) h1, h2.imp fun v d f hf => k v d f fun a ha => by rw [e]; exact List.mem_append_right _ (hf a ha)⟩
  | [], _ :: _, _, h, _ => h.elim
  | _ :: _, [], _, h, _ => h.elim
theorem Al.length : ∀ {vs : List V} {ds : List D} {fp : List Addr}, Al r vs ds fp → vs.length = ds.length
  | [], [], _, _ => rfl
  | _ :: _, _ :: _, _, ⟨_, _, _, _, h2⟩ => by rw [List.length_cons, List.length_cons, Al.length h2]
  | [], _ :: _, _, h => h.elim
  | _ :: _, [], _, h => h.elim
theorem Al.append : ∀ {vs ws : List V} {ds es : List D} {f g : List Addr}, Al r vs ds f → Al r ws es g → Al r (vs ++ ws) (ds ++ es) (f ++ g)
  | [], _, [], _, _, _, h, h' => by
    have e : _ = [] := h
    subst e
    exact h'
  | _ :: _, _, _ :: _, _, _, _, ⟨f1, f2, e, h1, h2⟩, h' => ⟨f1, f2 ++ _, by rw [e, List.append_assoc], h1, Al.append h2 h'⟩
  | [], _, _ :: _, _, _, _, h, _ => h.elim
  | _ :: _, _, [], _, _, _, h, _ => h.elim
theorem Al.one {v : V} {d : D} {f : List Addr} (h : r v d f) : Al r [v] [d] f := ⟨f, [], by rw [List.append_nil], h, rfl⟩
/-- one item, and what it is to put another one there -/
theorem Al.at : ∀ {vs : List V} {ds : List D} {fp : List Addr} {i : Nat} {d : D}, Al r vs ds fp → ds[i]? = some d →
    ∃ v f pre post, vs[i]? = some v ∧ r v d f ∧ fp = pre ++ (f ++ post) ∧ ∀ v' d' f', r v' d' f' → Al r (vs.set i v') (ds.set i d') (pre ++ (f' ++ post))
  | v :: vs, d0 :: ds, fp, 0, d, ⟨f1, f2, e, h1, h2⟩, q => by
    simp at q; subst q
    exact ⟨v, f1, [], f2, rfl, h1, e, fun v' d' f' h' => ⟨f', f2, rfl, h', h2⟩⟩
  | v0 :: vs, d0 :: ds, fp, i + 1, d, ⟨f1, f2, e, h1, h2⟩, q => by
    obtain ⟨v, f, pre, post, q1, q2, q3, q4⟩ := Al.at (i := i) (d := d) h2 (by simpa using q)
    refine ⟨v, f, f1 ++ pre, post, by simpa using q1, q2, by rw [e, q3, List.append_assoc], fun v' d' f' h' => ?_⟩
    exact ⟨f1, pre ++ (f' ++ post), by rw [List.append_assoc], h1, q4 v' d' f' h'⟩
  | [], [], _, _, _, _, q => by simp at q
  | [], _ :: _, _, _, _, h, _ => h.elim
  | _ :: _, [], _, _, _, h, _ => h.elim
end
section
variable {K : Frag} {H0 F F' H H' : Hp}
theorem Al.frz : ∀ {vs : List V} {ds : List D} {fp : List Addr}, Al (fun v d f => Fz K F v d ∧ f = []) vs ds fp → FzL K F vs ds ∧ fp = []
  | [], [], _, h => ⟨.nil, h⟩
  | _ :: _, _ :: _, _, ⟨f1, f2, e, ⟨h1, e1⟩, h2⟩ => by
    obtain ⟨q, e2⟩ := Al.frz h2
    exact ⟨.cons h1 q, by rw [e, e1, e2]; rfl⟩
  | [], _ :: _, _, h => h.elim
  | _ :: _, [], _, h => h.elim
theorem FzL.al : ∀ {vs : List V} {ds : List D}, FzL K F vs ds → Al (Rv K H0 F H .fr) vs ds []
  | _, _, .nil => rfl
  | _, _, .cons h hs => ⟨[], [], rfl, ⟨h, rfl⟩, FzL.al hs⟩
theorem Al.fr {vs : List V} {ds : List D} {fp : List Addr} (h : Al (Rv K H0 F H .fr) vs ds fp) : FzL K F vs ds ∧ fp = [] := Al.frz h
end
end DL
namespace DL
open PySem L2
/-- nothing in it hangs on the heap as it stands now -/
def M.st : M → Bool
  | .un => false
  | .fr => true
  | .bo => true
  | .pk => false
  | .ow m => m.st
  | .pin m _ => m.st
  | .io _ _ _ => false
/-- towers of own lists over frozen data -/
def M.fz : M → Bool
  | .fr => true
  | .ow m => m.fz
  | _ => false
section
variable {K : Frag} {H0 F F' H H' : Hp}
theorem Rv.ow_lst {m : M} {v : V} {ds : List D} {fp : List Addr} (h : Rv K H0 F H (.ow m) v (.lst ds) fp) :
    ∃ a vs fps, v = .ref a ∧ H a = some (.lst vs) ∧ Al (Rv K H0 F H m) vs ds fps ∧ fp = a :: fps := h
theorem Rv.ow_ob {m : M} {v : V} {C : Addr} {ns : List Str} {ds : List D} {fp : List Addr} (h : Rv K H0 F H (.ow m) v (.ob C ns ds) fp) :
    ∃ a dx fs fps, v = .ref a ∧ H a = some (.ins C dx fs) ∧ H dx = some (.own a) ∧ ns = fs.map (·.1) ∧ Al (Rv K H0 F H m) (fs.map (·.2)) ds fps ∧ fp = a :: dx :: fps := h
theorem Rv.keep (eF : Same F F') : ∀ {m : M} {v : V} {d : D} {fp : List Addr}, m.st = true → (∀ a ∈ fp, ∀ o, ownK o = true → H a = some o → H' a = some o) → Rv K H0 F H m v d fp → Rv K H0 F' H' m v d fp
  | .un, _, _, _, _, _, h => h.elim
  | .fr, _, _, _, _, _, h => ⟨h.1.mono eF, h.2⟩
  | .bo, _, _, _, _, _, h => ⟨h.1.mono (Same.refl _) eF, h.2⟩
  | .pk, _, _, _, hm, _, _ => by cases hm
  | .ow m, v, d, fp, hm, hf, h => by
    cases d with
    | lst ds =>
      obtain ⟨a, vs, fps, e1, e2, e3, e4⟩ := Rv.ow_lst h
      refine ⟨a, vs, fps, e1, hf a (by rw [e4]; exact List.mem_cons_self) _ rfl e2, e3.imp fun v d f hs q => ?_, e4⟩
      exact Rv.keep eF (m := m) hm (fun a ha => hf a (by rw [e4]; exact List.mem_cons_of_mem _ (hs a ha))) q
    | non => exact ⟨h.1.mono eF, h.2⟩
    | bl _ => exact ⟨h.1.mono eF, h.2⟩
    | int _ => exact ⟨h.1.mono eF, h.2⟩
    | str _ => exact ⟨h.1.mono eF, h.2⟩
    | tup _ => exact ⟨h.1.mono eF, h.2⟩
    | ob C ns ds =>
      obtain ⟨a, dx, fs, fps, e1, e2, e3, e4, e5, e6⟩ := Rv.ow_ob h
      refine ⟨a, dx, fs, fps, e1, hf a (by rw [e6]; exact List.mem_cons_self) _ rfl e2, hf dx (by rw [e6]; exact List.mem_cons_of_mem _ List.mem_cons_self) _ rfl e3, e4, e5.imp fun v d f hs q => ?_, e6⟩
      exact Rv.keep eF (m := m) hm (fun a ha => hf a (by rw [e6]; exact List.mem_cons_of_mem _ (List.mem_cons_of_mem _ (hs a ha)))) q
    | cl _ => exact ⟨h.1.mono eF, h.2⟩
    | ex _ _ => exact ⟨h.1.mono eF, h.2⟩
  | .pin m sv, v, d, fp, hm, hf, h => ⟨h.1, Rv.keep eF (m := m) hm hf h.2⟩
  | .io _ _ _, _, _, _, _, _, h => h.elim
theorem Rv.grow (eF : Same F F') (eH : Same H H') : ∀ {m : M} {v : V} {d : D} {fp : List Addr}, Rv K H0 F H m v d fp → Rv K H0 F' H' m v d fp
  | .un, _, _, _, h => h.elim
  | .fr, _, _, _, h => ⟨h.1.mono eF, h.2⟩
  | .bo, _, _, _, h => ⟨h.1.mono (Same.refl _) eF, h.2⟩
  | .pk, _, _, _, h => ⟨h.1.mono eH eF, h.2⟩
  | .ow m, v, d, fp, h => by
    cases d with
    | lst ds =>
      obtain ⟨a, vs, fps, e1, e2, e3, e4⟩ := Rv.ow_lst h
      exact ⟨a, vs, fps, e1, eH.at_ e2, e3.imp fun v d f _ q => Rv.grow eF eH (m := m) q, e4⟩
    | non => exact ⟨h.1.mono eF, h.2⟩
    | bl _ => exact ⟨h.1.mono eF, h.2⟩
    | int _ => exact ⟨h.1.mono eF, h.2⟩
    | str _ => exact ⟨h.1.mono eF, h.2⟩
    | tup _ => exact ⟨h.1.mono eF, h.2⟩
    | ob C ns ds =>
      obtain ⟨a, dx, fs, fps, e1, e2, e3, e4, e5, e6⟩ := Rv.ow_ob h
      exact ⟨a, dx, fs, fps, e1, eH.at_ e2, eH.at_ e3, e4, e5.imp fun v d f _ q => Rv.grow eF eH (m := m) q, e6⟩
    | cl _ => exact ⟨h.1.mono eF, h.2⟩
    | ex _ _ => exact ⟨h.1.mono eF, h.2⟩
  | .pin m sv, v, d, fp, h => ⟨h.1, Rv.grow eF eH (m := m) h.2⟩
  | .io _ _ _, _, _, _, h => h.elim
theorem Al.bo {r : V → D → List Addr → Prop} (hr : ∀ v d f, r v d f → Bo K H F v d) : ∀ {vs : List V} {ds : List D} {fp : List Addr}, Al r vs ds fp → BoL K H F vs ds
  | [], [], _, _ => .nil
  | _ :: _, _ :: _, _, ⟨_, _, _, h1, h2⟩ => .cons (hr _ _ _ h1) (Al.bo hr h2)
  | [], _ :: _, _, h => h.elim
  | _ :: _, [], _, h => h.elim
/-- whatever it is, it can be looked at -/
theorem Rv.pk (eFH : Same F H) (e0 : Same H0 H) : ∀ {m : M} {v : V} {d : D} {fp : List Addr}, Rv K H0 F H m v d fp → Bo K H F v d
  | .un, _, _, _, h => h.elim
  | .fr, _, _, _, h => .fz h.1
  | .bo, _, _, _, h => h.1.mono e0 (Same.refl _)
  | .pk, _, _, _, h => h.1
  | .ow m, v, d, fp, h => by
    cases d with
    | lst ds =>
      obtain ⟨a, vs, fps, e1, e2, e3, e4⟩ := Rv.ow_lst h
      subst e1
      exact .lst (SqL.of e2) (e3.bo fun v d f q => Rv.pk eFH e0 (m := m) q)
    | non => exact .fz h.1
    | bl _ => exact .fz h.1
    | int _ => exact .fz h.1
    | str _ => exact .fz h.1
    | tup _ => exact .fz h.1
    | ob C ns ds =>
      obtain ⟨a, dx, fs, fps, e1, e2, e3, e4, e5, e6⟩ := Rv.ow_ob h
      subst e1
      subst e4
      exact .ob e2 e3 (e5.bo fun v d f q => Rv.pk eFH e0 (m := m) q)
    | cl _ => exact .fz h.1
    | ex _ _ => exact .fz h.1
  | .pin m sv, v, d, fp, h => Rv.pk eFH e0 (m := m) h.2
  | .io _ _ _, _, _, _, h => h.elim
theorem Al.there {r : V → D → List Addr → Prop} {P : Addr → Prop} (hr : ∀ v d f, r v d f → ∀ a ∈ f, P a) : ∀ {vs : List V} {ds : List D} {fp : List Addr}, Al r vs ds fp → ∀ a ∈ fp, P a
  | [], [], fp, h, a, ha => by
    have e : fp = [] := h
    rw [e] at ha; cases ha
  | _ :: _, _ :: _, _, ⟨f1, f2, e, h1, h2⟩, a, ha => by
    rw [e] at ha
    rcases List.mem_append.mp ha with q | q
    · exact hr _ _ _ h1 a q
    · exact Al.there hr h2 a q
  | [], _ :: _, _, h, _, _ => h.elim
  | _ :: _, [], _, h, _, _ => h.elim
theorem Rv.there : ∀ {m : M} {v : V} {d : D} {fp : List Addr}, Rv K H0 F H m v d fp → ∀ a ∈ fp, ∃ o, H a = some o
  | .un, _, _, _, h, _, _ => h.elim
  | .fr, _, _, _, h, a, ha => by rw [h.2] at ha; cases ha
  | .bo, _, _, _, h, a, ha => by rw [h.2] at ha; cases ha
  | .pk, _, _, _, h, a, ha => by rw [h.2] at ha; cases ha
  | .ow m, v, d, fp, h, a, ha => by
    cases d with
    | lst ds =>
      obtain ⟨b, vs, fps, e1, e2, e3, e4⟩ := Rv.ow_lst h
      rw [e4] at ha
      rcases List.mem_cons.mp ha with q | q
      · rw [q]; exact ⟨_, e2⟩
      · exact Al.there (P := fun a => ∃ o, H a = some o) (fun v d f hv => Rv.there (m := m) hv) e3 a q
    | non => rw [h.2] at ha; cases ha
    | bl _ => rw [h.2] at ha; cases ha
    | int _ => rw [h.2] at ha; cases ha
    | str _ => rw [h.2] at ha; cases ha
    | tup _ => rw [h.2] at ha; cases ha
    | ob C ns ds =>
      obtain ⟨b, dx, fs, fps, e1, e2, e3, e4, e5, e6⟩ := Rv.ow_ob h
      rw [e6] at ha
      rcases List.mem_cons.mp ha with q | q
      · rw [q]; exact ⟨_, e2⟩
      rcases List.mem_cons.mp q with q | q
      · rw [q]; exact ⟨_, e3⟩
      · exact Al.there (P := fun a => ∃ o, H a = some o) (fun v d f hv => Rv.there (m := m) hv) e5 a q
    | cl _ => rw [h.2] at ha; cases ha
    | ex _ _ => rw [h.2] at ha; cases ha
  | .pin m sv, v, d, fp, h, a, ha => Rv.there (m := m) h.2 a ha
  | .io _ _ _, _, _, _, h, _, _ => h.elim
theorem Rv.thereL : ∀ {m : M} {v : V} {d : D} {fp : List Addr}, Rv K H0 F H m v d fp → ∀ a ∈ fp, ∃ o, H a = some o ∧ ownK o = true
  | .un, _, _, _, h, _, _ => h.elim
  | .fr, _, _, _, h, a, ha => by rw [h.2] at ha; cases ha
  | .bo, _, _, _, h, a, ha => by rw [h.2] at ha; cases ha
  | .pk, _, _, _, h, a, ha => by rw [h.2] at ha; cases ha
  | .ow m, v, d, fp, h, a, ha => by
    cases d with
    | lst ds =>
      obtain ⟨b, vs, fps, e1, e2, e3, e4⟩ := Rv.ow_lst h
      rw [e4] at ha
      rcases List.mem_cons.mp ha with q | q
      · rw [q]; exact ⟨_, e2, rfl⟩
      · exact Al.there (P := fun a => ∃ o, H a = some o ∧ ownK o = true) (fun v d f hv => Rv.thereL (m := m) hv) e3 a q
    | non => rw [h.2] at ha; cases ha
    | bl _ => rw [h.2] at ha; cases ha
    | int _ => rw [h.2] at ha; cases ha
    | str _ => rw [h.2] at ha; cases ha
    | tup _ => rw [h.2] at ha; cases ha
    | ob C ns ds =>
      obtain ⟨b, dx, fs, fps, e1, e2, e3, e4, e5, e6⟩ := Rv.ow_ob h
      rw [e6] at ha
      rcases List.mem_cons.mp ha with q | q
      · rw [q]; exact ⟨_, e2, rfl⟩
      rcases List.mem_cons.mp q with q | q
      · rw [q]; exact ⟨_, e3, rfl⟩
      · exact Al.there (P := fun a => ∃ o, H a = some o ∧ ownK o = true) (fun v d f hv => Rv.thereL (m := m) hv) e5 a q
    | cl _ => rw [h.2] at ha; cases ha
    | ex _ _ => rw [h.2] at ha; cases ha
  | .pin m sv, v, d, fp, h, a, ha => Rv.thereL (m := m) h.2 a ha
  | .io _ _ _, _, _, _, h, _, _ => h.elim
theorem Al.fzl {r : V → D → List Addr → Prop} : ∀ {vs : List V} {ds : List D} {fp : List Addr}, (∀ v d f, (∀ a ∈ f, a ∈ fp) → r v d f → Fz K F v d) → Al r vs ds fp → FzL K F vs ds
  | [], [], _, _, _ => .nil
  | _ :: _, _ :: _, _, hr, ⟨f1, f2, e, h1, h2⟩ => .cons (hr _ _ _ (fun a ha => by rw [e]; exact List.mem_append_left _ ha) h1) (Al.fzl (fun v d f hf => hr v d f fun a ha => by rw [e]; exact List.mem_append_right _ (hf a ha)) h2)
  | [], _ :: _, _, _, h => h.elim
  | _ :: _, [], _, _, h => h.elim
/-- what is owned, frozen -/
theorem Rv.freeze (eF : Same F F') : ∀ {m : M} {v : V} {d : D} {fp : List Addr}, m.fz = true → (∀ a ∈ fp, F' a = H a) → Rv K H0 F H m v d fp → Fz K F' v d
  | .un, _, _, _, hm, _, _ => by cases hm
  | .fr, _, _, _, _, _, h => h.1.mono eF
  | .bo, _, _, _, hm, _, _ => by cases hm
  | .pk, _, _, _, hm, _, _ => by cases hm
  | .ow m, v, d, fp, hm, hf, h => by
    cases d with
    | lst ds =>
      obtain ⟨b, vs, fps, e1, e2, e3, e4⟩ := Rv.ow_lst h
      subst e1
      refine .lst (SqL.of ((hf b (by rw [e4]; exact List.mem_cons_self)).trans e2)) (e3.fzl fun v d f hs q => ?_)
      exact Rv.freeze eF (m := m) hm (fun a ha => hf a (by rw [e4]; exact List.mem_cons_of_mem _ (hs a ha))) q
    | non => exact h.1.mono eF
    | bl _ => exact h.1.mono eF
    | int _ => exact h.1.mono eF
    | str _ => exact h.1.mono eF
    | tup _ => exact h.1.mono eF
    | ob C ns ds =>
      obtain ⟨b, dx, fs, fps, e1, e2, e3, e4, e5, e6⟩ := Rv.ow_ob h
      subst e1
      subst e4
      refine .ob ((hf b (by rw [e6]; exact List.mem_cons_self)).trans e2) ((hf dx (by rw [e6]; exact List.mem_cons_of_mem _ List.mem_cons_self)).trans e3) (e5.fzl fun v d f hs q => ?_)
      exact Rv.freeze eF (m := m) hm (fun a ha => hf a (by rw [e6]; exact List.mem_cons_of_mem _ (List.mem_cons_of_mem _ (hs a ha)))) q
    | cl _ => exact h.1.mono eF
    | ex _ _ => exact h.1.mono eF
  | .pin _ _, _, _, _, hm, _, _ => by cases hm
  | .io _ _ _, _, _, _, hm, _, _ => by cases hm
end
/-- F and the addresses at fp as they stand in H -/
def frz (F H : Hp) (fp : List Addr) : Hp := fun a => if a ∈ fp then H a else F a
theorem frz_in {F H : Hp} {fp : List Addr} {a : Addr} (h : a ∈ fp) : frz F H fp a = H a := by unfold frz; rw [if_pos h]
theorem frz_out {F H : Hp} {fp : List Addr} {a : Addr} (h : a ∉ fp) : frz F H fp a = F a := by unfold frz; rw [if_neg h]
theorem frz_same {F H : Hp} {fp : List Addr} (h : ∀ a ∈ fp, F a = none) : Same F (frz F H fp) := .of fun a o e => by
  by_cases q : a ∈ fp
  · rw [h a q] at e; cases e
  · rw [frz_out q]; exact e
theorem frz_sub {F H : Hp} {fp : List Addr} (e : Same F H) : Same (frz F H fp) H := ⟨fun a o q n => by
  by_cases z : a ∈ fp
  · rw [frz_in z] at q; exact q
  · rw [frz_out z] at q; exact e.keep _ _ q n, fun a q => by
  by_cases z : a ∈ fp
  · rw [frz_in z]; exact q
  · rw [frz_out z]; exact e.there _ q⟩
/-- what a step may do to the heaps: add -/
structure Ext [Tbs] (F H F' H' : Hp) : Prop where
  f : Same F F'
  h : Same H H'
  fh : Same F' H'
  new : ∀ a o, F' a = some o → F a = some o ∨ H a = none
  tb : TbsOk H → TbsOk H'
variable [Tbs]
theorem Ext.refl {F H : Hp} (e : Same F H) : Ext F H F H := ⟨Same.refl _, Same.refl _, e, fun _ _ q => .inl q, id⟩
theorem Ext.trans {F H F1 H1 F2 H2 : Hp} (a : Ext F H F1 H1) (b : Ext F1 H1 F2 H2) : Ext F H F2 H2 :=
  ⟨a.f.trans b.f, a.h.trans b.h, b.fh, fun c o q => by
    rcases b.new c o q with z | z
    · exact a.new c o z
    · exact .inr (a.h.free z), fun t => b.tb (a.tb t)⟩
theorem Same.new {F H : Hp} {p : Addr} {o : HO} (e : Same F H) (hp : H p = none) : Same F (upd H p o) := ⟨fun a u q n => by
  rw [upd_ne (fun z => by subst z; rw [e.free hp] at q; cases q)]; exact e.keep _ _ q n, fun a q => by
  by_cases z : a = p
  · subst z; rw [upd_same] at q; cases q
  · rw [upd_ne z] at q; exact e.there _ q⟩
theorem Same.both {F H : Hp} {p : Addr} {o : HO} (e : Same F H) : Same (upd F p o) (upd H p o) := ⟨fun a u q n => by
  by_cases z : a = p
  · subst z; rw [upd_same] at q ⊢; exact q
  · rw [upd_ne z] at q ⊢; exact e.keep _ _ q n, fun a q => by
  by_cases z : a = p
  · subst z; rw [upd_same] at q; cases q
  · rw [upd_ne z] at q ⊢; exact e.there _ q⟩
/-- a new object, frozen -/
theorem Ext.laid {F H : Hp} {p : Addr} {o : HO} (e : Same F H) (hp : H p = none) : Ext F H (upd F p o) (upd H p o) :=
  ⟨(Same.refl F).new (e.free hp), (Same.refl H).new hp, e.both, fun a u q => by
    by_cases z : a = p
    · subst z; exact .inr hp
    · rw [upd_ne z] at q; exact .inl q, fun t => t.new hp⟩
/-- a new object, not frozen -/
theorem Ext.made {F H : Hp} {p : Addr} {o : HO} (e : Same F H) (hp : H p = none) : Ext F H F (upd H p o) :=
  ⟨Same.refl _, (Same.refl H).new hp, e.new hp, fun a u q => .inl q, fun t => t.new hp⟩
structure Fresh (H F' : Hp) (fp : List Addr) : Prop where
  nd : fp.Nodup
  un : ∀ a ∈ fp, H a = none ∧ F' a = none
theorem Fresh.nil {H F : Hp} : Fresh H F [] := ⟨List.nodup_nil, fun _ h => nomatch h⟩
theorem Fresh.back {H H1 F : Hp} {fp : List Addr} (f : Fresh H1 F fp) (e : Same H H1) : Fresh H F fp := ⟨f.nd, fun a ha => ⟨e.free (f.un a ha).1, (f.un a ha).2⟩⟩
/-- fresh things stay out of F -/
theorem Fresh.on {H H1 F1 F2 H2 : Hp} {fp : List Addr} (f : Fresh H F1 fp) (x : Ext F1 H1 F2 H2) (th : ∀ a ∈ fp, ∃ o, H1 a = some o) : Fresh H F2 fp :=
  ⟨f.nd, fun a ha => ⟨(f.un a ha).1, by
    cases q : F2 a with
    | none => rfl
    | some o =>
      rcases x.new a o q with z | z
      · rw [(f.un a ha).2] at z; cases z
      · obtain ⟨o', e⟩ := th a ha
        rw [e] at z; cases z⟩⟩
/-- owned, then frozen -/
theorem Ext.frz {F H F' H' : Hp} {fp : List Addr} (x : Ext F H F' H') (f : Fresh H F' fp) : Ext F H (DL.frz F' H' fp) H' :=
  ⟨x.f.trans (frz_same fun a ha => (f.un a ha).2), x.h, frz_sub x.fh, fun a o q => by
    by_cases z : a ∈ fp
    · exact .inr (f.un a z).1
    · rw [frz_out z] at q; exact x.new a o q, x.tb⟩
/-- a slot -/
def So (K : Frag) (H0 F H : Hp) (m : M) (o : Option V) (d : D) (fp : List Addr) : Prop :=
  (m = .un ∧ fp = []) ∨ ∃ v, o = some v ∧ m.st = true ∧ Rv K H0 F H m v d fp
/-- the state of a def's body: F0, H0: frozen and whole heap at its entry; Γ: how each slot stands; ρ: its data -/
structure Rel (K : Frag) (F0 H0 : Hp) (Γ : List M) (ρ : List D) (σ : St) (F H : Hp) (fps : Nat → List Addr) : Prop where
  fh : Same F H
  f0 : Same F0 F
  h0 : Same H0 H
  tb : TbsOk H
  new : ∀ a o, F a = some o → F0 a = some o ∨ H0 a = none
  lg : Γ.length = σ.length
  lr : ρ.length = σ.length
  sl : ∀ i, So K H0 F H (Γ.getD i .un) (σ.getD i none) (ρ.getD i .non) (fps i)
  nd : ∀ i, (fps i).Nodup
  dj : ∀ i j a, a ∈ fps i → a ∈ fps j → i = j
  ow : ∀ i a, a ∈ fps i → F a = none ∧ H0 a = none
section
variable {K : Frag} {F0 H0 F H F' H' : Hp} {Γ : List M} {ρ : List D} {σ : St} {fps : Nat → List Addr}
theorem So.keep {m : M} {o : Option V} {d : D} {fp : List Addr} (eF : Same F F') (hf : ∀ a ∈ fp, ∀ o, ownK o = true → H a = some o → H' a = some o) (h : So K H0 F H m o d fp) : So K H0 F' H' m o d fp := by
  rcases h with h | ⟨v, e, hm, h⟩
  · exact .inl h
  · exact .inr ⟨v, e, hm, h.keep eF hm hf⟩
theorem So.there {m : M} {o : Option V} {d : D} {fp : List Addr} (h : So K H0 F H m o d fp) : ∀ a ∈ fp, ∃ o, H a = some o := by
  rcases h with h | ⟨v, e, hm, h⟩
  · intro a ha; rw [h.2] at ha; cases ha
  · exact h.there
theorem So.thereL {m : M} {o : Option V} {d : D} {fp : List Addr} (h : So K H0 F H m o d fp) : ∀ a ∈ fp, ∃ o, H a = some o ∧ ownK o = true := by
  rcases h with h | ⟨v, e, hm, h⟩
  · intro a ha; rw [h.2] at ha; cases ha
  · exact h.thereL
theorem Rel.thereL (r : Rel K F0 H0 Γ ρ σ F H fps) {i : Nat} {a : Addr} (h : a ∈ fps i) : ∃ o, H a = some o ∧ ownK o = true := (r.sl i).thereL a h
theorem Rel.there (r : Rel K F0 H0 Γ ρ σ F H fps) {i : Nat} {a : Addr} (h : a ∈ fps i) : ∃ o, H a = some o := (r.sl i).there a h
theorem Rel.ext (r : Rel K F0 H0 Γ ρ σ F H fps) (x : Ext F H F' H') : Rel K F0 H0 Γ ρ σ F' H' fps where
  fh := x.fh
  f0 := r.f0.trans x.f
  h0 := r.h0.trans x.h
  tb := x.tb r.tb
  new := fun a o q => by
    rcases x.new a o q with z | z
    · exact r.new a o z
    · exact .inr (r.h0.free z)
  lg := r.lg
  lr := r.lr
  sl := fun i => (r.sl i).keep x.f fun a _ o w q => x.h.at_ q (notTbl_own w)
  nd := r.nd
  dj := r.dj
  ow := fun i a ha => by
    refine ⟨?_, (r.ow i a ha).2⟩
    cases q : F' a with
    | none => rfl
    | some o =>
      rcases x.new a o q with z | z
      · rw [(r.ow i a ha).1] at z; cases z
      · obtain ⟨o', e⟩ := r.there ha
        rw [e] at z; cases z
/-- a slot gets another value; H may have changed in what the slot owned -/
theorem Rel.put {i : Nat} {m : M} {v : V} {d : D} {fp : List Addr} (r : Rel K F0 H0 Γ ρ σ F H fps) (hi : i < σ.length)
    (hm : m.st = true) (hv : Rv K H0 F H m v d fp) (nd : fp.Nodup) (un : ∀ a ∈ fp, F a = none ∧ H0 a = none) (dj : ∀ j a, j ≠ i → a ∈ fps j → a ∉ fp) :
    Rel K F0 H0 (Γ.set i m) (ρ.set i d) (σ.set i (some v)) F H (fun j => if j = i then fp else fps j) where
  fh := r.fh
  f0 := r.f0
  h0 := r.h0
  tb := r.tb
  new := r.new
  lg := by rw [List.length_set, List.length_set]; exact r.lg
  lr := by rw [List.length_set, List.length_set]; exact r.lr
  sl := fun j => by
    by_cases e : j = i
    · subst e
      rw [if_pos rfl]
      refine .inr ⟨v, ?_, ?_, ?_⟩
      · rw [List.getD_eq_getElem?_getD, List.getElem?_set_self hi]; rfl
      · rw [List.getD_eq_getElem?_getD, List.getElem?_set_self (by rw [r.lg]; exact hi)]; exact hm
      · rw [List.getD_eq_getElem?_getD, List.getElem?_set_self (by rw [r.lg]; exact hi), List.getD_eq_getElem?_getD, List.getElem?_set_self (by rw [r.lr]; exact hi)]
        exact hv
    · rw [if_neg e]
      simp only [List.getD_eq_getElem?_getD, List.getElem?_set_ne (Ne.symm e)]
      have := r.sl j
      simp only [List.getD_eq_getElem?_getD] at this
      exact this
  nd := fun j => by
    by_cases e : j = i
    · rw [if_pos e]; exact nd
    · rw [if_neg e]; exact r.nd j
  dj := fun j k a hj hk => by
    by_cases e : j = i
    · by_cases e' : k = i
      · rw [e, e']
      · rw [if_pos e] at hj
        rw [if_neg e'] at hk
        exact absurd hj (dj k a e' hk)
    · rw [if_neg e] at hj
      by_cases e' : k = i
      · rw [if_pos e'] at hk
        exact absurd hk (dj j a e hj)
      · rw [if_neg e'] at hk
        exact r.dj j k a hj hk
  ow := fun j a ha => by
    by_cases e : j = i
    · rw [if_pos e] at ha; exact un a ha
    · rw [if_neg e] at ha; exact r.ow j a ha
/-- .. a fresh one -/
theorem Rel.putF {i : Nat} {m : M} {v : V} {d : D} {fp : List Addr} {Hs : Hp} (r : Rel K F0 H0 Γ ρ σ F H fps) (hi : i < σ.length)
    (hm : m.st = true) (hv : Rv K H0 F H m v d fp) (f : Fresh Hs F fp) (h0 : Same H0 Hs) (th : ∀ j a, a ∈ fps j → ∃ o, Hs a = some o) :
    Rel K F0 H0 (Γ.set i m) (ρ.set i d) (σ.set i (some v)) F H (fun j => if j = i then fp else fps j) :=
  r.put hi hm hv f.nd (fun a ha => ⟨(f.un a ha).2, h0.free (f.un a ha).1⟩) fun j a _ hj ha => by
    obtain ⟨o, e⟩ := th j a hj
    rw [(f.un a ha).1] at e; cases e
/-- the value of a slot -/
theorem Rel.get {i : Nat} {m : M} (r : Rel K F0 H0 Γ ρ σ F H fps) (h : Γ[i]? = some m) (hm : m ≠ .un) : ∃ v, σ[i]? = some (some v) ∧ m.st = true ∧ Rv K H0 F H m v (ρ.getD i .non) (fps i) := by
  have e : Γ.getD i .un = m := by rw [List.getD_eq_getElem?_getD, h]; rfl
  have hs := r.sl i
  rw [e] at hs
  rcases hs with ⟨q, _⟩ | ⟨v, q, st, hv⟩
  · exact absurd q hm
  · refine ⟨v, ?_, st, hv⟩
    rw [List.getD_eq_getElem?_getD] at q
    cases z : σ[i]? with
    | none => rw [z] at q; cases q
    | some o => rw [z] at q; exact congrArg some q
theorem Rel.lt {i : Nat} {m : M} (r : Rel K F0 H0 Γ ρ σ F H fps) (h : Γ[i]? = some m) : i < σ.length := by rw [← r.lg]; exact (List.getElem?_eq_some_iff.mp h).1
/-- a slot that owns is frozen -/
theorem Rel.freeze {i : Nat} {m : M} (r : Rel K F0 H0 Γ ρ σ F H fps) (h : Γ[i]? = some m) (hm : m.fz = true) :
    Rel K F0 H0 (Γ.set i .fr) ρ σ (DL.frz F H (fps i)) H (fun j => if j = i then [] else fps j) := by
  have hun : m ≠ .un := fun e => by rw [e] at hm; cases hm
  obtain ⟨v, hv, st, rv⟩ := r.get h hun
  have hi := r.lt h
  have sF : Same F (DL.frz F H (fps i)) := frz_same fun a ha => (r.ow i a ha).1
  refine ⟨frz_sub r.fh, r.f0.trans sF, r.h0, r.tb, fun a o q => ?_, by rw [List.length_set]; exact r.lg, r.lr, fun j => ?_, fun j => ?_, fun j k a hj hk => ?_, fun j a ha => ?_⟩
  · by_cases z : a ∈ fps i
    · exact .inr (r.ow i a z).2
    · rw [frz_out z] at q; exact r.new a o q
  · by_cases e : j = i
    · subst e
      rw [if_pos rfl, List.getD_eq_getElem?_getD, List.getElem?_set_self (by rw [r.lg]; exact hi)]
      refine .inr ⟨v, by rw [List.getD_eq_getElem?_getD, hv]; rfl, rfl, rv.freeze sF hm fun a ha => frz_in ha, rfl⟩
    · rw [if_neg e, List.getD_eq_getElem?_getD, List.getElem?_set_ne (Ne.symm e), ← List.getD_eq_getElem?_getD]
      exact (r.sl j).keep sF fun a _ o _ q => q
  · by_cases e : j = i
    · rw [if_pos e]; exact List.nodup_nil
    · rw [if_neg e]; exact r.nd j
  · by_cases e : j = i
    · rw [if_pos e] at hj; cases hj
    · rw [if_neg e] at hj
      by_cases e' : k = i
      · rw [if_pos e'] at hk; cases hk
      · rw [if_neg e'] at hk; exact r.dj j k a hj hk
  · by_cases e : j = i
    · rw [if_pos e] at ha; cases ha
    · rw [if_neg e] at ha
      refine ⟨?_, (r.ow j a ha).2⟩
      rw [frz_out fun z => e (r.dj j i a ha z)]
      exact (r.ow j a ha).1
/-- a slot is forgotten -/
theorem Rel.forget {i : Nat} {m : M} (r : Rel K F0 H0 Γ ρ σ F H fps) (h : Γ[i]? = some m) : Rel K F0 H0 (Γ.set i .un) ρ σ F H (fun j => if j = i then [] else fps j) := by
  have hi := r.lt h
  refine ⟨r.fh, r.f0, r.h0, r.tb, r.new, by rw [List.length_set]; exact r.lg, r.lr, fun j => ?_, fun j => ?_, fun j k a hj hk => ?_, fun j a ha => ?_⟩
  · by_cases e : j = i
    · subst e
      rw [if_pos rfl, List.getD_eq_getElem?_getD, List.getElem?_set_self (by rw [r.lg]; exact hi)]
      exact .inl ⟨rfl, rfl⟩
    · rw [if_neg e, List.getD_eq_getElem?_getD, List.getElem?_set_ne (Ne.symm e), ← List.getD_eq_getElem?_getD]
      exact r.sl j
  · by_cases e : j = i
    · rw [if_pos e]; exact List.nodup_nil
    · rw [if_neg e]; exact r.nd j
  · by_cases e : j = i
    · rw [if_pos e] at hj; cases hj
    · rw [if_neg e] at hj
      by_cases e' : k = i
      · rw [if_pos e'] at hk; cases hk
      · rw [if_neg e'] at hk; exact r.dj j k a hj hk
  · by_cases e : j = i
    · rw [if_pos e] at ha; cases ha
    · rw [if_neg e] at ha; exact r.ow j a ha
end
end DL
namespace DL
open PySem L2
variable [Tbs]
def RP {α : Type} (r : R α) (P : α → Prop) (X : Ex → Prop) : Prop :=
  match r with
  | .ok a => P a
  | .exc x => X x
  | .bad => False
omit [Tbs] in
theorem RP.imp {α : Type} {r : R α} {P P' : α → Prop} {X X' : Ex → Prop} (h : RP r P X) (hP : ∀ a, P a → P' a) (hX : ∀ x, X x → X' x) : RP r P' X' := by
  cases r with
  | ok a => exact hP a h
  | exc x => exact hX x h
  | bad => exact h
omit [Tbs] in
theorem RP.bind {α β : Type} {r : R α} {f : α → R β} {P : β → Prop} {X : Ex → Prop} (h : RP (r >>= f) P X) : RP r (fun a => RP (f a) P X) X := by
  cases r with
  | ok a => exact h
  | exc x => exact h
  | bad => exact h
/-- how an exception lies: no dict, or a dict of its own with its fields -/
def ExOk (K : Frag) (F H : Hp) (x : Ex) (dx : Option Addr) : Prop :=
  (dx = none ∧ x.ds = []) ∨ x.ds ≠ [] ∧ ∃ a v d, dx = some a ∧ x.ds = [d] ∧ F a = some (.xd [("row", v)]) ∧ Fz K F v d
/-- what is wanted of an exception -/
def XP (K : Frag) (E : XK) (F H : Hp) (x : Ex) : Prop := ∀ F' H' dx, Ext F H F' H' → ExOk K F' H' x dx → E (.ref x.cls) dx H'
theorem XP.on {K : Frag} {E : XK} {F H F1 H1 : Hp} {x : Ex} (h : XP K E F H x) (e : Ext F H F1 H1) : XP K E F1 H1 x := fun F' H' dx e' q => h F' H' dx (e.trans e') q
/-- what is wanted of a value -/
def VP (K : Frag) (H0 F H : Hp) (m : M) (d : D) (Q : VK) : Prop := ∀ v F' H' fp, Ext F H F' H' → Rv K H0 F' H' m v d fp → Fresh H F' fp → Q v H'
theorem VP.on {K : Frag} {H0 F H F1 H1 : Hp} {m : M} {d : D} {Q : VK} (h : VP K H0 F H m d Q) (e : Ext F H F1 H1) : VP K H0 F1 H1 m d Q :=
  fun v F' H' fp e' r f => h v F' H' fp (e.trans e') r (f.back e.h)
/-- an expression's reading t gives, over data, g; its value stands as m says -/
def SE (K : Frag) (E : XK) (Γ : List M) (t : TE) (m : M) (g : List D → R D) : Prop :=
  ∀ F0 H0 ρ σ F H fps Q, Rel K F0 H0 Γ ρ σ F H fps → RP (g ρ) (fun d => VP K H0 F H m d Q) (XP K E F H) → t σ H Q
def ST (K : Frag) (E : XK) (Γ : List M) (t : TT) (g : List D → R Bool) : Prop :=
  ∀ F0 H0 ρ σ F H fps Q, Rel K F0 H0 Γ ρ σ F H fps → RP (g ρ) (fun b => ∀ F' H', Ext F H F' H' → Q b H') (XP K E F H) → t σ H Q
/-- several values, each by its mode -/
inductive Rvs (K : Frag) (H0 F H : Hp) : List M → List V → List D → Prop
  | nil : Rvs K H0 F H [] [] []
  | cons {m : M} {ms : List M} {v : V} {d : D} {vs : List V} {ds : List D} : Rv K H0 F H m v d [] → Rvs K H0 F H ms vs ds → Rvs K H0 F H (m :: ms) (v :: vs) (d :: ds)
omit [Tbs] in
theorem Rvs.grow {K : Frag} {H0 F F' H H' : Hp} (eF : Same F F') (eH : Same H H') {ms : List M} {vs : List V} {ds : List D} (h : Rvs K H0 F H ms vs ds) : Rvs K H0 F' H' ms vs ds := by
  induction h with
  | nil => exact .nil
  | cons h _ ih => exact .cons (h.grow eF eH) ih
def SA (K : Frag) (E : XK) (Γ : List M) (t : TA) (ms : List M) (g : List D → R (List D)) : Prop :=
  ∀ F0 H0 ρ σ F H fps Q, Rel K F0 H0 Γ ρ σ F H fps → RP (g ρ) (fun ds => ∀ vs F' H', Ext F H F' H' → Rvs K H0 F' H' ms vs ds → Q vs H') (XP K E F H) → t σ H Q
/-- built-in names that the module does not bind -/
structure Bn (mg : Str → Option Value) : Prop where
  range : mg "range" = none
  len : mg "len" = none
  list : mg "list" = none
  tuple : mg "tuple" = none
  isinstance : mg "isinstance" = none
  int : mg "int" = none
  bool : mg "bool" = none
  str : mg "str" = none
  max : mg "max" = none
  min : mg "min" = none
  abs : mg "abs" = none
  all : mg "all" = none
  any : mg "any" = none
  sum : mg "sum" = none
  sorted : mg "sorted" = none
  divmod : mg "divmod" = none
  enumerate : mg "enumerate" = none
  zip : mg "zip" = none
  reversed : mg "reversed" = none
  repr : mg "repr" = none
  set : mg "set" = none
/-- what all pieces of a def's body share -/
structure Uni (K : Frag) (E : XK) (k : Nat) (X : Cx) : Prop where
  K : X.K = K
  nd : X.N.Nodup
  calm : X.calm = true
  room : Room k X.A
  hu : X.A.units + 64 < cLine
  po : PassesOwn (model X.prog X.w) X.A X.env X.xe
  pass : Passes (L2.CX X.prog X.w) X E
  tk : Takes X (fun cls d _ H => E cls d H)
  bn : Bn X.mg
structure DE (K : Frag) (E : XK) (X : Cx) (Γ : List M) (e : Expr) (t : TE) (m : M) (g : List D → R D) : Prop where
  pe : PE X e t
  se : SE K E Γ t m g
structure DT (K : Frag) (E : XK) (X : Cx) (Γ : List M) (e : Expr) (t : TT) (g : List D → R Bool) : Prop where
  pt : PT X e t
  st : ST K E Γ t g
structure DA (K : Frag) (E : XK) (X : Cx) (Γ : List M) (es : List Expr) (t : TA) (ms : List M) (g : List D → R (List D)) : Prop where
  pa : PA X es t
  sa : SA K E Γ t ms g
/-- the slot's data -/
def gv (i : Nat) : List D → R D := fun ρ => .ok (ρ.getD i .non)
def gc (d : D) : List D → R D := fun _ => .ok d
def g1 (f : D → R D) (ga : List D → R D) : List D → R D := fun ρ => ga ρ >>= f
def g2 (f : D → D → R D) (ga gb : List D → R D) : List D → R D := fun ρ => ga ρ >>= fun x => gb ρ >>= fun y => f x y
def nlD (d : D) : R D := if nlB d = true then .ok d else .bad
section
variable {K : Frag} {E : XK} {Γ : List M} {t ta tb : TE} {m : M} {g ga gb : List D → R D}
theorem SE.imp {g' : List D → R D} {m' : M} (h : SE K E Γ t m g)
    (k : ∀ F0 H0 ρ σ F H fps Q, Rel K F0 H0 Γ ρ σ F H fps → RP (g' ρ) (fun d => VP K H0 F H m' d Q) (XP K E F H) → RP (g ρ) (fun d => VP K H0 F H m d Q) (XP K E F H)) : SE K E Γ t m' g' :=
  fun F0 H0 ρ σ F H fps Q r q => h F0 H0 ρ σ F H fps Q r (k F0 H0 ρ σ F H fps Q r q)
/-- to look at -/
theorem SE.pk (h : SE K E Γ t m g) : SE K E Γ t .pk g := h.imp fun F0 H0 ρ σ F H fps Q r q => q.imp (fun d hd v F' H' fp e rv f =>
  hd v F' H' [] e ⟨rv.pk e.fh (r.h0.trans e.h), rfl⟩ Fresh.nil) fun _ z => z
/-- own things are frozen -/
theorem SE.frz (h : SE K E Γ t m g) (hm : m.fz = true) : SE K E Γ t .fr g := h.imp fun F0 H0 ρ σ F H fps Q r q => q.imp (fun d hd v F' H' fp e rv f =>
  hd v (DL.frz F' H' fp) H' [] (e.frz f) ⟨rv.freeze (frz_same fun a ha => (f.un a ha).2) hm fun a ha => frz_in ha, rfl⟩ Fresh.nil) fun _ z => z
/-- what is no list and no object is frozen in any case -/
theorem SE.fix (h : SE K E Γ t .pk g) : SE K E Γ t .fr (g1 nlD g) := h.imp fun F0 H0 ρ σ F H fps Q r q => (RP.bind q).imp (fun d hd v F' H' fp e rv f => by
  unfold nlD at hd
  by_cases n : nlB d = true
  · rw [if_pos n] at hd
    exact hd v F' H' [] e ⟨rv.1.fix n, rfl⟩ Fresh.nil
  · rw [if_neg n] at hd
    exact hd.elim) fun _ z => z
end
section
variable {K : Frag} {E : XK} {X : Cx} {Γ : List M} {e a b c : Expr} {t ta tb tc : TE} {m : M} {g ga gb gc' : List D → R D} {pos : Pos} {k : Nat}
theorem DE.pk (h : DE K E X Γ e t m g) : DE K E X Γ e t .pk g := ⟨h.pe, h.se.pk⟩
theorem DE.frz (h : DE K E X Γ e t m g) (hm : m.fz = true := by rfl) : DE K E X Γ e t .fr g := ⟨h.pe, h.se.frz hm⟩
theorem DE.fix (h : DE K E X Γ e t m g) : DE K E X Γ e t .fr (g1 nlD g) := ⟨h.pe, h.se.pk.fix⟩
theorem se_var {i : Nat} {m : M} (h : Γ[i]? = some m) (hm : m = .fr ∨ m = .bo) : SE K E Γ (tVar i) m (gv i) := fun F0 H0 ρ σ F H fps Q r q => by
  obtain ⟨v, hv, st, rv⟩ := r.get h (by rcases hm with e | e <;> rw [e] <;> exact fun z => nomatch z)
  refine ⟨v, hv, q v F H [] (Ext.refl r.fh) ?_ Fresh.nil⟩
  rcases hm with e | e
  · subst e; exact ⟨rv.1, rfl⟩
  · subst e; exact ⟨rv.1, rfl⟩
theorem se_varP {i : Nat} {m : M} (h : Γ[i]? = some m) (hm : m ≠ .un) : SE K E Γ (tVar i) .pk (gv i) := fun F0 H0 ρ σ F H fps Q r q => by
  obtain ⟨v, hv, st, rv⟩ := r.get h hm
  exact ⟨v, hv, q v F H [] (Ext.refl r.fh) ⟨rv.pk r.fh r.h0, rfl⟩ Fresh.nil⟩
/-- a frozen slot -/
theorem de_v (i : Nat) {x : Str} (h : Γ[i]? = some M.fr := by rfl) (hN : X.N[i]? = some x := by rfl) (hv : Vis X.env.scope x := by first | exact Or.inl rfl | exact Or.inr (Or.inl rfl) | exact Or.inr (Or.inr rfl))
    (hd : (x == ("__debug__" : Str)) = false := by decide) (hcd : (x == ("__classdict__" : Str)) = false := by decide) : DE K E X Γ (.Name x pos) (tVar i) .fr (gv i) := ⟨pe_var hN hv hd hcd, se_var h (.inl rfl)⟩
/-- a borrowed slot -/
theorem de_vb (i : Nat) {x : Str} (h : Γ[i]? = some M.bo := by rfl) (hN : X.N[i]? = some x := by rfl) (hv : Vis X.env.scope x := by first | exact Or.inl rfl | exact Or.inr (Or.inl rfl) | exact Or.inr (Or.inr rfl))
    (hd : (x == ("__debug__" : Str)) = false := by decide) (hcd : (x == ("__classdict__" : Str)) = false := by decide) : DE K E X Γ (.Name x pos) (tVar i) .bo (gv i) := ⟨pe_var hN hv hd hcd, se_var h (.inr rfl)⟩
/-- any slot, to be looked at -/
theorem de_vp (i : Nat) {x : Str} {m : M} (h : Γ[i]? = some m := by rfl) (hm : m ≠ .un := by exact fun z => nomatch z) (hN : X.N[i]? = some x := by rfl) (hv : Vis X.env.scope x := by first | exact Or.inl rfl | exact Or.inr (Or.inl rfl) | exact Or.inr (Or.inr rfl))
    (hd : (x == ("__debug__" : Str)) = false := by decide) (hcd : (x == ("__classdict__" : Str)) = false := by decide) : DE K E X Γ (.Name x pos) (tVar i) .pk (gv i) := ⟨pe_var hN hv hd hcd, se_varP h hm⟩
theorem se_c {v : V} {d : D} (h : ∀ F : Hp, Fz K F v d) : SE K E Γ (tC v) .fr (gc d) := fun F0 H0 ρ σ F H fps Q r q => q v F H [] (Ext.refl r.fh) ⟨h F, rfl⟩ Fresh.nil
theorem de_int {i j} : DE K E X Γ (.Constant (.int i) j pos) (tC (.int i)) .fr (gc (.int i)) := ⟨pe_int, se_c fun F => .int i⟩
theorem de_bl {b j} : DE K E X Γ (.Constant (.bool b) j pos) (tC (.bl b)) .fr (gc (.bl b)) := ⟨pe_bl, se_c fun F => .bl b⟩
theorem de_non {j} : DE K E X Γ (.Constant .none j pos) (tC .non) .fr (gc .non) := ⟨pe_non, se_c fun F => .non⟩
theorem de_str {x j} : DE K E X Γ (.Constant (.str x) j pos) (tC (.str x)) .fr (gc (.str x)) := ⟨pe_str, se_c fun F => .str x⟩
/-- a module's constant -/
theorem de_glob {x : Str} {v : V} {u : Value} {d : D} (hm : X.mg x = some u) (r : RelV v u) (h : ∀ F : Hp, Fz K F v d) (hg : Gl X x := by rfl) (hd : (x == ("__debug__" : Str)) = false := by decide) : DE K E X Γ (.Name x pos) (tC v) .fr (gc d) :=
  ⟨pe_glob hg hm r hd, se_c h⟩
/-- an operation on values and what it gives over data -/
def SO2 (K : Frag) (r : R2) (m : M) (f : D → D → R D) : Prop :=
  ∀ H0 F H x y dx dy Q, Same F H → Same H0 H → Bo K H F x dx → Bo K H F y dy → RP (f dx dy) (fun d => VP K H0 F H m d Q) (fun _ => False) → r x y H Q
theorem se_op {r : R2} {m : M} {f : D → D → R D} (hs : SO2 K r m f) (hx : ∀ x y e, f x y ≠ .exc e) (ha : SE K E Γ ta .pk ga) (hb : SE K E Γ tb .pk gb) : SE K E Γ (tOp r ta tb) m (g2 f ga gb) := fun F0 H0 ρ σ F H fps Q r q => by
  refine ha F0 H0 ρ σ F H fps _ r ((RP.bind q).imp (fun dx q1 x F1 H1 fp1 e1 rv1 f1 => ?_) fun _ z => z)
  refine hb F0 H0 ρ σ F1 H1 fps _ (r.ext e1) ((RP.bind q1).imp (fun dy q2 y F2 H2 fp2 e2 rv2 f2 => ?_) fun _ z => z.on e1)
  refine hs H0 F2 H2 x y dx dy Q e2.fh (r.h0.trans (e1.h.trans e2.h)) (rv1.1.mono e2.h e2.f) rv2.1 ?_
  cases hf : f dx dy with
  | ok d => rw [hf] at q2; exact VP.on (VP.on q2 e1) e2
  | exc x => exact absurd hf (hx _ _ _)
  | bad => rw [hf] at q2; exact q2
end
end DL
namespace DL
open PySem L2
variable [Tbs]
section
variable {K : Frag} {H0 F H : Hp} {Q : VK}
/-- a value that stands already -/
theorem VP.old {v : V} {d : D} (q : VP K H0 F H .fr d Q) (e : Same F H) (h : Fz K F v d) : Q v H := q v F H [] (Ext.refl e) ⟨h, rfl⟩ Fresh.nil
def notL : D → Bool
  | .lst _ => false
  | .ob _ _ _ => false
  | _ => true
omit [Tbs] in
theorem Rv.flat {m : M} {v : V} {d : D} (n : notL d = true) (h : Fz K F v d) : Rv K H0 F H (.ow m) v d [] := by
  cases d with
  | lst _ => cases n
  | ob _ _ _ => cases n
  | non => exact ⟨h, rfl⟩
  | bl _ => exact ⟨h, rfl⟩
  | int _ => exact ⟨h, rfl⟩
  | str _ => exact ⟨h, rfl⟩
  | tup _ => exact ⟨h, rfl⟩
  | cl _ => exact ⟨h, rfl⟩
  | ex _ _ => exact ⟨h, rfl⟩
theorem VP.oldF {m : M} {v : V} {d : D} (q : VP K H0 F H (.ow m) d Q) (e : Same F H) (n : notL d = true) (h : Fz K F v d) : Q v H := q v F H [] (Ext.refl e) (Rv.flat n h) Fresh.nil
theorem VP.newT {ds : List D} {vs : List V} {p : Addr} (q : VP K H0 F H .fr (.tup ds) Q) (e : Same F H) (hp : H p = none) (h : FzL K F vs ds) : Q (.ref p) (upd H p (.tup vs)) :=
  q (.ref p) (upd F p (.tup vs)) _ [] (Ext.laid e hp) ⟨.tup (SqT.of upd_same) (h.mono (Ext.laid e hp).f), rfl⟩ Fresh.nil
theorem VP.newTF {m : M} {ds : List D} {vs : List V} {p : Addr} (q : VP K H0 F H (.ow m) (.tup ds) Q) (e : Same F H) (hp : H p = none) (h : FzL K F vs ds) : Q (.ref p) (upd H p (.tup vs)) :=
  q (.ref p) (upd F p (.tup vs)) _ [] (Ext.laid e hp) ⟨.tup (SqT.of upd_same) (h.mono (Ext.laid e hp).f), rfl⟩ Fresh.nil
omit [Tbs] in
theorem Fresh.one {p : Addr} (e : Same F H) (hp : H p = none) : Fresh H F [p] := ⟨by simp, fun a ha => by
  have e' : a = p := by simpa using ha
  subst e'
  exact ⟨hp, e.free hp⟩⟩
theorem VP.newL {ds : List D} {vs : List V} {p : Addr} (q : VP K H0 F H (.ow .fr) (.lst ds) Q) (e : Same F H) (hp : H p = none) (h : FzL K F vs ds) : Q (.ref p) (upd H p (.lst vs)) :=
  q (.ref p) F _ [p] (Ext.made e hp) ⟨p, vs, [], rfl, upd_same, h.al, rfl⟩ (Fresh.one e hp)
end
section
open PySem.Spec PyProof.Rows HT
variable {X : Cx}
def rCatLs (K : Frag) : R2 := fun x y H Q => ∃ l b xs zs, x = .ref l ∧ y = .ref b ∧ SqL K H l xs ∧ SqL K H b zs ∧ xs.length + zs.length ≤ sizeLine ∧ ∀ p, H p = none → Q (.ref p) (upd H p (.lst (xs ++ zs)))
omit [Tbs] in
theorem op_catLs : OpR X (binaryOp .Add) (rCatLs X.K) := by
  intro pins s σ H x y v u Q I rx ry h
  obtain ⟨l, b, xs, zs, rfl, rfl, hH, hB, hz, q⟩ := h
  cases rx
  cases ry
  obtain ⟨its, r, p1, _⟩ := I.list hH
  obtain ⟨its2, r2, p2, _⟩ := I.list hB
  have hl := r.length
  have hl2 := r2.length
  obtain ⟨⟨cls, dd, data, sl⟩, ho, hc, n, hd⟩ := p1.isList
  obtain ⟨⟨cls2, dd2, data2, sl2⟩, ho2, hc2, n2, hd2⟩ := p2.isList
  simp only at hc hd hc2 hd2
  subst hc hd hc2 hd2
  have e : its.toArray ++ its2.toArray = (its ++ its2).toArray := by simp
  refine concat_meets ⟨_, ho, rfl⟩ ⟨_, ho2, rfl⟩ noFill_list_add seq_list_add PySem.F.slot_list_add PySem.F.entry_list_add (PySem.F.args_list_add_2 _ _) (list_addW l b its.toArray its2.toArray n n2 dd dd2 sl sl2 (by rw [List.size_toArray, List.size_toArray]; omega)) ⟨ho, ho2, ?_⟩
  rw [e]
  exact ⟨.ref _, _, I.lnew (t' := s.toks) (r.append r2) (by rw [List.length_append]; omega), rfl, q _ I.fresh⟩
end
def rAddD (K : Frag) : R2 := fun x y H Q =>
  rI0 (fun i j => .int (i + j)) x y H Q ∨ (∃ i k, x = .int i ∧ y = .bl k ∧ Q (.int (i + PyProof.Rows.b2i k)) H) ∨ (∃ i j, x = .str i ∧ y = .str j ∧ i.length + j.length ≤ sizeLine ∧ Q (.str (i ++ j)) H) ∨ rCatA K x y H Q ∨ rCatLs K x y H Q
omit [Tbs] in
theorem op_addD {X : Cx} : OpR X (binaryOp .Add) (rAddD X.K) := op_add.or (op_add_ib.or (op_add_str.or (op_catA.or op_catLs)))
def dAdd : D → D → R D
  | .int i, .int j => .ok (.int (i + j))
  | .int i, .bl k => .ok (.int (i + PyProof.Rows.b2i k))
  | .str a, .str b => if a.length + b.length ≤ sizeLine then .ok (.str (a ++ b)) else .bad
  | .tup xs, .tup ys => if xs.length + ys.length ≤ sizeLine then .ok (.tup (xs ++ ys)) else .bad
  | .lst xs, .lst ys => if xs.all nlB = true ∧ ys.all nlB = true ∧ xs.length + ys.length ≤ sizeLine then .ok (.lst (xs ++ ys)) else .bad
  | _, _ => .bad
omit [Tbs] in
theorem RP.ite {α : Type} {c : Prop} [Decidable c] {a : R α} {P : α → Prop} {X : Ex → Prop} (h : RP (if c then a else .bad) P X) : c ∧ RP a P X := by
  by_cases e : c
  · rw [if_pos e] at h; exact ⟨e, h⟩
  · rw [if_neg e] at h; exact h.elim
theorem so_add {K : Frag} : SO2 K (rAddD K) (.ow .fr) dAdd := by
  intro H0 F H x y dx dy Q eF e0 hx hy q
  cases dx with
  | int i =>
    obtain rfl := hx.intOf
    cases dy with
    | int j =>
      obtain rfl := hy.intOf
      exact .inl ⟨i, j, rfl, rfl, VP.oldF q eF rfl (.int _)⟩
    | bl k =>
      obtain rfl := hy.blOf
      exact .inr (.inl ⟨i, k, rfl, rfl, VP.oldF q eF rfl (.int _)⟩)
    | _ => exact (show False from q).elim
  | str a =>
    obtain rfl := hx.strOf
    cases dy with
    | str b =>
      obtain rfl := hy.strOf
      obtain ⟨c, q⟩ := RP.ite q
      exact .inr (.inr (.inl ⟨a, b, rfl, rfl, c, VP.oldF q eF rfl (.str _)⟩))
    | _ => exact (show False from q).elim
  | tup xs =>
    cases dy with
    | tup ys =>
      obtain ⟨c, q⟩ := RP.ite q
      obtain ⟨a, vs, rfl, h1, h2⟩ := hx.tupOf
      obtain ⟨b, ws, rfl, h3, h4⟩ := hy.tupOf
      have l1 := h2.length
      have l2 := h4.length
      refine .inr (.inr (.inr (.inl ⟨a, b, vs, ws, rfl, rfl, Same.sqt eF h1, Same.sqt eF h3, by omega, fun e => ?_, fun _ e => ?_, fun _ _ p hp => ?_⟩)))
      · subst e
        cases h2
        exact VP.oldF q eF rfl (.tup h3 h4)
      · subst e
        cases h4
        rw [List.append_nil] at q
        exact VP.oldF q eF rfl (.tup h1 h2)
      · exact VP.newTF q eF hp (h2.append h4)
    | _ => exact (show False from q).elim
  | lst xs =>
    cases dy with
    | lst ys =>
      obtain ⟨⟨c1, c2, c3⟩, q⟩ := RP.ite q
      obtain ⟨a, vs, rfl, h1, h2⟩ := hx.listOf eF
      obtain ⟨b, ws, rfl, h3, h4⟩ := hy.listOf eF
      have l1 := h2.length
      have l2 := h4.length
      exact .inr (.inr (.inr (.inr ⟨a, b, vs, ws, rfl, rfl, h1, h3, by omega, fun p hp => VP.newL q eF hp ((h2.fix c1).append (h4.fix c2))⟩)))
    | _ => exact (show False from q).elim
  | _ => exact (show False from q).elim
omit [Tbs] in
theorem RP.ite' {α : Type} {c : Prop} [Decidable c] {a : R α} {P : α → Prop} {X : Ex → Prop} (h : RP (if c then a else .bad) P X) : c ∧ RP a P X := RP.ite h
def dI2 (C : Int → Int → Prop) [∀ i j, Decidable (C i j)] (g : Int → Int → Int) : D → D → R D
  | .int i, .int j => if C i j then .ok (.int (g i j)) else .bad
  | _, _ => .bad
theorem so_I {K : Frag} {C C' : Int → Int → Prop} [∀ i j, Decidable (C i j)] {g : Int → Int → Int} (hc : ∀ i j, C i j → C' i j) : SO2 K (rI C' fun i j => .int (g i j)) .fr (dI2 C g) := by
  intro H0 F H x y dx dy Q eF e0 hx hy q
  cases dx with
  | int i =>
    obtain rfl := hx.intOf
    cases dy with
    | int j =>
      obtain rfl := hy.intOf
      obtain ⟨c, q⟩ := RP.ite q
      exact ⟨i, j, rfl, rfl, hc i j c, VP.old q eF (.int _)⟩
    | _ => exact (show False from q).elim
  | _ => exact (show False from q).elim
def dI0 (g : Int → Int → Int) : D → D → R D
  | .int i, .int j => .ok (.int (g i j))
  | _, _ => .bad
theorem so_I0 {K : Frag} {g : Int → Int → Int} : SO2 K (rI0 fun i j => .int (g i j)) .fr (dI0 g) := by
  intro H0 F H x y dx dy Q eF e0 hx hy q
  cases dx with
  | int i =>
    obtain rfl := hx.intOf
    cases dy with
    | int j =>
      obtain rfl := hy.intOf
      exact ⟨i, j, rfl, rfl, VP.old q eF (.int _)⟩
    | _ => exact (show False from q).elim
  | _ => exact (show False from q).elim
def dB0 (g : Int → Int → Bool) : D → D → R D
  | .int i, .int j => .ok (.bl (g i j))
  | _, _ => .bad
theorem so_B0 {K : Frag} {g : Int → Int → Bool} : SO2 K (rI0 fun i j => .bl (g i j)) .fr (dB0 g) := by
  intro H0 F H x y dx dy Q eF e0 hx hy q
  cases dx with
  | int i =>
    obtain rfl := hx.intOf
    cases dy with
    | int j =>
      obtain rfl := hy.intOf
      exact ⟨i, j, rfl, rfl, VP.old q eF (.bl _)⟩
    | _ => exact (show False from q).elim
  | _ => exact (show False from q).elim
omit [Tbs] in
theorem dI2_x {C : Int → Int → Prop} [∀ i j, Decidable (C i j)] {g : Int → Int → Int} : ∀ x y e, dI2 C g x y ≠ .exc e := by
  intro x y e h
  cases x <;> cases y <;> simp only [dI2] at h <;> first | (cases h; done) | (split at h <;> cases h)
theorem dI0_x {g : Int → Int → Int} : ∀ x y e, dI0 g x y ≠ .exc e := by
  intro x y e h
  cases x <;> cases y <;> exact nomatch h
theorem dB0_x {g : Int → Int → Bool} : ∀ x y e, dB0 g x y ≠ .exc e := by
  intro x y e h
  cases x <;> cases y <;> exact nomatch h
theorem dAdd_x : ∀ x y e, dAdd x y ≠ .exc e := by
  intro x y e h
  cases x <;> cases y <;> simp only [dAdd] at h <;> first | (cases h; done) | (split at h <;> cases h)
instance (i j : Int) : Decidable (CMul i j) := by unfold CMul; infer_instance
instance (i j : Int) : Decidable (CMulX i j) := by unfold CMulX; infer_instance
instance (i j : Int) : Decidable (CDivW i j) := by unfold CDivW; infer_instance
instance (i j : Int) : Decidable (CPow i j) := by unfold CPow; infer_instance
instance (i j : Int) : Decidable (CShl i j) := by unfold CShl; infer_instance
def CMulD (i j : Int) : Prop := CMul i j ∨ CMulX i j
instance (i j : Int) : Decidable (CMulD i j) := by unfold CMulD; infer_instance
theorem op_mulD {X : Cx} : OpR X (binaryOp .Mult) (rI CMulD fun i j => .int (i * j)) := opI fun i j _ _ _ _ _ hc q => by
  rcases hc with h | h
  · exact PyProof.Rows.mul_int q h.ok
  · exact PyProof.Rows.mul_int q h.ok
def dSub : D → D → R D := dI0 fun i j => i - j
def dMul : D → D → R D := dI2 CMulD fun i j => i * j
def dDiv : D → D → R D := dI2 CDivW fun i j => i / j
def dMod : D → D → R D := dI2 (fun _ j => 0 < j) fun i j => i % j
def dShl : D → D → R D := dI2 CShl fun i j => i * 2 ^ j.toNat
def dAnd : D → D → R D := dI0 fun i j => Builtin.bitAnd i j
def dOr : D → D → R D := dI0 fun i j => Builtin.bitOr i j
def dXor : D → D → R D := dI0 fun i j => Builtin.bitXor i j
def dLt : D → D → R D := dB0 fun i j => decide (i < j)
def dLe : D → D → R D := dB0 fun i j => decide (i ≤ j)
def dGt : D → D → R D := dB0 fun i j => decide (j < i)
def dGe : D → D → R D := dB0 fun i j => decide (j ≤ i)
section
variable {K : Frag} {E : XK} {X : Cx} {Γ : List M} {e a b c : Expr} {t ta tb tc : TE} {m ma mb : M} {g ga gb : List D → R D} {pos : Pos} {k : Nat}
theorem DE.op {op : Operator} {r : R2} {f : D → D → R D} (ho : OpR X (binaryOp op) r) (hs : SO2 K r m f) (hx : ∀ x y e, f x y ≠ .exc e) (ha : DE K E X Γ a ta ma ga) (hb : DE K E X Γ b tb mb gb) :
    DE K E X Γ (.BinOp a op b pos) (tOp r ta tb) m (g2 f ga gb) := ⟨pe_op ho ha.pe hb.pe, se_op hs hx ha.se.pk hb.se.pk⟩
theorem de_add (U : Uni K E k X) (ha : DE K E X Γ a ta ma ga) (hb : DE K E X Γ b tb mb gb) : DE K E X Γ (.BinOp a .Add b pos) (tOp (rAddD K) ta tb) (.ow .fr) (g2 dAdd ga gb) := by
  have e := U.K
  subst e
  exact DE.op op_addD so_add dAdd_x ha hb
theorem de_sub (ha : DE K E X Γ a ta ma ga) (hb : DE K E X Γ b tb mb gb) : DE K E X Γ (.BinOp a .Sub b pos) (tOp (rI0 fun i j => .int (i - j)) ta tb) .fr (g2 dSub ga gb) := DE.op op_sub so_I0 dI0_x ha hb
theorem de_mul (ha : DE K E X Γ a ta ma ga) (hb : DE K E X Γ b tb mb gb) : DE K E X Γ (.BinOp a .Mult b pos) (tOp (rI CMulD fun i j => .int (i * j)) ta tb) .fr (g2 dMul ga gb) := DE.op op_mulD (so_I fun _ _ h => h) dI2_x ha hb
theorem de_div (ha : DE K E X Γ a ta ma ga) (hb : DE K E X Γ b tb mb gb) : DE K E X Γ (.BinOp a .FloorDiv b pos) (tOp (rI CDivW fun i j => .int (i / j)) ta tb) .fr (g2 dDiv ga gb) := DE.op op_fdivW (so_I fun _ _ h => h) dI2_x ha hb
theorem de_mod (ha : DE K E X Γ a ta ma ga) (hb : DE K E X Γ b tb mb gb) : DE K E X Γ (.BinOp a .Mod b pos) (tOp (rI (fun _ j => 0 < j) fun i j => .int (i % j)) ta tb) .fr (g2 dMod ga gb) := DE.op op_mod (so_I fun _ _ h => h) dI2_x ha hb
theorem de_shl (ha : DE K E X Γ a ta ma ga) (hb : DE K E X Γ b tb mb gb) : DE K E X Γ (.BinOp a .LShift b pos) (tOp (rI CShl fun i j => .int (i * 2 ^ j.toNat)) ta tb) .fr (g2 dShl ga gb) := DE.op op_shlW (so_I fun _ _ h => h) dI2_x ha hb
def toB : D → R Bool
  | .bl b => .ok b
  | _ => .bad
def gB (g : List D → R D) : List D → R Bool := fun ρ => g ρ >>= toB
theorem st_val (h : SE K E Γ t m g) : ST K E Γ (tTest t) (gB g) := fun F0 H0 ρ σ F H fps Q r q => by
  refine h.pk F0 H0 ρ σ F H fps _ r ((RP.bind q).imp (fun d hd v F' H' fp e rv f => ?_) fun _ z => z)
  cases d with
  | bl b => exact ⟨b, rv.1.blOf, hd F' H' e⟩
  | _ => exact (show False from hd).elim
theorem DE.cmp {op : CmpOp} {r : R2} {f : D → D → R D} (ho : OpR X (compareOp op) r) (hs : SO2 K r m f) (hx : ∀ x y e, f x y ≠ .exc e) (hm : behindInMarks op b = false) (ha : DE K E X Γ a ta ma ga) (hb : DE K E X Γ b tb mb gb) :
    DE K E X Γ (.Compare a [op] [b] pos) (tOp r ta tb) m (g2 f ga gb) := ⟨pe_cmpR ho ha.pe hb.pe hm, se_op hs hx ha.se.pk hb.se.pk⟩
theorem DT.cmp {op : CmpOp} {r : R2} {f : D → D → R D} (ho : OpR X (compareOp op) r) (hs : SO2 K r m f) (hx : ∀ x y e, f x y ≠ .exc e) (hm : behindInMarks op b = false) (ha : DE K E X Γ a ta ma ga) (hb : DE K E X Γ b tb mb gb) :
    DT K E X Γ (.Compare a [op] [b] pos) (tTest (tOp r ta tb)) (gB (g2 f ga gb)) := ⟨pt_cmpR ho ha.pe hb.pe hm, st_val (se_op hs hx ha.se.pk hb.se.pk)⟩
theorem dt_lt (ha : DE K E X Γ a ta ma ga) (hb : DE K E X Γ b tb mb gb) : DT K E X Γ (.Compare a [.Lt] [b] pos) (tTest (tOp (rI0 fun i j => .bl (decide (i < j))) ta tb)) (gB (g2 dLt ga gb)) := DT.cmp op_lt so_B0 dB0_x (nomark _) ha hb
theorem dt_gt (ha : DE K E X Γ a ta ma ga) (hb : DE K E X Γ b tb mb gb) : DT K E X Γ (.Compare a [.Gt] [b] pos) (tTest (tOp (rI0 fun i j => .bl (decide (j < i))) ta tb)) (gB (g2 dGt ga gb)) := DT.cmp op_gt so_B0 dB0_x (nomark _) ha hb
theorem dt_ge (ha : DE K E X Γ a ta ma ga) (hb : DE K E X Γ b tb mb gb) : DT K E X Γ (.Compare a [.GtE] [b] pos) (tTest (tOp (rI0 fun i j => .bl (decide (j ≤ i))) ta tb)) (gB (g2 dGe ga gb)) := DT.cmp op_ge so_B0 dB0_x (nomark _) ha hb
end
mutual
def toP : D → PyData
  | .non => .none
  | .bl b => .bool b
  | .int i => .int i
  | .str x => .str x
  | .tup ds => .tuple (toPs ds)
  | .lst ds => .list (toPs ds)
  | .ob _ _ _ => .none
  | .cl _ => .none
  | .ex _ _ => .none
def toPs : List D → List PyData
  | [] => []
  | d :: ds => toP d :: toPs ds
end
mutual
/-- plain data: no object, no def -/
def pln : D → Bool
  | .tup ds => plns ds
  | .lst ds => plns ds
  | .ob _ _ _ => false
  | .cl _ => false
  | .ex _ _ => false
  | _ => true
def plns : List D → Bool
  | [] => true
  | d :: ds => pln d && plns ds
end
section
variable {K : Frag} {F H : Hp}
mutual
theorem Fz.dp (e : Same F H) : ∀ {v : V} {d : D}, Fz K F v d → pln d = true → Dp K H v (toP d)
  | _, _, .non, _ => .non
  | _, _, .bl b, _ => .bl b
  | _, _, .int i, _ => .int i
  | _, _, .str x, _ => .str x
  | _, _, .tup h hs, p => .tup (Same.sqt e h) (FzL.dp e hs p)
  | _, _, .lst h hs, p => .lst (e.seq h) (FzL.dp e hs p)
  | _, _, .ob _ _ _, p => nomatch p
  | _, _, .cl _, p => nomatch p
  | _, _, .ex _, p => nomatch p
  | _, _, .exr _ _ _, p => nomatch p
theorem FzL.dp (e : Same F H) : ∀ {vs : List V} {ds : List D}, FzL K F vs ds → plns ds = true → DpAll K H vs (toPs ds)
  | _, _, .nil, _ => .nil
  | _, _, .cons h hs, p => .cons (Fz.dp e h (Bool.and_eq_true_iff.mp p).1) (FzL.dp e hs (Bool.and_eq_true_iff.mp p).2)
end
mutual
theorem Bo.dp (e : Same F H) : ∀ {v : V} {d : D}, Bo K H F v d → pln d = true → Dp K H v (toP d)
  | _, _, .fz h, p => h.dp e p
  | _, _, .lst h hs, p => .lst h (BoL.dp e hs p)
  | _, _, .ob _ _ _, p => nomatch p
theorem BoL.dp (e : Same F H) : ∀ {vs : List V} {ds : List D}, BoL K H F vs ds → plns ds = true → DpAll K H vs (toPs ds)
  | _, _, .nil, _ => .nil
  | _, _, .cons h hs, p => .cons (Bo.dp e h (Bool.and_eq_true_iff.mp p).1) (BoL.dp e hs (Bool.and_eq_true_iff.mp p).2)
end
end
def eqOk (d : D) : Bool := pln d && SeqAt.shaped (toP d)
def dEq (x y : D) : R D := if (eqOk x && eqOk y) = true then .ok (.bl (PyData.eqv (toP x) (toP y))) else .bad
def dNe (x y : D) : R D := if (eqOk x && eqOk y) = true then .ok (.bl (!PyData.eqv (toP x) (toP y))) else .bad
theorem dEq_x : ∀ x y e, dEq x y ≠ .exc e := by
  intro x y e h
  unfold dEq at h
  split at h <;> exact nomatch h
theorem dNe_x : ∀ x y e, dNe x y ≠ .exc e := by
  intro x y e h
  unfold dNe at h
  split at h <;> exact nomatch h
theorem so_eq {K : Frag} : SO2 K (rEqD K) .fr dEq := by
  intro H0 F H x y dx dy Q eF e0 hx hy q
  obtain ⟨c, q⟩ := RP.ite q
  simp only [eqOk, Bool.and_eq_true] at c
  exact ⟨_, _, hx.dp eF c.1.1, hy.dp eF c.2.1, c.1.2, c.2.2, VP.old q eF (.bl _)⟩
theorem so_ne {K : Frag} : SO2 K (rNeD K) .fr dNe := by
  intro H0 F H x y dx dy Q eF e0 hx hy q
  obtain ⟨c, q⟩ := RP.ite q
  simp only [eqOk, Bool.and_eq_true] at c
  exact ⟨_, _, hx.dp eF c.1.1, hy.dp eF c.2.1, c.1.2, c.2.2, VP.old q eF (.bl _)⟩
/-- is None, is not None -/
def dIsN : D → D → R D
  | .non, .non => .ok (.bl true)
  | _, .non => .ok (.bl false)
  | _, _ => .bad
omit [Tbs] in
theorem Bo.non_iff {K : Frag} {F H : Hp} {v : V} {d : D} (h : Bo K H F v d) : v = .non ↔ d = .non := by
  cases h with
  | fz h => cases h <;> simp
  | lst _ _ => simp
  | ob _ _ _ => simp
def rIsN : R2 := fun x y H Q => y = .non ∧ Q (.bl (decide (x = .non))) H
theorem so_isN {K : Frag} : SO2 K rIsN .fr dIsN := by
  intro H0 F H x y dx dy Q eF e0 hx hy q
  cases dy with
  | non =>
    refine ⟨hy.nonOf, ?_⟩
    by_cases z : dx = .non
    · subst z
      rw [decide_eq_true hx.nonOf]
      exact VP.old q eF (.bl _)
    · rw [decide_eq_false fun w => z (hx.non_iff.mp w)]
      have q' : RP (.ok (.bl false)) (fun d => VP K H0 F H .fr d Q) (fun _ => False) := by
        cases dx <;> first | exact absurd rfl z | exact q
      exact VP.old q' eF (.bl _)
  | _ => cases dx <;> exact (show False from q).elim
omit [Tbs] in
theorem dIsN_x : ∀ x y e, dIsN x y ≠ .exc e := by
  intro x y e h
  cases x <;> cases y <;> exact nomatch h
section
variable {K : Frag} {E : XK} {X : Cx} {Γ : List M} {e a b c : Expr} {t ta tb tc : TE} {m ma mb : M} {g ga gb : List D → R D} {pos : Pos} {k : Nat}
theorem de_eq (U : Uni K E k X) (ha : DE K E X Γ a ta ma ga) (hb : DE K E X Γ b tb mb gb) : DE K E X Γ (.Compare a [.Eq] [b] pos) (tOp (rEqD K) ta tb) .fr (g2 dEq ga gb) := by
  have e := U.K
  subst e
  exact DE.cmp (op_eqD U.hu) so_eq dEq_x (nomark _) ha hb
theorem dt_eq (U : Uni K E k X) (ha : DE K E X Γ a ta ma ga) (hb : DE K E X Γ b tb mb gb) : DT K E X Γ (.Compare a [.Eq] [b] pos) (tTest (tOp (rEqD K) ta tb)) (gB (g2 dEq ga gb)) := by
  have e := U.K
  subst e
  exact DT.cmp (op_eqD U.hu) so_eq dEq_x (nomark _) ha hb
theorem dt_ne (U : Uni K E k X) (ha : DE K E X Γ a ta ma ga) (hb : DE K E X Γ b tb mb gb) : DT K E X Γ (.Compare a [.NotEq] [b] pos) (tTest (tOp (rNeD K) ta tb)) (gB (g2 dNe ga gb)) := by
  have e := U.K
  subst e
  exact DT.cmp (op_neD U.hu) so_ne dNe_x (nomark _) ha hb
theorem dt_isN (ha : DE K E X Γ a ta ma ga) (hb : DE K E X Γ b tb mb gb) : DT K E X Γ (.Compare a [.Is] [b] pos) (tTest (tOp rIsN ta tb)) (gB (g2 dIsN ga gb)) := DT.cmp op_isN so_isN dIsN_x (nomark _) ha hb
end
end DL
namespace DL
open PySem L2
variable [Tbs]
section
variable {K : Frag} {E : XK} {X : Cx} {Γ : List M} {e a b c : Expr} {es rest : List Expr} {t ta tb tc : TE} {tA tB : TT} {m ma mb : M} {g ga gb : List D → R D} {hA hB : List D → R Bool} {pos : Pos} {k : Nat}
structure DW (K : Frag) (E : XK) (X : Cx) (Γ : List M) (e : Expr) (t : TT) (g : List D → R Bool) : Prop where
  pw : PW X e t
  st : ST K E Γ t g
theorem DW.dt (h : DW K E X Γ e tA hA) : DT K E X Γ e tA hA := ⟨h.pw.pt, h.st⟩
def gAnd (a b : List D → R Bool) : List D → R Bool := fun ρ => a ρ >>= fun c => if c = true then b ρ else .ok false
def gOr (a b : List D → R Bool) : List D → R Bool := fun ρ => a ρ >>= fun c => if c = true then .ok true else b ρ
def gNot (a : List D → R Bool) : List D → R Bool := fun ρ => a ρ >>= fun c => .ok (!c)
def gIf (c : List D → R Bool) (a b : List D → R D) : List D → R D := fun ρ => c ρ >>= fun k => if k = true then a ρ else b ρ
omit [Tbs] in
theorem ite_tt {p : Bool} {A B : Prop} (h : p = true → A) (h' : p = false → B) : if p = true then A else B := by
  cases p with
  | true => rw [if_pos rfl]; exact h rfl
  | false => rw [if_neg Bool.false_ne_true]; exact h' rfl
theorem st_and (h1 : ST K E Γ tA hA) (h2 : ST K E Γ tB hB) : ST K E Γ (tAnd tA tB) (gAnd hA hB) := fun F0 H0 ρ σ F H fps Q r q =>
  h1 F0 H0 ρ σ F H fps _ r ((RP.bind q).imp (fun c hc F' H' x => ite_tt (fun e => by
    subst e
    exact h2 F0 H0 ρ σ F' H' fps Q (r.ext x) (RP.imp (show RP (hB ρ) _ _ from hc) (fun b hb F2 H2 y => hb F2 H2 (x.trans y)) fun _ z => z.on x)) fun e => by
    subst e
    exact (show RP (R.ok false) _ _ from hc) F' H' x) fun _ z => z)
theorem st_or (h1 : ST K E Γ tA hA) (h2 : ST K E Γ tB hB) : ST K E Γ (tOr tA tB) (gOr hA hB) := fun F0 H0 ρ σ F H fps Q r q =>
  h1 F0 H0 ρ σ F H fps _ r ((RP.bind q).imp (fun c hc F' H' x => ite_tt (fun e => by
    subst e
    exact (show RP (R.ok true) _ _ from hc) F' H' x) fun e => by
    subst e
    exact h2 F0 H0 ρ σ F' H' fps Q (r.ext x) (RP.imp (show RP (hB ρ) _ _ from hc) (fun b hb F2 H2 y => hb F2 H2 (x.trans y)) fun _ z => z.on x)) fun _ z => z)
theorem st_not (h1 : ST K E Γ tA hA) : ST K E Γ (tNot tA) (gNot hA) := fun F0 H0 ρ σ F H fps Q r q =>
  h1 F0 H0 ρ σ F H fps _ r ((RP.bind q).imp (fun c hc F' H' x => hc F' H' x) fun _ z => z)
theorem dw_and1 (h : DT K E X Γ a tA hA) : DW K E X Γ (.BoolOp .And [a] pos) tA hA := ⟨pw_and1 h.pt, h.st⟩
theorem dw_or1 (h : DT K E X Γ a tA hA) : DW K E X Γ (.BoolOp .Or [a] pos) tA hA := ⟨pw_or1 h.pt, h.st⟩
theorem dw_and (h : DT K E X Γ a tA hA) (h2 : DW K E X Γ (.BoolOp .And (b :: rest) pos) tB hB) : DW K E X Γ (.BoolOp .And (a :: b :: rest) pos) (tAnd tA tB) (gAnd hA hB) := ⟨pw_and h.pt h2.pw, st_and h.st h2.st⟩
theorem dw_or (h : DT K E X Γ a tA hA) (h2 : DW K E X Γ (.BoolOp .Or (b :: rest) pos) tB hB) : DW K E X Γ (.BoolOp .Or (a :: b :: rest) pos) (tOr tA tB) (gOr hA hB) := ⟨pw_or h.pt h2.pw, st_or h.st h2.st⟩
theorem dt_not (h : DT K E X Γ a tA hA) : DT K E X Γ (.UnaryOp .Not a pos) (tNot tA) (gNot hA) := ⟨pt_not h.pt, st_not h.st⟩
/-- a value that is a truth, as a test -/
theorem dt_val (h : DE K E X Γ e t m g) (he : ∀ whole, isTrue e X.env whole = (do let v ← whole; standAt e.pos; holding [v] (truthy v)) := by intro _; rfl) : DT K E X Γ e (L2.tB t) (gB g) := ⟨pt_val h.pe he, st_val h.se⟩
theorem se_if (hc : ST K E Γ tA hA) (h1 : SE K E Γ ta m ga) (h2 : SE K E Γ tb m gb) : SE K E Γ (tIf tA ta tb) m (gIf hA ga gb) := fun F0 H0 ρ σ F H fps Q r q =>
  hc F0 H0 ρ σ F H fps _ r ((RP.bind q).imp (fun c hc F' H' x => ite_tt (fun e => by
    subst e
    exact h1 F0 H0 ρ σ F' H' fps Q (r.ext x) (RP.imp (show RP (ga ρ) _ _ from hc) (fun d hd => hd.on x) fun _ z => z.on x)) fun e => by
    subst e
    exact h2 F0 H0 ρ σ F' H' fps Q (r.ext x) (RP.imp (show RP (gb ρ) _ _ from hc) (fun d hd => hd.on x) fun _ z => z.on x)) fun _ z => z)
theorem de_if (hc : DT K E X Γ c tA hA) (h1 : DE K E X Γ a ta m ga) (h2 : DE K E X Γ b tb m gb) : DE K E X Γ (.IfExp c a b pos) (tIf tA ta tb) m (gIf hA ga gb) := ⟨pe_ifExp hc.pt h1.pe h2.pe, se_if hc.st h1.se h2.se⟩
/-- and, or, not as values: all truths -/
def toBl (g : List D → R Bool) : List D → R D := fun ρ => g ρ >>= fun b => .ok (.bl b)
theorem se_and (h1 : SE K E Γ ta m ga) (h2 : SE K E Γ tb mb gb) : SE K E Γ (tAndV ta tb) .fr (toBl (gAnd (gB ga) (gB gb))) := fun F0 H0 ρ σ F H fps Q r q => by
  refine h1.pk F0 H0 ρ σ F H fps _ r ((RP.bind (RP.bind (RP.bind q))).imp (fun d hd v F' H' fp e rv f => ?_) fun _ z => z)
  cases d with
  | bl c =>
    obtain rfl := rv.1.blOf
    refine ⟨c, rfl, ?_⟩
    cases c with
    | true =>
      rw [if_pos rfl]
      refine h2.pk F0 H0 ρ σ F' H' fps _ (r.ext e) ((RP.bind (show RP (gB gb ρ) (fun a => RP (R.ok (D.bl a)) (fun d => VP K H0 F H M.fr d Q) (XP K E F H)) (XP K E F H) from hd)).imp (fun d2 hd2 v2 F2 H2 fp2 e2 rv2 f2 => ?_) fun _ z => z.on e)
      cases d2 with
      | bl c2 =>
        obtain rfl := rv2.1.blOf
        exact VP.old (VP.on (VP.on (show VP K H0 F H .fr (.bl c2) Q from hd2) e) e2) e2.fh (.bl _)
      | _ => exact (show False from hd2).elim
    | false =>
      rw [if_neg Bool.false_ne_true]
      exact VP.old (VP.on (show VP K H0 F H .fr (.bl false) Q from hd) e) e.fh (.bl _)
  | _ => exact (show False from hd).elim
theorem se_not (h1 : SE K E Γ ta m ga) : SE K E Γ (tNotV ta) .fr (toBl (gNot (gB ga))) := fun F0 H0 ρ σ F H fps Q r q => by
  refine h1.pk F0 H0 ρ σ F H fps _ r ((RP.bind (RP.bind (RP.bind q))).imp (fun d hd v F' H' fp e rv f => ?_) fun _ z => z)
  cases d with
  | bl c =>
    obtain rfl := rv.1.blOf
    exact ⟨c, rfl, VP.old (VP.on (show VP K H0 F H .fr (.bl (!c)) Q from hd) e) e.fh (.bl _)⟩
  | _ => exact (show False from hd).elim
theorem de_one {op : BoolOp} (h : DE K E X Γ a ta m ga) : DE K E X Γ (.BoolOp op [a] pos) ta m ga := ⟨pe_one h.pe, h.se⟩
theorem de_and (h1 : DE K E X Γ a ta m ga) (h2 : DE K E X Γ (.BoolOp .And (b :: rest) pos) tb mb gb) : DE K E X Γ (.BoolOp .And (a :: b :: rest) pos) (tAndV ta tb) .fr (toBl (gAnd (gB ga) (gB gb))) := ⟨L2.pe_and h1.pe h2.pe, se_and h1.se h2.se⟩
theorem de_not (h1 : DE K E X Γ a ta m ga) : DE K E X Γ (.UnaryOp .Not a pos) (tNotV ta) .fr (toBl (gNot (gB ga))) := ⟨L2.pe_not h1.pe, se_not h1.se⟩
/-- -a -/
def dNeg : D → R D
  | .int i => .ok (.int (-i))
  | _ => .bad
theorem se_neg (h : SE K E Γ ta m ga) : SE K E Γ (tUn (rU fun i => .int (-i)) ta) .fr (g1 dNeg ga) := fun F0 H0 ρ σ F H fps Q r q => by
  refine h.pk F0 H0 ρ σ F H fps _ r ((RP.bind q).imp (fun d hd v F' H' fp e rv f => ?_) fun _ z => z)
  cases d with
  | int i => exact ⟨i, rv.1.intOf, VP.old (VP.on (show VP K H0 F H .fr (.int (-i)) Q from hd) e) e.fh (.int _)⟩
  | _ => exact (show False from hd).elim
theorem de_neg (h : DE K E X Γ a ta m ga) : DE K E X Γ (.UnaryOp .USub a pos) (tUn (rU fun i => .int (-i)) ta) .fr (g1 dNeg ga) := ⟨pe_un un_neg h.pe, se_neg h.se⟩
/-- a op b op c of ints -/
def dChain (f f' : Int → Int → Bool) : D → D → R D → R D
  | .int i, .int j, z => if f i j = true then z >>= fun
      | .int l => .ok (.bl (f' j l))
      | _ => .bad
    else .ok (.bl false)
  | _, _, _ => .bad
def gChain (f f' : Int → Int → Bool) (ga gb gc : List D → R D) : List D → R D := fun ρ => ga ρ >>= fun x => gb ρ >>= fun y => dChain f f' x y (gc ρ)
theorem se_chain {f f' : Int → Int → Bool} {mc : M} {gc : List D → R D} (h1 : SE K E Γ ta m ga) (h2 : SE K E Γ tb mb gb) (h3 : SE K E Γ tc mc gc) : SE K E Γ (tChain (rI0 fun i j => .bl (f i j)) (rI0 fun i j => .bl (f' i j)) ta tb tc) .fr (gChain f f' ga gb gc) := fun F0 H0 ρ σ F H fps Q r q => by
  refine h1.pk F0 H0 ρ σ F H fps _ r ((RP.bind q).imp (fun d hd v F1 H1 fp e1 rv _ => ?_) fun _ z => z)
  refine h2.pk F0 H0 ρ σ F1 H1 fps _ (r.ext e1) ((RP.bind hd).imp (fun d2 hd2 v2 F2 H2 fp2 e2 rv2 _ => ?_) fun _ z => z.on e1)
  cases d with
  | int i =>
    cases d2 with
    | int j =>
      refine ⟨i, j, rv.1.intOf, rv2.1.intOf, f i j, rfl, ite_tt (fun e => ?_) fun e => ?_⟩
      · rw [show dChain f f' (.int i) (.int j) (gc ρ) = _ from if_pos e] at hd2
        refine h3.pk F0 H0 ρ σ F2 H2 fps _ ((r.ext e1).ext e2) ((RP.bind hd2).imp (fun d3 hd3 v3 F3 H3 fp3 e3 rv3 _ => ?_) fun _ z => (z.on e1).on e2)
        cases d3 with
        | int l => exact ⟨j, l, rv2.1.intOf, rv3.1.intOf, VP.old (VP.on (VP.on (VP.on (show VP K H0 F H .fr (.bl (f' j l)) Q from hd3) e1) e2) e3) e3.fh (.bl _)⟩
        | _ => exact (show False from hd3).elim
      · rw [show dChain f f' (.int i) (.int j) (gc ρ) = _ from if_neg (by rw [e]; exact Bool.false_ne_true)] at hd2
        exact VP.old (VP.on (VP.on (show VP K H0 F H .fr (.bl false) Q from hd2) e1) e2) e2.fh (.bl _)
    | _ => exact (show False from hd2).elim
  | _ => cases d2 <;> exact (show False from hd2).elim
def oLe : Int → Int → Bool := fun i j => decide (i ≤ j)
theorem dt_lele {mc : M} {gc : List D → R D} (h1 : DE K E X Γ a ta m ga) (h2 : DE K E X Γ b tb mb gb) (h3 : DE K E X Γ c tc mc gc) (hm : lastMarks [.LtE, .LtE] [b, c] = false := by with_unfolding_all rfl) : DT K E X Γ (.Compare a [.LtE, .LtE] [b, c] pos) (tTest (tChain (rI0 fun i j => .bl (oLe i j)) (rI0 fun i j => .bl (oLe i j)) ta tb tc)) (gB (gChain oLe oLe ga gb gc)) :=
  ⟨pt_chain op_le op_le h1.pe h2.pe h3.pe hm, st_val (se_chain h1.se h2.se h3.se)⟩
/-- values of one mode, with what they own -/
def SU (K : Frag) (E : XK) (Γ : List M) (t : TA) (m : M) (g : List D → R (List D)) : Prop :=
  ∀ F0 H0 ρ σ F H fps Q, Rel K F0 H0 Γ ρ σ F H fps → RP (g ρ) (fun ds => ∀ vs F' H' fp, Ext F H F' H' → Al (Rv K H0 F' H' m) vs ds fp → Fresh H F' fp → Q vs H') (XP K E F H) → t σ H Q
structure DU (K : Frag) (E : XK) (X : Cx) (Γ : List M) (es : List Expr) (t : TA) (m : M) (g : List D → R (List D)) : Prop where
  pa : PA X es t
  su : SU K E Γ t m g
def gsN : List D → R (List D) := fun _ => .ok []
def gsC (ga : List D → R D) (gr : List D → R (List D)) : List D → R (List D) := fun ρ => ga ρ >>= fun x => gr ρ >>= fun xs => .ok (x :: xs)
theorem du_nil : DU K E X Γ [] tNil m gsN := ⟨pa_nil, fun F0 H0 ρ σ F H fps Q r q => q [] F H [] (Ext.refl r.fh) rfl Fresh.nil⟩
theorem su_cons {tr : TA} {gr : List D → R (List D)} (h : SE K E Γ t m g) (h2 : SU K E Γ tr m gr) : SU K E Γ (tCons t tr) m (gsC g gr) := fun F0 H0 ρ σ F H fps Q r q => by
  refine h F0 H0 ρ σ F H fps _ r ((RP.bind q).imp (fun d hd v F1 H1 fp e1 rv f1 => ?_) fun _ z => z)
  refine h2 F0 H0 ρ σ F1 H1 fps _ (r.ext e1) ((RP.bind hd).imp (fun ds hds vs F2 H2 fp2 e2 rv2 f2 => ?_) fun _ z => z.on e1)
  refine hds (v :: vs) F2 H2 (fp ++ fp2) (e1.trans e2) ⟨fp, fp2, rfl, rv.grow e2.f e2.h, rv2⟩ ⟨List.nodup_append.mpr ⟨f1.nd, f2.nd, fun a ha b hb e => ?_⟩, fun a ha => ?_⟩
  · subst e
    obtain ⟨o, z⟩ := rv.there a ha
    rw [(f2.un a hb).1] at z; cases z
  · rcases List.mem_append.mp ha with z | z
    · exact (f1.on e2 rv.there).un a z
    · exact ⟨e1.h.free (f2.un a z).1, (f2.un a z).2⟩
theorem du_cons {tr : TA} {gr : List D → R (List D)} (h : DE K E X Γ e t m g) (h2 : DU K E X Γ es tr m gr) (hs : starEach (e :: es) X.env = (false, eval e X.env) :: starEach es X.env := by rfl) : DU K E X Γ (e :: es) (tCons t tr) m (gsC g gr) := ⟨pa_cons h.pe h2.pa hs, su_cons h.se h2.su⟩
def dTup (ds : List D) : R D := if ds.length ≤ sizeLine then .ok (.tup ds) else .bad
def dLst (ds : List D) : R D := if ds.length ≤ sizeLine then .ok (.lst ds) else .bad
def gAll (f : List D → R D) (g : List D → R (List D)) : List D → R D := fun ρ => g ρ >>= f
theorem de_tup {tr : TA} {gr : List D → R (List D)} {x1} (h : DU K E X Γ es tr .fr gr) : DE K E X Γ (.Tuple es x1 pos) (tTup tr) .fr (gAll dTup gr) := ⟨pe_tup h.pa, fun F0 H0 ρ σ F H fps Q r q => by
  refine h.su F0 H0 ρ σ F H fps _ r ((RP.bind q).imp (fun ds hds vs F' H' fp e rv f => ?_) fun _ z => z)
  obtain ⟨c, hds⟩ := RP.ite hds
  obtain ⟨rv, _⟩ := rv.fr
  exact ⟨by rw [rv.length]; exact c, fun p hp => VP.newT (VP.on hds e) e.fh hp rv⟩⟩
theorem de_lst {tr : TA} {gr : List D → R (List D)} (h : DU K E X Γ es tr m gr) : DE K E X Γ (.List es pos) (tLst tr) (.ow m) (gAll dLst gr) := ⟨pe_lst h.pa, fun F0 H0 ρ σ F H fps Q r q => by
  refine h.su F0 H0 ρ σ F H fps _ r ((RP.bind q).imp (fun ds hds vs F' H' fp e rv f => ?_) fun _ z => z)
  obtain ⟨c, hds⟩ := RP.ite hds
  refine ⟨by rw [rv.length]; exact c, fun p hp => hds (.ref p) F' _ (p :: fp) (e.trans (Ext.made e.fh hp)) ⟨p, vs, fp, rfl, upd_same, rv.imp fun v d f _ q => q.grow (Same.refl _) (Ext.made (o := HO.lst vs) e.fh hp).h, rfl⟩ ⟨List.nodup_cons.mpr ⟨fun z => ?_, f.nd⟩, fun a ha => ?_⟩⟩
  · obtain ⟨o, w⟩ := Al.there (P := fun a => ∃ o, H' a = some o) (fun v d f h => h.there) rv p z
    rw [hp] at w; cases w
  · rcases List.mem_cons.mp ha with z | z
    · subst z; exact ⟨e.h.free hp, e.fh.free hp⟩
    · exact f.un a z⟩
end
end DL
namespace DL
open PySem L2
variable [Tbs]
inductive Fl where
  | nx (ρ : List D)
  | rt (d : D)
  | bk (ρ : List D)
  | ct (ρ : List D)
/-- how a return's value stands; io r m sv: r, and what is at sv as it is left -/
def RvR (K : Frag) (H0 F H : Hp) : M → V → D → List Addr → Prop
  | .io r m sv, v, .tup [d, e], fp => ∃ f1 f2, fp = f1 ++ f2 ∧ RvR K H0 F H r v d f1 ∧ Rv K H0 F H m sv e f2
  | .io _ _ _, _, _, _ => False
  | m, v, d, fp => Rv K H0 F H m v d fp
omit [Tbs] in
theorem RvR.of {K : Frag} {H0 F H : Hp} {m : M} {v : V} {d : D} {fp : List Addr} (h : Rv K H0 F H m v d fp) : RvR K H0 F H m v d fp := by
  cases m with
  | io r m sv => exact (show False from h).elim
  | _ => exact h
omit [Tbs] in
theorem RvR.to {K : Frag} {H0 F H : Hp} {m : M} {v : V} {d : D} {fp : List Addr} (hm : m.fz = true) (h : RvR K H0 F H m v d fp) : Rv K H0 F H m v d fp := by
  cases m with
  | io r m sv => cases hm
  | _ => exact h
/-- what is wanted behind a statement: n, b, c: how the slots stand where it goes on, breaks, continues; r: the returned value's mode -/
def FP (K : Frag) (F0 H0 F : Hp) (n b c : List M) (r : M) (N : Ends) : Fl → Prop
  | .nx ρ => ∀ σ' F' H' fps', Same F F' → Rel K F0 H0 n ρ σ' F' H' fps' → N.nx σ' H'
  | .bk ρ => ∀ σ' F' H' fps', Same F F' → Rel K F0 H0 b ρ σ' F' H' fps' → N.bk σ' H'
  | .ct ρ => ∀ σ' F' H' fps', Same F F' → Rel K F0 H0 c ρ σ' F' H' fps' → N.ct σ' H'
  | .rt d => ∀ v F' H' fp, Ext F0 H0 F' H' → RvR K H0 F' H' r v d fp → Fresh H0 F' fp → N.rt v H'
def SS (K : Frag) (E : XK) (Γ n b c : List M) (r : M) (t : TS) (g : List D → R Fl) : Prop :=
  ∀ F0 H0 ρ σ F H fps N, Rel K F0 H0 Γ ρ σ F H fps → RP (g ρ) (FP K F0 H0 F n b c r N) (XP K E F0 H0) → t N σ H
structure DS (K : Frag) (E : XK) (X : Cx) (Γ : List M) (s : Stmt) (t : TS) (n b c : List M) (r : M) (g : List D → R Fl) : Prop where
  ps : PS X s t
  ss : SS K E Γ n b c r t g
structure DSs (K : Frag) (E : XK) (X : Cx) (Γ : List M) (s : List Stmt) (t : TS) (n b c : List M) (r : M) (g : List D → R Fl) : Prop where
  ps : PSs X s t
  ss : SS K E Γ n b c r t g
section
variable {K : Frag} {F0 H0 F H : Hp} {Γ : List M} {ρ : List D} {σ : St} {fps : Nat → List Addr}
theorem Rel.x0 (r : Rel K F0 H0 Γ ρ σ F H fps) : Ext F0 H0 F H := ⟨r.f0, r.h0, r.fh, r.new, fun _ => r.tb⟩
theorem FP.on {F1 : Hp} {n b c : List M} {r : M} {N : Ends} {fl : Fl} (h : FP K F0 H0 F n b c r N fl) (e : Same F F1) : FP K F0 H0 F1 n b c r N fl := by
  cases fl with
  | nx ρ => exact fun σ' F' H' fps' s q => h σ' F' H' fps' (e.trans s) q
  | bk ρ => exact fun σ' F' H' fps' s q => h σ' F' H' fps' (e.trans s) q
  | ct ρ => exact fun σ' F' H' fps' s q => h σ' F' H' fps' (e.trans s) q
  | rt d => exact h
end
def gNx : List D → R Fl := fun ρ => .ok (.nx ρ)
def gSeq (a b : List D → R Fl) : List D → R Fl := fun ρ => a ρ >>= fun
  | .nx ρ' => b ρ'
  | o => .ok o
def gSet (i : Nat) (g : List D → R D) : List D → R Fl := fun ρ => g ρ >>= fun d => .ok (.nx (ρ.set i d))
def gDrop (g : List D → R D) : List D → R Fl := fun ρ => g ρ >>= fun _ => .ok (.nx ρ)
def gRet (g : List D → R D) : List D → R Fl := fun ρ => g ρ >>= fun d => .ok (.rt d)
def gIte (c : List D → R Bool) (a b : List D → R Fl) : List D → R Fl := fun ρ => c ρ >>= fun k => if k = true then a ρ else b ρ
section
variable {K : Frag} {E : XK} {X : Cx} {Γ Γ' n n' b c : List M} {r : M} {st : Stmt} {sts : List Stmt} {t u : TS} {g g' : List D → R Fl} {pos : Pos} {k : Nat}
theorem ss_nx : SS K E Γ Γ b c r tNext gNx := fun F0 H0 ρ σ F H fps N rel q => q σ F H fps (Same.refl _) rel
theorem dss_nil : DSs K E X Γ [] tNext Γ b c r gNx := ⟨pss_nil, ss_nx⟩
theorem ss_seq (h : SS K E Γ n b c r t g) (h2 : SS K E n n' b c r u g') : SS K E Γ n' b c r (tSeq t u) (gSeq g g') := fun F0 H0 ρ σ F H fps N rel q => by
  refine h F0 H0 ρ σ F H fps _ rel ((RP.bind q).imp (fun fl hf => ?_) fun _ z => z)
  cases fl with
  | nx ρ' => exact fun σ' F' H' fps' s r' => h2 F0 H0 ρ' σ' F' H' fps' N r' (RP.imp (show RP (g' ρ') _ _ from hf) (fun fl h => h.on s) fun _ z => z)
  | rt d => exact hf
  | bk ρ' => exact hf
  | ct ρ' => exact hf
theorem dss_cons (h : DS K E X Γ st t n b c r g) (h2 : DSs K E X n sts u n' b c r g') : DSs K E X Γ (st :: sts) (tSeq t u) n' b c r (gSeq g g') := ⟨pss_cons h.ps h2.ps, ss_seq h.ss h2.ss⟩
theorem dss_one (h : DS K E X Γ st t n b c r g) : DSs K E X Γ [st] t n b c r g := ⟨pss_one h.ps, h.ss⟩
inductive Wk : List M → List M → Prop
  | refl {Γ : List M} : Wk Γ Γ
  | frz {Γ Γ' : List M} {m : M} (i : Nat) : Γ[i]? = some m → m.fz = true → Wk (Γ.set i .fr) Γ' → Wk Γ Γ'
  | un {Γ Γ' : List M} {m : M} (i : Nat) : Γ[i]? = some m → Wk (Γ.set i .un) Γ' → Wk Γ Γ'
theorem Rel.weak {F0 H0 : Hp} {ρ : List D} {σ : St} (w : Wk Γ Γ') : ∀ {F H : Hp} {fps : Nat → List Addr}, Rel K F0 H0 Γ ρ σ F H fps → ∃ F' fps', Same F F' ∧ Rel K F0 H0 Γ' ρ σ F' H fps' := by
  induction w with
  | refl => exact fun r => ⟨_, _, Same.refl _, r⟩
  | frz i h hm _ ih =>
    intro F H fps r
    obtain ⟨F', fps', s, r'⟩ := ih (r.freeze h hm)
    exact ⟨F', fps', (frz_same fun a ha => (r.ow i a ha).1).trans s, r'⟩
  | un i h _ ih =>
    intro F H fps r
    obtain ⟨F', fps', s, r'⟩ := ih (r.forget h)
    exact ⟨F', fps', s, r'⟩
/-- ahead of a statement -/
theorem ss_pre (w : Wk Γ Γ') (h : SS K E Γ' n b c r t g) : SS K E Γ n b c r t g := fun F0 H0 ρ σ F H fps N rel q => by
  obtain ⟨F', fps', s, r'⟩ := rel.weak w
  exact h F0 H0 ρ σ F' H fps' N r' (q.imp (fun fl hf => hf.on s) fun _ z => z)
/-- behind it -/
theorem ss_post (w : Wk n n') (h : SS K E Γ n b c r t g) : SS K E Γ n' b c r t g := fun F0 H0 ρ σ F H fps N rel q => by
  refine h F0 H0 ρ σ F H fps N rel (RP.imp q (fun fl hf => ?_) fun _ z => z)
  cases fl with
  | nx ρ' =>
    intro σ' F' H' fps' s r'
    obtain ⟨F2, fps2, s2, r2⟩ := r'.weak w
    exact hf σ' F2 H' fps2 (s.trans s2) r2
  | rt d => exact hf
  | bk ρ' => exact hf
  | ct ρ' => exact hf
theorem DS.pre (h : DS K E X Γ' st t n b c r g) (w : Wk Γ Γ') : DS K E X Γ st t n b c r g := ⟨h.ps, ss_pre w h.ss⟩
theorem DS.post (h : DS K E X Γ st t n b c r g) (w : Wk n n') : DS K E X Γ st t n' b c r g := ⟨h.ps, ss_post w h.ss⟩
theorem DSs.pre (h : DSs K E X Γ' sts t n b c r g) (w : Wk Γ Γ') : DSs K E X Γ sts t n b c r g := ⟨h.ps, ss_pre w h.ss⟩
theorem DSs.post (h : DSs K E X Γ sts t n b c r g) (w : Wk n n') : DSs K E X Γ sts t n' b c r g := ⟨h.ps, ss_post w h.ss⟩
end
section
variable {K : Frag} {E : XK} {X : Cx} {Γ Γ' n n' b c : List M} {r m : M} {st : Stmt} {sts sts' : List Stmt} {e ce : Expr} {t : TE} {tc : TT} {ts us : TS} {g : List D → R D} {hc : List D → R Bool} {gs gs' : List D → R Fl} {pos : Pos} {k : Nat}
/-- a store to a slot -/
theorem Rel.store {F0 H0 F H F' H' : Hp} {ρ : List D} {σ : St} {fps : Nat → List Addr} {i : Nat} {v : V} {d : D} {fp : List Addr} (rel : Rel K F0 H0 Γ ρ σ F H fps) (x : Ext F H F' H') (hi : i < Γ.length) (hm : m.st = true)
    (rv : Rv K H0 F' H' m v d fp) (f : Fresh H F' fp) : Rel K F0 H0 (Γ.set i m) (ρ.set i d) (σ.set i (some v)) F' H' (fun j => if j = i then fp else fps j) :=
  (rel.ext x).putF (by rw [← rel.lg]; exact hi) hm rv f rel.h0 fun j a ha => rel.there ha
theorem ss_set {i : Nat} (h : SE K E Γ t m g) (hi : i < Γ.length) (hm : m.st = true) : SS K E Γ (Γ.set i m) b c r (tAsg t (gName i)) (gSet i g) := fun F0 H0 ρ σ F H fps N rel q => by
  refine h F0 H0 ρ σ F H fps _ rel ((RP.bind q).imp (fun d hd v F' H' fp x rv f => ?_) fun _ z => z.on rel.x0)
  exact hd _ F' H' _ x.f (rel.store x hi hm rv f)
/-- x = e -/
theorem ds_set (i : Nat) {x : Str} {pos' : Pos} (U : Uni K E k X) (h : DE K E X Γ e t m g) (hi : X.N[i]? = some x := by rfl) (hx : Loc X.env.scope x := by first | exact Or.inl rfl | exact Or.inr rfl) (hm : m.st = true := by rfl) (hl : i < Γ.length := by first | decide | simp)
    (hs : swapsWith e (some (.Name x pos')) pos.line X.env = pure false := by rfl) (hf : X.fn x = true ∨ X.env.scope.names.lookup x = some .local := by first | exact .inl rfl | exact .inr rfl) :
    DS K E X Γ (.Assign [.Name x pos'] e pos) (tAsg t (gName i)) (Γ.set i m) b c r (gSet i g) := ⟨ps_set U.nd hi hx h.pe hs hf, ss_set h.se hl hm⟩
omit [Tbs] in
theorem Rv.base {H0 H1 F H : Hp} : ∀ {m : M} {v : V} {d : D} {fp : List Addr}, m.fz = true → Rv K H0 F H m v d fp → Rv K H1 F H m v d fp
  | .un, _, _, _, hm, _ => nomatch hm
  | .fr, _, _, _, _, h => h
  | .bo, _, _, _, hm, _ => nomatch hm
  | .pk, _, _, _, hm, _ => nomatch hm
  | .ow m, v, d, fp, hm, h => by
    cases d with
    | lst ds =>
      obtain ⟨a, vs, fps, e1, e2, e3, e4⟩ := Rv.ow_lst h
      exact ⟨a, vs, fps, e1, e2, e3.imp fun v d f _ q => Rv.base (m := m) hm q, e4⟩
    | non => exact h
    | bl _ => exact h
    | int _ => exact h
    | str _ => exact h
    | tup _ => exact h
    | ob C ns ds =>
      obtain ⟨a, dx, fs, fps, e1, e2, e3, e4, e5, e6⟩ := Rv.ow_ob h
      exact ⟨a, dx, fs, fps, e1, e2, e3, e4, e5.imp fun v d f _ q => Rv.base (m := m) hm q, e6⟩
    | cl _ => exact h
    | ex _ _ => exact h
  | .pin _ _, _, _, _, hm, _ => nomatch hm
  | .io _ _ _, _, _, _, hm, _ => nomatch hm
theorem ss_ret (h : SE K E Γ t r g) : SS K E Γ n b c r (tRet t) (gRet g) := fun F0 H0 ρ σ F H fps N rel q => by
  refine h F0 H0 ρ σ F H fps _ rel ((RP.bind q).imp (fun d hd v F' H' fp x rv f => ?_) fun _ z => z.on rel.x0)
  exact hd v F' H' fp (rel.x0.trans x) (.of rv) (f.back rel.h0)
/-- return e -/
theorem ds_ret (h : DE K E X Γ e t r g) : DS K E X Γ (.Return (some e) pos) (tRet t) n b c r (gRet g) := ⟨ps_ret h.pe, ss_ret h.se⟩
/-- return x, x's own list goes out -/
theorem ds_retM (i : Nat) {x : Str} {p : Pos} (h : Γ[i]? = some r := by rfl) (hm : r.fz = true := by rfl) (hN : X.N[i]? = some x := by rfl) (hv : Vis X.env.scope x := by first | exact Or.inl rfl | exact Or.inr (Or.inl rfl) | exact Or.inr (Or.inr rfl))
    (hd : (x == ("__debug__" : Str)) = false := by decide) (hcd : (x == ("__classdict__" : Str)) = false := by decide) : DS K E X Γ (.Return (some (.Name x p)) pos) (tRet (tVar i)) n b c r (gRet (gv i)) :=
  ⟨ps_ret (pe_var hN hv hd hcd), fun F0 H0 ρ σ F H fps N rel q => by
    obtain ⟨v, hv, st, rv⟩ := rel.get h (fun e => by rw [e] at hm; cases hm)
    exact ⟨v, hv, q v F H (fps i) rel.x0 (.of rv) ⟨rel.nd i, fun a ha => ⟨(rel.ow i a ha).2, (rel.ow i a ha).1⟩⟩⟩⟩
theorem ss_ite (h : ST K E Γ tc hc) (h1 : SS K E Γ n b c r ts gs) (h2 : SS K E Γ n b c r us gs') : SS K E Γ n b c r (tIfS tc ts us) (gIte hc gs gs') := fun F0 H0 ρ σ F H fps N rel q =>
  h F0 H0 ρ σ F H fps _ rel ((RP.bind q).imp (fun d hd F' H' x => ite_tt (fun e => by
    subst e
    exact h1 F0 H0 ρ σ F' H' fps N (rel.ext x) (RP.imp (show RP (gs ρ) _ _ from hd) (fun fl hf => hf.on x.f) fun _ z => z)) fun e => by
    subst e
    exact h2 F0 H0 ρ σ F' H' fps N (rel.ext x) (RP.imp (show RP (gs' ρ) _ _ from hd) (fun fl hf => hf.on x.f) fun _ z => z)) fun _ z => z.on rel.x0)
theorem ds_if (h : DT K E X Γ ce tc hc) (h1 : DSs K E X Γ sts ts n b c r gs) (h2 : DSs K E X Γ sts' us n b c r gs') : DS K E X Γ (.If ce sts sts' pos) (tIfS tc ts us) n b c r (gIte hc gs gs') := ⟨ps_if h.pt h1.ps h2.ps, ss_ite h.st h1.ss h2.ss⟩
theorem ds_continue : DS K E X Γ (.Continue pos) tCont n b Γ r (fun ρ => .ok (.ct ρ)) := ⟨ps_continue, fun F0 H0 ρ σ F H fps N rel q => q σ F H fps (Same.refl _) rel⟩
end
section
variable {K : Frag} {E : XK} {X : Cx} {Γ : List M} {e : Expr} {es : List Expr} {t : TE} {tr : TA} {m : M} {ms : List M} {g : List D → R D} {gr : List D → R (List D)} {pos : Pos} {k : Nat}
theorem da_nil : DA K E X Γ [] tNil [] gsN := ⟨pa_nil, fun F0 H0 ρ σ F H fps Q r q => q [] F H (Ext.refl r.fh) .nil⟩
theorem sa_cons (hm : ∀ H0 F H v d fp, Rv K H0 F H m v d fp → fp = []) (h : SE K E Γ t m g) (h2 : SA K E Γ tr ms gr) : SA K E Γ (tCons t tr) (m :: ms) (gsC g gr) := fun F0 H0 ρ σ F H fps Q r q => by
  refine h F0 H0 ρ σ F H fps _ r ((RP.bind q).imp (fun d hd v F1 H1 fp e1 rv f1 => ?_) fun _ z => z)
  have e0 := hm _ _ _ _ _ _ rv
  subst e0
  refine h2 F0 H0 ρ σ F1 H1 fps _ (r.ext e1) ((RP.bind hd).imp (fun ds hds vs F2 H2 e2 rv2 => ?_) fun _ z => z.on e1)
  exact hds (v :: vs) F2 H2 (e1.trans e2) (.cons (rv.grow e2.f e2.h) rv2)
/-- an argument that is to be frozen; one that is looked at -/
theorem da_f (h : DE K E X Γ e t .fr g) (h2 : DA K E X Γ es tr ms gr) (hs : starEach (e :: es) X.env = (false, eval e X.env) :: starEach es X.env := by rfl) : DA K E X Γ (e :: es) (tCons t tr) (.fr :: ms) (gsC g gr) := ⟨pa_cons h.pe h2.pa hs, sa_cons (fun _ _ _ _ _ _ q => q.2) h.se h2.sa⟩
theorem da_p (h : DE K E X Γ e t m g) (h2 : DA K E X Γ es tr ms gr) (hs : starEach (e :: es) X.env = (false, eval e X.env) :: starEach es X.env := by rfl) : DA K E X Γ (e :: es) (tCons t tr) (.pk :: ms) (gsC g gr) := ⟨pa_cons h.pe h2.pa hs, sa_cons (fun _ _ _ _ _ _ q => q.2) h.se.pk h2.sa⟩
end
/-- a def's promise over data: ms: how its arguments are handed (fr or pk), mr: how its value comes -/
def spD (K : Frag) (ms : List M) (mr : M) (f : List D → R D) : Sp := fun vs H Q E => ∃ F ds, Same F H ∧ TbsOk H ∧ Rvs K H F H ms vs ds ∧ RP (f ds) (fun d => VP K H F H mr d Q) (XP K E F H)
/-- the def x of the module keeps that promise -/
def FnD (P : Program) (w : World) (K : Frag) (mg : Str → Option Value) (base : Heap) (k : Nat) (x : Str) (ms : List M) (mr : M) (f : List D → R D) : Prop :=
  ∃ a fd ps, FnOk P w K mg base (L2.CX P w) k a fd ps (spD K ms mr f) ∧ mg x = some (.ref a) ∧ keepIn K (.ref a) = true ∧ Binds K fd ps []
omit [Tbs] in
theorem Rvs.base {K : Frag} {H0 H1 F H : Hp} {ms : List M} {vs : List V} {ds : List D} (hm : ∀ m ∈ ms, m = .fr ∨ m = .pk) (h : Rvs K H0 F H ms vs ds) : Rvs K H1 F H ms vs ds := by
  induction h with
  | nil => exact .nil
  | cons h _ ih =>
    refine .cons ?_ (ih fun m hm' => hm m (List.mem_cons_of_mem _ hm'))
    rcases hm _ List.mem_cons_self with e | e
    · subst e; exact h
    · subst e; exact h
theorem VP.base {K : Frag} {H0 H1 F H : Hp} {m : M} {d : D} {Q : VK} (hm : m.fz = true) (h : VP K H0 F H m d Q) : VP K H1 F H m d Q := fun v F' H' fp x rv f => h v F' H' fp x (rv.base hm) f
section
variable {K : Frag} {E : XK} {X : Cx} {Γ : List M} {e : Expr} {es : List Expr} {tr : TA} {mr : M} {ms : List M} {f : List D → R D} {gr : List D → R (List D)} {pos p : Pos} {j k : Nat} {x : Str}
theorem se_call (h : SA K E Γ tr ms gr) (hr : mr.fz = true) (hm : ∀ m ∈ ms, m = .fr ∨ m = .pk) : SE K E Γ (tCall (spD K ms mr f) [] E tr) mr (gAll f gr) := fun F0 H0 ρ σ F H fps Q r q => by
  refine h F0 H0 ρ σ F H fps _ r ((RP.bind q).imp (fun ds hd vs F' H' x rv => ?_) fun _ z => z)
  rw [List.append_nil]
  exact ⟨F', ds, x.fh, x.tb r.tb, rv.base hm, hd.imp (fun d hd => VP.base hr (VP.on hd x)) fun _ z => z.on x⟩
/-- f(e, ..) -/
theorem de_call (U : Uni K E k X) (F : FnD X.prog X.w K X.mg X.base j x ms mr f) (ha : DA K E X Γ (e :: es) tr ms gr) (hj : j ≤ k := by decide) (hr : mr.fz = true := by rfl) (hm : ∀ m ∈ ms, m = .fr ∨ m = .pk := by simp) (hg : Gl X x := by rfl)
    (hdb : (x == ("__debug__" : Str)) = false := by decide) (he : starEach (e :: es) X.env = (false, eval e X.env) :: starEach es X.env := by rfl) (hpl : (backTo pos (starEach es X.env)).any (·.1) = false := by rfl) :
    DE K E X Γ (.Call (.Name x p) (e :: es) [] pos) (tCall (spD K ms mr f) [] E tr) mr (gAll f gr) := by
  have e0 := U.K
  subst e0
  obtain ⟨a, fd, ps, F1, F2, F3, F4⟩ := F
  exact ⟨pe_call (F1.mono hj) U.room hg F2 F3 F4 .nil U.pass ha.pa hdb he hpl, se_call ha.sa hr hm⟩
end
def toS : M → M
  | .fr => .fr
  | .pk => .bo
  | _ => .un
def startG (n : Nat) (ms : List M) : List M := ms.map toS ++ List.replicate (n - ms.length) .un
def startR (n : Nat) (ds : List D) : List D := ds ++ List.replicate (n - ds.length) .non
/-- what a body gives over the arguments -/
def finF : Fl → R D
  | .rt d => .ok d
  | .nx _ => .ok .non
  | _ => .bad
def runF (n : Nat) (g : List D → R Fl) : List D → R D := fun ds => g (startR n ds) >>= finF
omit [Tbs] in
theorem Rvs.lens {K : Frag} {H0 F H : Hp} {ms : List M} {vs : List V} {ds : List D} (h : Rvs K H0 F H ms vs ds) : vs.length = ms.length ∧ ds.length = ms.length := by
  induction h with
  | nil => exact ⟨rfl, rfl⟩
  | cons _ _ ih => exact ⟨by rw [List.length_cons, List.length_cons, ih.1], by rw [List.length_cons, List.length_cons, ih.2]⟩
omit [Tbs] in
theorem Rvs.so {K : Frag} {F H : Hp} {ms : List M} {vs : List V} {ds : List D} (h : Rvs K H F H ms vs ds) (k : Nat) : ∀ i,
    So K H F H ((ms.map toS ++ List.replicate k M.un).getD i M.un) ((vs.map some ++ List.replicate k Option.none).getD i Option.none) ((ds ++ List.replicate k D.non).getD i D.non) [] := by
  induction h with
  | nil =>
    intro i
    refine .inl ⟨?_, rfl⟩
    rw [List.map_nil, List.nil_append, List.getD_eq_getElem?_getD, List.getElem?_replicate]
    split <;> rfl
  | @cons m ms v d vs ds h _ ih =>
    intro i
    cases i with
    | zero =>
      cases m with
      | fr => exact .inr ⟨v, rfl, rfl, h⟩
      | pk => exact .inr ⟨v, rfl, rfl, h⟩
      | un => exact .inl ⟨rfl, rfl⟩
      | bo => exact .inl ⟨rfl, rfl⟩
      | ow _ => exact .inl ⟨rfl, rfl⟩
      | pin _ _ => exact .inl ⟨rfl, rfl⟩
      | io _ _ _ => exact .inl ⟨rfl, rfl⟩
    | succ i => exact ih i
theorem Rel.start {K : Frag} {F H : Hp} {ms : List M} {vs : List V} {ds : List D} {N : List Str} (e : Same F H) (tb : TbsOk H) (h : Rvs K H F H ms vs ds) (hn : ms.length ≤ N.length) : Rel K F H (startG N.length ms) (startR N.length ds) (L2.start N vs) F H (fun _ => []) := by
  obtain ⟨l1, l2⟩ := h.lens
  unfold startG startR L2.start
  refine ⟨e, Same.refl _, Same.refl _, tb, fun a o q => .inl q, ?_, ?_, fun i => ?_, fun _ => List.nodup_nil, fun i j a ha => (nomatch ha), fun i a ha => (nomatch ha)⟩
  -- fun _ => List.nodup_nil, fun i j a ha => (nomatch ha), fun i a ha => (nomatch ha)⟩
  · simp only [List.length_append, List.length_map, List.length_replicate]; omega
  · simp only [List.length_append, List.length_map, List.length_replicate]; omega
  · rw [l1, l2]
    exact h.so (N.length - ms.length) i
theorem fn_body {P : Program} {w : World} {K : Frag} {mg : Str → Option Value} {base : Heap} {x qual : Str} {st : Stmt} {a : Addr} {fd : FuncData} {N ps : List Str} {k : Nat} {ms : List M} {mr : M} {n b c : List M} {f : List D → R D} (g : List D → R Fl)
    (hf : f = runF N.length g) (B : Bn mg) (F : Fun K x qual st a fd) (S : FnScope N ps (defScope st)) (hl : ms.length = ps.length) (hr : mr.fz = true)
    (body : ∀ (cdv : Value) (A : Around) (outer : List Env) (s : Shared) (H : Hp) (E : XK), Uni K E k (cxOf (L2.CX P w) P w K mg base N qual (defScope st) a cdv A outer s H E) →
      ∃ t, DSs K E (cxOf (L2.CX P w) P w K mg base N qual (defScope st) a cdv A outer s H E) (startG N.length ms) (defBody st) t n b c mr g) :
    FnOk P w K mg base (L2.CX P w) (k + 1) a fd ps (spD K ms mr f) := by
  subst hf
  refine F.okX S (fun vs H Q E ⟨F, ds, _, _, h, _⟩ => by rw [h.lens.1, hl]) fun cdv A outer s H vs Q E hr1 ⟨F, ds, eF, tb, h, q⟩ => ?_
  have tk := takes_of (X := cxOf (L2.CX P w) P w K mg base N qual (defScope st) a cdv A outer s H E) (E := E) rfl rfl rfl rfl
  have U : Uni K E k (cxOf (L2.CX P w) P w K mg base N qual (defScope st) a cdv A outer s H E) := ⟨rfl, S.nd, rfl, hr1, hr1.units, passes_of rfl, passes_call tk fun _ _ _ _ h => h, tk, B⟩
  obtain ⟨t, hb⟩ := body cdv A outer s H E U
  refine ⟨t, hb.ps, hb.ss F H _ _ F H _ _ (Rel.start eF tb h ?_) ((RP.bind q).imp (fun fl hf => ?_) fun _ z => z)⟩
  · rw [hl]
    have e := congrArg List.length S.pre
    rw [List.length_take] at e
    omega
  · cases fl with
    | nx ρ =>
      intro σ' F' H' fps' s rel
      refine (show VP K H F H mr .non Q from hf) .non F' H' [] rel.x0 ?_ Fresh.nil
      cases mr with
      | fr => exact ⟨.non, rfl⟩
      | ow m => exact ⟨.non, rfl⟩
      | _ => cases hr
    | rt d => exact fun v F' H' fp x rv f => hf v F' H' fp x (rv.to hr) f
    | bk _ => exact (show False from hf).elim
    | ct _ => exact (show False from hf).elim
end DL
namespace DL
open PySem L2
variable [Tbs]
def oR {α : Type} : Option α → R α
  | some a => .ok a
  | none => .bad
omit [Tbs] in
@[simp] theorem oR_some {α : Type} (a : α) : oR (some a) = R.ok a := rfl
omit [Tbs] in
@[simp] theorem oR_none {α : Type} : oR (none : Option α) = R.bad := rfl
omit [Tbs] in
theorem RP.oR {α : Type} {o : Option α} {P P' : α → Prop} {X X' : Ex → Prop} (h : RP (DL.oR o) P X) (hP : ∀ a, P a → P' a) : RP (DL.oR o) P' X' := by
  cases o with
  | some a => exact hP a h
  | none => exact h
/-- while F, H0 stand, J yields the data ds, item by item, each standing as m says -/
structure Yld (K : Frag) (J : It) (F H0 : Hp) (m : M) (ds : List D) : Prop where
  walk : Walk J ds.length (fun H' => Same F H' ∧ Same H0 H') fun i H' x H'' => ∀ F', Same F F' → Same F' H' → ∃ F'' d, Ext F' H' F'' H'' ∧ ds[i]? = some d ∧ Rv K H0 F'' H'' m x d []
theorem Yld.mk' {K : Frag} {J : It} {F H0 : Hp} {m : M} {ds : List D} {G : Hp → Prop} {Y : Nat → Hp → V → Hp → Prop} (w : Walk J ds.length G Y) (hg : ∀ H', Same F H' → Same H0 H' → G H')
    (hy : ∀ i H' x H'', i < ds.length → Same F H' → Same H0 H' → Y i H' x H'' → ∀ F', Same F F' → Same F' H' → ∃ F'' d, Ext F' H' F'' H'' ∧ ds[i]? = some d ∧ Rv K H0 F'' H'' m x d []) : Yld K J F H0 m ds :=
  ⟨w.mono (fun H' q => hg H' q.1 q.2) fun i H' x H'' hi q y F' s1 s2 => hy i H' x H'' hi q.1 q.2 y F' s1 s2⟩
def SI (K : Frag) (E : XK) (Γ : List M) (wi : TI) (m : M) (g : List D → R (List D)) : Prop :=
  ∀ F0 H0 ρ σ F H fps Rr, Rel K F0 H0 Γ ρ σ F H fps → RP (g ρ) (fun ds => ∀ J F' H', Ext F H F' H' → Yld K J F' H0 m ds → ds.length ≤ sizeLine → Rr J H') (XP K E F H) → wi σ H Rr
structure DI (K : Frag) (E : XK) (X : Cx) (Γ : List M) (tg e : Expr) (wi : TI) (m : M) (g : List D → R (List D)) : Prop where
  pi : PI X tg e wi
  si : SI K E Γ wi m g
/-- a target: the slots it stores to -/
def SG (K : Frag) (Γ Γ' : List M) (m : M) (is : List Nat) (tg : TG) (g : D → List D → Option (List D)) : Prop :=
  ∀ F0 H0 ρ σ F H fps v d Q, Rel K F0 H0 Γ ρ σ F H fps → Rv K H0 F H m v d [] →
    RP (oR (g d ρ)) (fun ρ' => ∀ σ' fps', Rel K F0 H0 Γ' ρ' σ' F H fps' → (∀ j, j ∉ is → σ'[j]? = σ[j]?) → σ'.length = σ.length → Q σ' H) (fun _ => False) → tg v σ H Q
structure DG (K : Frag) (X : Cx) (Γ Γ' : List M) (m : M) (is : List Nat) (e : Expr) (tg : TG) (g : D → List D → Option (List D)) : Prop where
  pg : PG X e tg
  sg : SG K Γ Γ' m is tg g
def SGs (K : Frag) (Γ Γ' : List M) (is : List Nat) (tg : TGs) (g : List D → List D → Option (List D)) : Prop :=
  ∀ F0 H0 ρ σ F H fps vs ds Q, Rel K F0 H0 Γ ρ σ F H fps → FzL K F vs ds →
    RP (oR (g ds ρ)) (fun ρ' => ∀ σ' fps', Rel K F0 H0 Γ' ρ' σ' F H fps' → (∀ j, j ∉ is → σ'[j]? = σ[j]?) → σ'.length = σ.length → Q σ' H) (fun _ => False) → tg vs σ H Q
structure DGs (K : Frag) (X : Cx) (Γ Γ' : List M) (is : List Nat) (es : List Expr) (tg : TGs) (g : List D → List D → Option (List D)) : Prop where
  pg : PGs X es tg
  sg : SGs K Γ Γ' is tg g
def gtN (i : Nat) : D → List D → Option (List D) := fun d ρ => some (ρ.set i d)
def gtsN : List D → List D → Option (List D) := fun ds ρ => match ds with
  | [] => some ρ
  | _ => none
def gtsC (a : D → List D → Option (List D)) (r : List D → List D → Option (List D)) : List D → List D → Option (List D) := fun ds ρ => match ds with
  | d :: ds => (a d ρ).bind (r ds)
  | [] => none
def gtT (r : List D → List D → Option (List D)) : D → List D → Option (List D) := fun d ρ => match d with
  | .tup ds => r ds ρ
  | _ => none
section
variable {K : Frag} {E : XK} {X : Cx} {Γ Γ' Γ2 : List M} {m : M} {is is' : List Nat} {e : Expr} {es : List Expr} {tg : TG} {tgs : TGs} {ga : D → List D → Option (List D)} {gr : List D → List D → Option (List D)} {pos : Pos} {k : Nat}
theorem sg_name (i : Nat) (hm : m.st = true) (hi : i < Γ.length) : SG K Γ (Γ.set i m) m [i] (gName i) (gtN i) := fun F0 H0 ρ σ F H fps v d Q rel rv q =>
  q _ _ (rel.store (Ext.refl rel.fh) hi hm rv Fresh.nil) (fun j hj => by
    rw [List.getElem?_set_ne (fun e => hj (by simp [e]))]) (by rw [List.length_set])
theorem dg_name (i : Nat) {x : Str} (U : Uni K E k X) (hi : X.N[i]? = some x := by rfl) (hx : Loc X.env.scope x := by first | exact Or.inl rfl | exact Or.inr rfl) (hm : m.st = true := by rfl) (hl : i < Γ.length := by first | decide | simp) (hf : X.fn x = true ∨ X.env.scope.names.lookup x = some .local := by first | exact .inl rfl | exact .inr rfl) :
    DG K X Γ (Γ.set i m) m [i] (.Name x pos) (gName i) (gtN i) := ⟨pg_name U.nd hi hx hf, sg_name i hm hl⟩
theorem dgs_nil : DGs K X Γ Γ [] [] gNil gtsN := ⟨pgs_nil, fun F0 H0 ρ σ F H fps vs ds Q rel h q => by
  cases h with
  | nil => exact ⟨rfl, q σ fps rel (fun _ _ => rfl) rfl⟩
  | cons _ _ => exact (show False from q).elim⟩
theorem dgs_cons (h : DG K X Γ Γ2 .fr is e tg ga) (h2 : DGs K X Γ2 Γ' is' es tgs gr) (hs : (assignEach (e :: es) X.env).map (·.2) = assign e X.env :: (assignEach es X.env).map (·.2) := by rfl) : DGs K X Γ Γ' (is ++ is') (e :: es) (gCons tg tgs) (gtsC ga gr) :=
  ⟨pgs_cons h.pg h2.pg hs, fun F0 H0 ρ σ F H fps vs ds Q rel hv q => by
    cases hv with
    | nil => exact (show False from q).elim
    | @cons v d vs ds hv hvs =>
      refine ⟨v, vs, rfl, h.sg F0 H0 ρ σ F H fps v d _ rel ⟨hv, rfl⟩ ?_⟩
      have q : RP (oR ((ga d ρ).bind (gr ds))) _ _ := q
      cases hga : ga d ρ with
      | none =>
        rw [hga] at q
        exact q.elim
      | some ρ1 =>
      rw [hga] at q
      intro σ1 fps1 rel1 o1 l1
      refine h2.sg F0 H0 ρ1 σ1 F H fps1 vs ds _ rel1 hvs (RP.oR (show RP (oR (gr ds ρ1)) _ _ from q) (fun ρ2 q2 σ2 fps2 rel2 o2 l2 => ?_))
      exact q2 σ2 fps2 rel2 (fun j hj => by rw [o2 j fun z => hj (List.mem_append_right _ z), o1 j fun z => hj (List.mem_append_left _ z)]) (l2.trans l1)⟩
theorem dg_tup {n : Nat} {kk : Nat} (U : Uni K E k X) (h : DGs K X Γ Γ' is es tgs gr) (hm : m = .fr ∨ m = .bo := by first | exact .inl rfl | exact .inr rfl) (hlen : ∀ ds ρ, ds.length ≠ n → gr ds ρ = none)
    (hn : (assignEach es X.env).length = n := by rfl) (hst : (assignEach es X.env).findIdx? (·.1) = none := by rfl) : DG K X Γ Γ' m is (.Tuple es kk pos) (gTup K n tgs) (gtT gr) := by
  have e0 := U.K
  subst e0
  refine ⟨pg_tup U.calm h.pg hn hst, fun F0 H0 ρ σ F H fps v d Q rel rv q => ?_⟩
  have hb : Bo X.K H0 F v d := by
    rcases hm with e | e
    · subst e; exact .fz rv.1
    · subst e; exact rv.1
  cases d with
  | tup ds =>
    obtain ⟨a, vs, rfl, h1, h2⟩ := hb.tupOf
    refine ⟨a, vs, rfl, Same.sqt rel.fh h1, ?_, h.sg F0 H0 ρ σ F H fps vs ds Q rel h2 q⟩
    rw [h2.length]
    by_cases z : ds.length = n
    · exact z
    · have q' : RP (oR (gr ds ρ)) _ _ := q
      rw [hlen ds ρ z] at q'
      exact q'.elim
  | _ => exact (show False from q).elim
end
omit [Tbs] in
theorem gts_len0 : ∀ (ds ρ : List D), ds.length ≠ 0 → gtsN ds ρ = none := by
  intro ds ρ h
  cases ds with
  | nil => exact absurd rfl h
  | cons d ds => rfl
omit [Tbs] in
theorem gts_lenC {n : Nat} {a : D → List D → Option (List D)} {r : List D → List D → Option (List D)} (h : ∀ (ds ρ : List D), ds.length ≠ n → r ds ρ = none) : ∀ (ds ρ : List D), ds.length ≠ n + 1 → gtsC a r ds ρ = none := by
  intro ds ρ hl
  cases ds with
  | nil => rfl
  | cons d ds =>
    show (a d ρ).bind (r ds) = none
    cases a d ρ with
    | none => rfl
    | some ρ' => exact h ds ρ' fun e => hl (by rw [List.length_cons, e])
def forL (step : D → List D → R Fl) : List D → List D → R Fl
  | [], ρ => .ok (.nx ρ)
  | d :: ds, ρ => step d ρ >>= fun
    | .nx ρ' => forL step ds ρ'
    | .ct ρ' => forL step ds ρ'
    | .bk ρ' => .ok (.nx ρ')
    | .rt d => .ok (.rt d)
def gFor (src : List D → R (List D)) (gt : D → List D → Option (List D)) (body : List D → R Fl) : List D → R Fl := fun ρ => src ρ >>= fun ds => forL (fun d ρ => oR (gt d ρ) >>= body) ds ρ
section
variable {K : Frag} {E : XK} {X : Cx} {Γ Γ' n b c : List M} {m r : M} {is : List Nat} {iter tge : Expr} {sts : List Stmt} {wi : TI} {tg : TG} {tb : TS} {src : List D → R (List D)} {gt : D → List D → Option (List D)} {body : List D → R Fl} {pos : Pos} {k : Nat}
theorem ss_for (hi : SI K E Γ wi m src) (hg : SG K Γ Γ' m is tg gt) (hb : SS K E Γ' Γ Γ Γ r tb body) : SS K E Γ Γ b c r (tFor wi tg tb) (gFor src gt body) := fun F0 H0 ρ σ F H fps N rel q => by
  refine hi F0 H0 ρ σ F H fps _ rel ((RP.bind q).imp (fun ds hds J F1 H1 x1 Y hz => ?_) fun _ z => z.on rel.x0)
  refine for_it Y.walk (fun i σ' H' => ∃ ρ' F' fps', Same F1 F' ∧ Rel K F0 H0 Γ ρ' σ' F' H' fps' ∧ RP (forL (fun d ρ => oR (gt d ρ) >>= body) (ds.drop i) ρ') (FP K F0 H0 F Γ b c r N) (XP K E F0 H0))
    ⟨ρ, F1, fps, Same.refl _, rel.ext x1, by rw [List.drop_zero]; exact hds⟩ (fun i σ' H' _ ⟨_, F', _, s, rel', _⟩ => ⟨s.trans rel'.fh, rel'.h0⟩) ?_ ?_
  · rintro i x σ' H' H'' hi ⟨ρ', F', fps', s, rel', hq⟩ y
    obtain ⟨F'', d, x2, hd, rv⟩ := y F' s rel'.fh
    have hlt : i < ds.length := hi
    have hdrop : ds.drop i = d :: ds.drop (i + 1) := by
      rw [List.drop_eq_getElem_cons hlt]
      rw [List.getElem?_eq_getElem hlt] at hd
      rw [Option.some.inj hd]
    rw [hdrop] at hq
    refine hg F0 H0 ρ' σ' F'' H'' fps' x d _ (rel'.ext x2) rv ?_
    have hq2 := RP.bind hq
    refine RP.oR (RP.bind (show RP (oR (gt d ρ') >>= body) _ _ from hq2)) (fun ρ2 q2 σ2 fps2 rel2 _ _ => ?_)
    · refine hb F0 H0 ρ2 σ2 F'' H'' fps2 _ rel2 (RP.imp q2 (fun fl hf => ?_) fun _ z => z)
      cases fl with
      | nx ρ3 => exact fun σ3 F3 H3 fps3 s3 rel3 => ⟨ρ3, F3, fps3, s.trans (x2.f.trans s3), rel3, hf⟩
      | ct ρ3 => exact fun σ3 F3 H3 fps3 s3 rel3 => ⟨ρ3, F3, fps3, s.trans (x2.f.trans s3), rel3, hf⟩
      | bk ρ3 => exact fun σ3 F3 H3 fps3 s3 rel3 => (show FP K F0 H0 F Γ b c r N (.nx ρ3) from hf) σ3 F3 H3 fps3 (x1.f.trans (s.trans (x2.f.trans s3))) rel3
      | rt d3 => exact (show FP K F0 H0 F Γ b c r N (.rt d3) from hf)
  · rintro σ' H' ⟨ρ', F', fps', s, rel', hq⟩
    rw [List.drop_length] at hq
    exact (show FP K F0 H0 F Γ b c r N (.nx ρ') from hq) σ' F' H' fps' (x1.f.trans s) rel'
end
section
variable {K : Frag} {E : XK} {X : Cx} {Γ Γ' n b c : List M} {m r : M} {is : List Nat} {iter tge ce : Expr} {sts : List Stmt} {wi : TI} {tg : TG} {tb : TS} {tc : TT} {src : List D → R (List D)} {gt : D → List D → Option (List D)} {body : List D → R Fl} {hc : List D → R Bool} {pos : Pos} {k : Nat}
/-- for target in iter -/
theorem ds_for (U : Uni K E k X) (hi : DI K E X Γ tge iter wi m src) (hg : DG K X Γ Γ' m is tge tg gt) (hb : DSs K E X Γ' sts tb Γ Γ Γ r body) (hs : ∀ x, foldedSetIterable iter X.env x = pure x := by intro _; rfl) :
    DS K E X Γ (.For tge iter sts [] pos) (tFor wi tg tb) Γ b c r (gFor src gt body) := ⟨ps_for U.po U.calm hi.pi hg.pg hb.ps hs, ss_for hi.si hg.sg hb.ss⟩
end
def dIter : D → R (List D)
  | .lst ds => .ok ds
  | .tup ds => .ok ds
  | .str x => if x.cps.size ≤ sizeLine then .ok (x.cps.toList.map fun c => .str ⟨#[c]⟩) else .bad
  | _ => .bad
def iAny (K : Frag) (tl : TE) : TI := fun σ H Rr => tl σ H fun x H1 =>
  (∃ a xs, x = .ref a ∧ SqL K H1 a xs ∧ (xs.length ≤ sizeLine → Rr (Itl K a) H1)) ∨ (∃ a xs, x = .ref a ∧ SqT K H1 a xs ∧ (xs.length ≤ sizeLine → Rr (Itt K a) H1)) ∨ ∃ z, x = .str z ∧ Rr (Its z) H1
section
variable {X : Cx} {tge l : Expr} {tl : TE}
omit [Tbs] in
theorem pi_any (hl : PE X l tl) : PI X tge l (iAny X.K tl) := by
  refine ⟨fun pins s σ H Rr I h => ?_⟩
  refine thn (hl.run pins s σ H _ I h) fun v s1 ⟨x, H1, I1, r1, q1⟩ => ?_
  rcases q1 with ⟨a, xs, e, hq, q⟩ | ⟨a, xs, e, hq, q⟩ | ⟨z, e, q⟩
  · subst e
    cases r1
    obtain ⟨its, rv, p, hz⟩ := I1.list hq
    refine wpAny_pyIter_list p.isList ?_
    refine ⟨s1.heap.objs.size, [s1.heap.objs.size], _, _, H1, rfl, I1.kept (t' := s1.toks) fun b o e => Heap.get?_push_of_some _ e, turn_list a _, ⟨_, Heap.get?_push_size _ rfl, rfl, rfl⟩, fun b hb => ?_, q hz⟩
    have e : b = s1.heap.objs.size := by simpa using hb
    subst e
    exact I1.fpOk (Nat.le_refl _) (I1.hok.fresh (Nat.le_refl _))
  · subst e
    cases r1
    obtain ⟨its, rv, p, hz⟩ := I1.tuple hq
    refine wpAny_pyIter_tuple (show s1.heap.IsTuple a its.toArray from p) ?_
    refine ⟨s1.heap.objs.size, [s1.heap.objs.size], _, _, H1, rfl, I1.kept (t' := s1.toks) fun b o e => Heap.get?_push_of_some _ e, turn_tuple a _, ⟨_, Heap.get?_push_size _ rfl, rfl, rfl⟩, fun b hb => ?_, q hz⟩
    have e : b = s1.heap.objs.size := by simpa using hb
    subst e
    exact I1.fpOk (Nat.le_refl _) (I1.hok.fresh (Nat.le_refl _))
  · subst e
    obtain ⟨t, rfl⟩ := r1
    cases ha : z.cps.all (· < 128)
    · exact wpAny_pyIter_wide ha (pi_one (tk := s1.toks) I1 _ (turn_str _ z t "str_iterator" (.inr rfl)) ⟨_, Heap.get?_push_size _ rfl, rfl, rfl⟩ q)
    · exact wpAny_pyIter_ascii ha (pi_one (tk := s1.toks) I1 _ (turn_str _ z t "str_ascii_iterator" (.inl rfl)) ⟨_, Heap.get?_push_size _ rfl, rfl, rfl⟩ q)
end
def gIter (g : List D → R D) : List D → R (List D) := fun ρ => g ρ >>= dIter
theorem yld_list {K : Frag} {F H0 S : Hp} {m : M} {a : Addr} {vs : List V} {ds : List D} (hs : SqL K S a vs) (hS : ∀ H', Same F H' → Same H0 H' → Same S H') (hl : vs.length = ds.length)
    (hi : ∀ (i : Nat) (v : V), vs[i]? = some v → ∃ d, ds[i]? = some d ∧ ∀ F' H', Same F F' → Rv K H0 F' H' m v d []) : Yld K (Itl K a) F H0 m ds := by
  have w := walk_list (K := K) (a := a) (xs := vs)
  rw [hl] at w
  refine Yld.mk' w (fun H' s1 s2 => (hS H' s1 s2).seq hs) fun i H' x H'' _ s1 s2 y F' s3 s4 => ?_
  obtain ⟨e, hx⟩ := y
  subst e
  obtain ⟨d, hd, rv⟩ := hi i x hx
  exact ⟨F', d, Ext.refl s4, hd, rv F' _ s3⟩
theorem yld_tup {K : Frag} {F H0 S : Hp} {m : M} {a : Addr} {vs : List V} {ds : List D} (hs : SqT K S a vs) (hS : ∀ H', Same F H' → Same H0 H' → Same S H') (hl : vs.length = ds.length)
    (hi : ∀ (i : Nat) (v : V), vs[i]? = some v → ∃ d, ds[i]? = some d ∧ ∀ F' H', Same F F' → Rv K H0 F' H' m v d []) : Yld K (Itt K a) F H0 m ds := by
  have w := walk_tup (K := K) (a := a) (xs := vs)
  rw [hl] at w
  refine Yld.mk' w (fun H' s1 s2 => Same.sqt (hS H' s1 s2) hs) fun i H' x H'' _ s1 s2 y F' s3 s4 => ?_
  obtain ⟨e, hx⟩ := y
  subst e
  obtain ⟨d, hd, rv⟩ := hi i x hx
  exact ⟨F', d, Ext.refl s4, hd, rv F' _ s3⟩
omit [Tbs] in
theorem BoL.getV {K : Frag} {H F : Hp} : ∀ {vs : List V} {ds : List D} {i : Nat} {v : V}, BoL K H F vs ds → vs[i]? = some v → ∃ d, ds[i]? = some d ∧ Bo K H F v d
  | _, _, i, d, .nil, e => by simp at e
  | _, _, 0, d, .cons h _, e => by simp at e; subst e; exact ⟨_, rfl, h⟩
  | _, _, i + 1, d, .cons _ hs, e => by
    obtain ⟨v, h1, h2⟩ := BoL.getV (i := i) (v := d) hs (by simpa using e)
    exact ⟨v, by simpa using h1, h2⟩
section
variable {K : Frag} {E : XK} {X : Cx} {Γ : List M} {e a b c0 tge : Expr} {es : List Expr} {t : TE} {ta : TA} {m : M} {ms : List M} {g : List D → R D} {gr : List D → R (List D)} {p pos : Pos} {k : Nat}
theorem si_any (h : SE K E Γ t m g) (hm : m = .fr ∨ m = .bo) : SI K E Γ (iAny K t) m (gIter g) := fun F0 H0 ρ σ F H fps Rr rel q => by
  refine h F0 H0 ρ σ F H fps _ rel ((RP.bind q).imp (fun d hd v F1 H1 fp x rv f => ?_) fun _ z => z)
  have hz : ∀ {α : Type} {n : Nat} {l : List α}, l.length = n → n ≤ sizeLine → l.length ≤ sizeLine := fun e h => by omega
  rcases hm with e | e
  · subst e
    cases d with
    | lst ds =>
      obtain ⟨a, vs, rfl, h1, h2⟩ := rv.1.listOf
      refine .inl ⟨a, vs, rfl, x.fh.seq h1, fun z => hd _ F1 H1 x (yld_list h1 (fun H' s _ => s) h2.length fun i v hv => ?_) (by rw [← h2.length]; exact z)⟩
      obtain ⟨d, hd, fz⟩ := h2.getV hv
      exact ⟨d, hd, fun F' H' s => ⟨fz.mono s, rfl⟩⟩
    | tup ds =>
      obtain ⟨a, vs, rfl, h1, h2⟩ := rv.1.tupOf
      refine .inr (.inl ⟨a, vs, rfl, Same.sqt x.fh h1, fun z => hd _ F1 H1 x (yld_tup h1 (fun H' s _ => s) h2.length fun i v hv => ?_) (by rw [← h2.length]; exact z)⟩)
      obtain ⟨d, hd, fz⟩ := h2.getV hv
      exact ⟨d, hd, fun F' H' s => ⟨fz.mono s, rfl⟩⟩
    | str z =>
      obtain ⟨c, hd⟩ := RP.ite hd
      have ev : v = .str z := (Bo.fz (H := H1) rv.1).strOf
      refine .inr (.inr ⟨z, ev, hd _ F1 H1 x ?_ (by rw [List.length_map, Array.length_toList]; exact c)⟩)
      have w := walk_str (z := z)
      have el : z.cps.size = (z.cps.toList.map fun c => D.str ⟨#[c]⟩).length := by rw [List.length_map, Array.length_toList]
      rw [el] at w
      refine Yld.mk' w (fun _ _ _ => trivial) fun i H' x H'' _ s1 s2 y F' s3 s4 => ?_
      obtain ⟨e, c, hc, ex⟩ := y
      subst e
      subst ex
      refine ⟨F', .str ⟨#[c]⟩, Ext.refl s4, ?_, .str _, rfl⟩
      rw [List.getElem?_map, Array.getElem?_toList, hc]
      rfl
    | _ => exact (show False from hd).elim
  · subst e
    cases d with
    | lst ds =>
      have hb : Bo K H0 F1 v (.lst ds) := rv.1
      cases hb with
      | fz hb =>
        obtain ⟨a, vs, rfl, h1, h2⟩ := hb.listOf
        refine .inl ⟨a, vs, rfl, x.fh.seq h1, fun z => hd _ F1 H1 x (yld_list h1 (fun H' s _ => s) h2.length fun i v hv => ?_) (by rw [← h2.length]; exact z)⟩
        obtain ⟨d, hd, fz⟩ := h2.getV hv
        exact ⟨d, hd, fun F' H' s => ⟨.fz (fz.mono s), rfl⟩⟩
      | @lst a vs _ h1 h2 =>
        refine .inl ⟨a, vs, rfl, (rel.h0.trans x.h).seq h1, fun z => hd _ F1 H1 x (yld_list h1 (fun H' _ s => s) h2.length fun i v hv => ?_) (by rw [← h2.length]; exact z)⟩
        obtain ⟨d, hd, bo⟩ := h2.getV hv
        exact ⟨d, hd, fun F' H' s => ⟨bo.mono (Same.refl _) s, rfl⟩⟩
    | tup ds =>
      obtain ⟨a, vs, rfl, h1, h2⟩ := rv.1.tupOf
      refine .inr (.inl ⟨a, vs, rfl, Same.sqt x.fh h1, fun z => hd _ F1 H1 x (yld_tup h1 (fun H' s _ => s) h2.length fun i v hv => ?_) (by rw [← h2.length]; exact z)⟩)
      obtain ⟨d, hd, fz⟩ := h2.getV hv
      exact ⟨d, hd, fun F' H' s => ⟨.fz (fz.mono s), rfl⟩⟩
    | str z =>
      obtain ⟨c, hd⟩ := RP.ite hd
      have ev : v = .str z := rv.1.strOf
      refine .inr (.inr ⟨z, ev, hd _ F1 H1 x ?_ (by rw [List.length_map, Array.length_toList]; exact c)⟩)
      have w := walk_str (z := z)
      have el : z.cps.size = (z.cps.toList.map fun c => D.str ⟨#[c]⟩).length := by rw [List.length_map, Array.length_toList]
      rw [el] at w
      refine Yld.mk' w (fun _ _ _ => trivial) fun i H' x H'' _ s1 s2 y F' s3 s4 => ?_
      obtain ⟨e, c, hc, ex⟩ := y
      subst e
      subst ex
      refine ⟨F', .str ⟨#[c]⟩, Ext.refl s4, ?_, .fz (.str _), rfl⟩
      rw [List.getElem?_map, Array.getElem?_toList, hc]
      rfl
    | _ => exact (show False from hd).elim
theorem di_any (U : Uni K E k X) (h : DE K E X Γ e t m g) (hm : m = .fr ∨ m = .bo := by first | exact .inl rfl | exact .inr rfl) : DI K E X Γ tge e (iAny K t) m (gIter g) := by
  have e0 := U.K
  subst e0
  exact ⟨pi_any h.pe, si_any h.se hm⟩
/-- a range -/
def intsFrom (lo c : Int) (n : Nat) : List D := (List.range n).map fun (i : Nat) => .int (lo + (i : Int) * c)
omit [Tbs] in
theorem intsFrom_get {lo c : Int} {n i : Nat} (h : i < n) : (intsFrom lo c n)[i]? = some (.int (lo + (i : Int) * c)) := by
  unfold intsFrom
  rw [List.getElem?_map, List.getElem?_range h]
  rfl
omit [Tbs] in
theorem intsFrom_len {lo c : Int} {n : Nat} : (intsFrom lo c n).length = n := by unfold intsFrom; simp
theorem yld_rangeC {F H0 : Hp} {lo c : Int} {n : Nat} : Yld K (Itc lo c n) F H0 .fr (intsFrom lo c n) := by
  have w := walk_rangeC (lo := lo) (c := c) (n := n)
  refine Yld.mk' (G := fun _ => True) (Y := YFn fun i => .int (lo + (i : Nat) * c)) (by rw [intsFrom_len]; exact w) (fun _ _ _ => trivial) fun i H' x H'' hi s1 s2 y F' s3 s4 => ?_
  obtain ⟨e, ex⟩ := y
  subst e
  subst ex
  rw [intsFrom_len] at hi
  exact ⟨F', _, Ext.refl s4, intsFrom_get hi, .int _, rfl⟩
theorem yld_range {F H0 : Hp} {lo : Int} {n : Nat} : Yld K (Itr lo n) F H0 .fr (intsFrom lo 1 n) := by
  have w := walk_range (lo := lo) (n := n)
  refine Yld.mk' (G := fun _ => True) (Y := YFn fun i => .int (lo + (i : Nat))) (by rw [intsFrom_len]; exact w) (fun _ _ _ => trivial) fun i H' x H'' hi s1 s2 y F' s3 s4 => ?_
  obtain ⟨e, ex⟩ := y
  subst e
  subst ex
  rw [intsFrom_len] at hi
  refine ⟨F', .int (lo + (i : Int) * 1), Ext.refl s4, intsFrom_get hi, ?_, rfl⟩
  rw [Int.mul_one]
  exact .int _
def dRng1 : List D → R (List D)
  | [.int j] => if -(2 ^ 62) ≤ j ∧ j.toNat ≤ sizeLine then .ok (intsFrom 0 1 j.toNat) else .bad
  | _ => .bad
instance (i j c : Int) (n : Nat) : Decidable (RgC i j c n) := by unfold RgC; infer_instance
def dRng3 : List D → R (List D)
  | [.int i, .int j, .int c] => if RgC i j c (Builtin.Range.rangeSize i j c).toNat ∧ (Builtin.Range.rangeSize i j c).toNat ≤ sizeLine then .ok (intsFrom i c (Builtin.Range.rangeSize i j c).toNat) else .bad
  | _ => .bad
def gI (f : List D → R (List D)) (g : List D → R (List D)) : List D → R (List D) := fun ρ => g ρ >>= f
omit [Tbs] in
theorem Rvs.inv {H0 F H : Hp} {m : M} {ms : List M} {vs : List V} {d : D} {ds : List D} (h : Rvs K H0 F H (m :: ms) vs (d :: ds)) : ∃ v vs', vs = v :: vs' ∧ Rv K H0 F H m v d [] ∧ Rvs K H0 F H ms vs' ds := by
  cases h with
  | cons h1 h2 => exact ⟨_, _, rfl, h1, h2⟩
omit [Tbs] in
theorem Rvs.inv0 {H0 F H : Hp} {vs : List V} (h : Rvs K H0 F H [] vs []) : vs = [] := by
  cases h; rfl
omit [Tbs] in
theorem sz62 {n : Nat} (h : n ≤ sizeLine) : (n : Int) < 2 ^ 62 := by
  have e : sizeLine = 16777216 := sizeLine_eq
  omega
theorem di_range1 (U : Uni K E k X) (h : DA K E X Γ [e] ta [.pk] gr) (hg : Gl X "range" := by rfl) (hs : starEach [e] X.env = [(false, eval e X.env)] := by rfl) : DI K E X Γ tge (.Call (.Name "range" p) [e] [] pos) (iRng1 ta) .fr (gI dRng1 gr) :=
  ⟨pi_range1 hg U.bn.range h.pa hs, fun F0 H0 ρ σ F H fps Rr rel q => by
    refine h.sa F0 H0 ρ σ F H fps _ rel ((RP.bind q).imp (fun ds hds vs F1 H1 x rv => ?_) fun _ z => z)
    match ds, hds, rv with
    | [.int j], hds, rv =>
      obtain ⟨⟨c1, c2⟩, hds⟩ := RP.ite (show RP (if _ then _ else _) _ _ from hds)
      obtain ⟨v, vs', rfl, r1, r2⟩ := rv.inv
      obtain rfl := r2.inv0
      obtain rfl := r1.1.intOf
      exact ⟨j, rfl, c1, by have := sz62 c2; omega, hds _ F1 H1 x yld_range (by rw [intsFrom_len]; exact c2)⟩
    | [], hds, _ => exact (show False from hds).elim
    | [.non], hds, _ => exact (show False from hds).elim
    | [.bl _], hds, _ => exact (show False from hds).elim
    | [.str _], hds, _ => exact (show False from hds).elim
    | [.tup _], hds, _ => exact (show False from hds).elim
    | [.lst _], hds, _ => exact (show False from hds).elim
    | [.ob _ _ _], hds, _ => exact (show False from hds).elim
    | [.cl _], hds, _ => exact (show False from hds).elim
    | [.ex _ _], hds, _ => exact (show False from hds).elim
    | _ :: _ :: _, _, rv => exact (by obtain ⟨_, _, _, _, r2⟩ := rv.inv; cases r2)⟩
end
end DL
namespace DL
open PySem L2
variable [Tbs]
section
variable {K : Frag} {E : XK} {X : Cx} {Γ : List M} {e a b c tge : Expr} {es : List Expr} {t tb : TE} {ta : TA} {m : M} {ms : List M} {g gb : List D → R D} {gr : List D → R (List D)} {p pos p2 pos2 : Pos} {k : Nat}
theorem di_range3 (U : Uni K E k X) (h : DA K E X Γ [a, b, c] ta [.pk, .pk, .pk] gr) (hg : Gl X "range" := by rfl) (hs : starEach [a, b, c] X.env = (false, eval a X.env) :: starEach [b, c] X.env := by rfl) (hpl : (backTo pos (starEach [b, c] X.env)).any (·.1) = false := by rfl) :
    DI K E X Γ tge (.Call (.Name "range" p) [a, b, c] [] pos) (iRng3 ta) .fr (gI dRng3 gr) :=
  ⟨pi_range3 hg U.bn.range h.pa hs hpl, fun F0 H0 ρ σ F H fps Rr rel q => by
    refine h.sa F0 H0 ρ σ F H fps _ rel ((RP.bind q).imp (fun ds hds vs F1 H1 x rv => ?_) fun _ z => z)
    cases rv with
    | @cons _ _ v d vs ds r1 rv =>
    cases rv with
    | @cons _ _ v' d' vs ds r2 rv =>
    cases rv with
    | @cons _ _ v2 d2 vs ds r3 rv =>
    cases rv with
    | nil =>
    cases d with
    | int i =>
      cases d' with
      | int j =>
        cases d2 with
        | int l =>
          obtain ⟨⟨c1, c2⟩, hds⟩ := RP.ite (show RP (if _ then _ else _) _ _ from hds)
          obtain rfl := r1.1.intOf
          obtain rfl := r2.1.intOf
          obtain rfl := r3.1.intOf
          exact ⟨i, j, l, _, rfl, c1, hds _ F1 H1 x yld_rangeC (by rw [intsFrom_len]; exact c2)⟩
        | _ => exact (show False from hds).elim
      | _ => exact (show False from hds).elim
    | _ => exact (show False from hds).elim⟩
def gJ (f : D → R (List D)) (g : List D → R D) : List D → R (List D) := fun ρ => g ρ >>= f
end
def noX {α : Type} : R α → R α
  | .exc _ => .bad
  | r => r
omit [Tbs] in
@[simp] theorem noX_ok {α : Type} (a : α) : noX (R.ok a) = R.ok a := rfl
omit [Tbs] in
@[simp] theorem noX_bad {α : Type} : noX (R.bad : R α) = R.bad := rfl
def mapL (f : D → R (Option D)) : List D → R (List D)
  | [] => .ok []
  | d :: ds => f d >>= fun o => mapL f ds >>= fun ys => .ok (match o with | some y => y :: ys | none => ys)
def gtt : List D → R Bool := fun _ => .ok true
def gLc (src : List D → R (List D)) (gt : D → List D → Option (List D)) (tt : List D → R Bool) (ge : List D → R D) : List D → R D := fun ρ => src ρ >>= fun ds =>
  mapL (fun d => noX (oR (gt d ρ) >>= fun ρ' => tt ρ' >>= fun b => if b = true then ge ρ' >>= fun y => .ok (some y) else .ok none)) ds >>= fun ys => .ok (.lst ys)
def wipeM (Γ : List M) : List Nat → List M
  | [] => Γ
  | v :: vs => (wipeM Γ vs).set v .un
omit [Tbs] in
theorem wipeM_length (Γ : List M) : ∀ vs : List Nat, (wipeM Γ vs).length = Γ.length
  | [] => rfl
  | v :: vs => by unfold wipeM; rw [List.length_set, wipeM_length Γ vs]
omit [Tbs] in
theorem wipeM_getD {Γ : List M} {i : Nat} : ∀ {vs : List Nat}, (wipeM Γ vs).getD i .un = if i ∈ vs then .un else Γ.getD i .un
  | [] => by rw [if_neg (by simp)]; rfl
  | v :: vs => by
    have ih := wipeM_getD (Γ := Γ) (i := i) (vs := vs)
    unfold wipeM
    by_cases h : v = i
    · subst h
      rw [if_pos (by simp)]
      rw [List.getD_eq_getElem?_getD]
      by_cases hl : v < (wipeM Γ vs).length
      · rw [List.getElem?_set_self hl]; rfl
      · rw [List.getElem?_eq_none (by simpa using hl)]; rfl
    · rw [List.getD_eq_getElem?_getD, List.getElem?_set_ne h, ← List.getD_eq_getElem?_getD, ih]
      by_cases h2 : i ∈ vs
      · rw [if_pos h2, if_pos (List.mem_cons_of_mem _ h2)]
      · rw [if_neg h2, if_neg (by simp only [List.mem_cons, not_or]; exact ⟨fun e => h e.symm, h2⟩)]
omit [Tbs] in
theorem wipe_get {σ : St} {i : Nat} : ∀ {vs : List Nat}, i ∉ vs → (wipe σ vs)[i]? = σ[i]?
  | [], _ => rfl
  | v :: vs, h => by
    simp only [List.mem_cons, not_or] at h
    unfold wipe
    rw [List.getElem?_set_ne (fun e => h.1 e.symm), wipe_get h.2]
omit [Tbs] in
theorem wipe_in {σ : St} {i : Nat} : ∀ {vs : List Nat}, i ∈ vs → i < σ.length → (wipe σ vs)[i]? = some none
  | [], h, _ => nomatch h
  | v :: vs, h, hl => by
    unfold wipe
    by_cases e : v = i
    · subst e
      rw [List.getElem?_set_self (by rw [wipe_length]; exact hl)]
    · rw [List.getElem?_set_ne e]
      rcases List.mem_cons.mp h with z | z
      · exact absurd z.symm e
      · exact wipe_in z hl
omit [Tbs] in
/-- two states that differ within vs alone are the same, wiped -/
theorem wipe_same {σ σ2 : St} {vs is : List Nat} (hs : ∀ i ∈ is, i ∈ vs) (h : ∀ j, j ∉ is → σ2[j]? = (wipe σ vs)[j]?) (hl : σ2.length = (wipe σ vs).length) : wipe σ2 vs = wipe σ vs := by
  have hl' : σ2.length = σ.length := by rw [hl, wipe_length]
  refine List.ext_getElem? fun j => ?_
  by_cases hj : j ∈ vs
  · by_cases hlt : j < σ.length
    · rw [wipe_in hj hlt, wipe_in hj (by rw [hl']; exact hlt)]
    · rw [List.getElem?_eq_none (by rw [wipe_length]; omega), List.getElem?_eq_none (by rw [wipe_length]; omega)]
  · rw [wipe_get hj, h j fun z => hj (hs j z), wipe_get hj]
theorem Rel.wiped {K : Frag} {F0 H0 F H : Hp} {Γ : List M} {ρ : List D} {σ : St} {fps : Nat → List Addr} (r : Rel K F0 H0 Γ ρ σ F H fps) (vs : List Nat) : Rel K F0 H0 (wipeM Γ vs) ρ (wipe σ vs) F H (fun j => if j ∈ vs then [] else fps j) := by
  refine ⟨r.fh, r.f0, r.h0, r.tb, r.new, by rw [wipeM_length, wipe_length]; exact r.lg, by rw [wipe_length]; exact r.lr, fun i => ?_, fun i => ?_, fun i j a hi hj => ?_, fun i a hi => ?_⟩
  · rw [wipeM_getD]
    by_cases h : i ∈ vs
    · rw [if_pos h, if_pos h]
      exact .inl ⟨rfl, rfl⟩
    · rw [if_neg h, if_neg h]
      have e : (wipe σ vs).getD i Option.none = σ.getD i Option.none := by rw [List.getD_eq_getElem?_getD, wipe_get h, ← List.getD_eq_getElem?_getD]
      rw [e]
      exact r.sl i
  · by_cases h : i ∈ vs
    · rw [if_pos h]; exact List.nodup_nil
    · rw [if_neg h]; exact r.nd i
  · by_cases h : i ∈ vs
    · rw [if_pos h] at hi; cases hi
    · rw [if_neg h] at hi
      by_cases h' : j ∈ vs
      · rw [if_pos h'] at hj; cases hj
      · rw [if_neg h'] at hj; exact r.dj i j a hi hj
  · by_cases h : i ∈ vs
    · rw [if_pos h] at hi; cases hi
    · rw [if_neg h] at hi; exact r.ow i a hi
omit [Tbs] in
theorem RP.noX {α : Type} {r : R α} {P : α → Prop} {X X' : Ex → Prop} (h : RP (DL.noX r) P X) : RP r P X' := by
  cases r with
  | ok a => exact h
  | exc x => exact h.elim
  | bad => exact h
omit [Tbs] in
theorem upd_keeps {H H' : Hp} {p : Addr} {o : HO} (h : Same H H') (hp : H p = none) : Same H (upd H' p o) := ⟨fun a u q n => by rw [upd_ne (ne_of_none q hp)]; exact h.keep _ _ q n, fun a q => by
  by_cases z : a = p
  · subst z; exact hp
  · rw [upd_ne z] at q; exact h.there _ q⟩
section
variable {K : Frag} {E : XK} {X : Cx} {Γ Γ' : List M} {m mm : M} {is vs : List Nat} {wi : TI} {tg : TG} {tt : TT} {te : TE} {src : List D → R (List D)} {gt : D → List D → Option (List D)} {gtt : List D → R Bool} {ge : List D → R D}
theorem se_lc (hi : SI K E Γ wi m src) (hg : SG K (wipeM Γ vs) Γ' m is tg gt) (hs : ∀ i ∈ is, i ∈ vs) (ht : ST K E0 Γ' tt gtt) (he : SE K E0 Γ' te mm ge) (hm : mm.st = true) : SE K E Γ (tLc wi tg tt te vs) (.ow mm) (gLc src gt gtt ge) := fun F0 H0 ρ σ F H fps Q rel q => by
  refine hi F0 H0 ρ σ F H fps _ rel ((RP.bind q).imp (fun ds hds J F1 H1 x1 Y hz => ?_) fun _ z => z)
  intro D hD
  have h0D : H0 D = none := rel.h0.free (x1.h.free hD)
  have relW := rel.wiped vs
  refine lc_it Y.walk (fun i H' => ∃ F' acc ys fp, Ext F H F' H' ∧ Same F1 F' ∧ H' D = some (.lst acc) ∧ Al (Rv K H0 F' H' mm) acc ys fp ∧ Fresh H F' (D :: fp) ∧ acc.length ≤ i ∧
      RP (mapL (fun d => noX (oR (gt d ρ) >>= fun ρ' => gtt ρ' >>= fun b => if b = true then ge ρ' >>= fun y => .ok (some y) else .ok none)) (ds.drop i)) (fun zs => VP K H0 F H (.ow mm) (.lst (ys ++ zs)) Q) (XP K E F H))
    ⟨F1, [], [], [], ?_, Same.refl _, upd_same, rfl, ?_, Nat.le_refl _, ?_⟩ (fun i H' _ ⟨F', _, _, _, x, s, _⟩ => ⟨s.trans x.fh, rel.h0.trans x.h⟩) ?_ ?_
  · exact x1.trans (Ext.made x1.fh hD)
  · exact ⟨by simp, fun a ha => by
      have e : a = D := by simpa using ha
      subst e
      exact ⟨x1.h.free hD, x1.fh.free hD⟩⟩
  · rw [List.drop_zero]
    exact RP.imp (RP.bind hds) (fun zs hzs => hzs) fun _ z => z
  · rintro i v H' H'' hi ⟨F', acc, ys, fp, x, s, hacc, hal, hfr, hlen, hq⟩ y
    obtain ⟨F'', d, x2, hd, rv⟩ := y F' s x.fh
    have hlt : i < ds.length := hi
    have hdrop : ds.drop i = d :: ds.drop (i + 1) := by
      rw [List.drop_eq_getElem_cons hlt]
      rw [List.getElem?_eq_getElem hlt] at hd
      rw [Option.some.inj hd]
    rw [hdrop] at hq
    have rel2 := (relW.ext x).ext x2
    refine hg F0 H0 ρ (wipe σ vs) F'' H'' _ v d _ rel2 rv ?_
    have hq2 := RP.bind (RP.noX (X' := fun _ => False) (RP.bind hq))
    refine RP.oR hq2 (fun ρ2 q2 σ2 fps2 rel3 o2 l2 => ⟨wipe_same hs o2 l2, ?_⟩)
    refine ht F0 H0 ρ2 σ2 F'' H'' fps2 _ rel3 ((RP.bind q2).imp (fun bb qb F3 H3 x3 => ?_) fun _ z => z.elim)
    have hD3 : H3 D = some (.lst acc) := x3.h.at_ (x2.h.at_ hacc)
    have frx : ∀ {Fa Ha : Hp}, Ext F' H' Fa Ha → Fresh H Fa (D :: fp) := fun xx => hfr.on xx fun a ha => by
      rcases List.mem_cons.mp ha with z | z
      · rw [z]; exact ⟨_, hacc⟩
      · exact Al.there (P := fun a => ∃ o, H' a = some o) (fun v d f h => h.there) hal a z
    refine ite_tt (fun e => ?_) fun e => ?_
    · subst e
      refine he F0 H0 ρ2 σ2 F3 H3 fps2 _ (rel3.ext x3) ((RP.bind (show RP (ge ρ2 >>= _) _ _ from qb)).imp (fun yd hy yv F4 H4 fpy x4 rvy fy => ?_) fun _ z => z.elim)
      have x24 : Ext F' H' F4 H4 := x2.trans (x3.trans x4)
      have hD4 : H4 D = some (.lst acc) := x4.h.at_ hD3
      have fr4 := frx x24
      have hDF : F4 D = none := (fr4.un D List.mem_cons_self).2
      have hDH : H D = none := (fr4.un D List.mem_cons_self).1
      refine ⟨acc, hD4, Nat.lt_of_le_of_lt hlen (Nat.lt_of_lt_of_le hlt hz), F4, acc ++ [yv], ys ++ [yd], fp ++ fpy, ?_, s.trans x24.f, upd_same, ?_, ?_, ?_, ?_⟩
      · exact ⟨x.f.trans x24.f, upd_keeps (x.h.trans x24.h) hDH, upd_keeps x24.fh hDF, fun a o q => by
          rcases x24.new a o q with z | z
          · exact x.new a o z
          · exact .inr (x.h.free z), fun t => TbsOk.upd (x24.tb (x.tb t)) ⟨hD4, rfl⟩⟩
      · have nd := fr4.nd
        rw [List.nodup_cons] at nd
        have hDy : D ∉ fpy := fun z => by rw [(fy.un D z).1] at hD3; cases hD3
        refine Al.append (hal.imp fun v d f hf q => q.keep x24.f hm fun a ha o wz z => ?_) (Al.one (rvy.keep (Same.refl _) hm fun a ha o wz z => ?_))
        · rw [upd_ne (fun e => nd.1 (by rw [← e]; exact hf a ha))]; exact x24.h.at_ z (notTbl_own wz)
        · rw [upd_ne (fun e => hDy (by rw [← e]; exact ha))]; exact z
      · have nd := fr4.nd
        rw [List.nodup_cons] at nd
        have hDy : D ∉ fpy := fun z => by rw [(fy.un D z).1] at hD3; cases hD3
        have th : ∀ a ∈ fp, ∃ o, H3 a = some o := fun a ha => by
          obtain ⟨o, z⟩ := Al.there (P := fun a => ∃ o, H' a = some o) (fun v d f h => h.there) hal a ha
          obtain ⟨o, z⟩ := x2.h.ex z
          exact x3.h.ex z
        refine ⟨List.nodup_cons.mpr ⟨fun z => ?_, List.nodup_append.mpr ⟨nd.2, fy.nd, fun a ha b hb e => ?_⟩⟩, fun a ha => ?_⟩
        · rcases List.mem_append.mp z with z | z
          · exact nd.1 z
          · exact hDy z
        · subst e
          obtain ⟨o, z⟩ := th a ha
          rw [(fy.un a hb).1] at z; cases z
        · rcases List.mem_cons.mp ha with z | z
          · rw [z]; exact ⟨hDH, hDF⟩
          · rcases List.mem_append.mp z with z | z
            · exact fr4.un a (List.mem_cons_of_mem _ z)
            · exact ⟨x.h.free (x2.h.free (x3.h.free (fy.un a z).1)), (fy.un a z).2⟩
      · rw [List.length_append, List.length_singleton]; omega
      · refine RP.imp (RP.bind (show RP (mapL _ _ >>= fun ys => R.ok (yd :: ys)) _ _ from hy)) (fun zs hzs => ?_) fun _ z => z
        have hzs' : VP K H0 F H (.ow mm) (.lst (ys ++ yd :: zs)) Q := hzs
        rw [List.append_assoc]
        exact hzs'
    · subst e
      have x23 : Ext F' H' F3 H3 := x2.trans x3
      refine ⟨F3, acc, ys, fp, x.trans x23, s.trans x23.f, hD3, hal.imp fun v d f _ q => q.grow x23.f x23.h, frx x23, Nat.le_succ_of_le hlen, ?_⟩
      have qb' : RP (mapL _ _ >>= fun ys => R.ok ys) _ _ := qb
      exact RP.imp (RP.bind qb') (fun zs hzs => hzs) fun _ z => z
  · rintro H' ⟨F', acc, ys, fp, x, s, hacc, hal, hfr, hlen, hq⟩
    rw [List.drop_length] at hq
    have hq' : VP K H0 F H (.ow mm) (.lst (ys ++ [])) Q := hq
    rw [List.append_nil] at hq'
    exact hq' (.ref D) F' H' (D :: fp) x ⟨D, acc, fp, rfl, hacc, hal, rfl⟩ hfr
/-- [e for target in iter if test] -/
theorem de_lc {X : Cx} {Γ : List M} {k : Nat} {elt tge iter : Expr} {ifs : List Expr} {scope : Scope} {own : List (Str × Nat)} {pos : Pos} (U : Uni K E k X) (hi : DI K E X Γ tge iter wi m src) (ok : BlkOk X.N X.env.scope scope own)
    (hg : ∀ (s : Shared) (H : Hp) (C : Addr) (cl : List (Str × Addr)) (fp : List Addr), Uni K E0 k (X.blk s H scope (compEnvC scope cl C X.env) fp) → DG K (X.blk s H scope (compEnvC scope cl C X.env) fp) (wipeM Γ (own.map (·.2))) Γ' m is tge tg gt)
    (ht : ∀ (s : Shared) (H : Hp) (C : Addr) (cl : List (Str × Addr)) (fp : List Addr), Uni K E0 k (X.blk s H scope (compEnvC scope cl C X.env) fp) → PTs (X.blk s H scope (compEnvC scope cl C X.env) fp) ifs tt ∧ ST K E0 Γ' tt gtt)
    (he : ∀ (s : Shared) (H : Hp) (C : Addr) (cl : List (Str × Addr)) (fp : List Addr), Uni K E0 k (X.blk s H scope (compEnvC scope cl C X.env) fp) → DE K E0 (X.blk s H scope (compEnvC scope cl C X.env) fp) Γ' elt te mm ge)
    (hs : ∀ i ∈ is, i ∈ own.map (·.2) := by decide) (hm : mm.st = true := by rfl) (hf : ∀ x, foldedSetIterable iter X.env x = pure x := by intro _; rfl) :
    DE K E X Γ (.ListComp elt [⟨tge, iter, ifs, 0⟩] scope pos) (tLc wi tg tt te (own.map (·.2))) (.ow mm) (gLc src gt gtt ge) := by
  have UB : ∀ (s : Shared) (H : Hp) (C : Addr) (cl : List (Str × Addr)) (fp : List Addr), Uni K E0 k (X.blk s H scope (compEnvC scope cl C X.env) fp) := fun s H C cl fp =>
    ⟨U.K, U.nd, U.calm, U.room, U.hu, PassesOwn.never, passL, takes0, U.bn⟩
  have s0 : Shared := X.s_0
  refine ⟨pe_lc U.calm U.nd hi.pi ok (fun s H C cl fp => (hg s H C cl fp (UB s H C cl fp)).pg) (fun s H C cl fp => (ht s H C cl fp (UB s H C cl fp)).1) (fun s H C cl fp => (he s H C cl fp (UB s H C cl fp)).pe) hf, ?_⟩
  exact se_lc hi.si (hg s0 (fun _ => none) 0 [] [] (UB _ _ _ _ _)).sg hs (ht s0 (fun _ => none) 0 [] [] (UB _ _ _ _ _)).2 (he s0 (fun _ => none) 0 [] [] (UB _ _ _ _ _)).se hm
end
end DL
namespace DL
open PySem L2
variable [Tbs]
section
variable {K : Frag} {E : XK} {X : Cx} {Γ : List M} {e a b c : Expr} {es : List Expr} {t ta tb : TE} {tr : TA} {m ma mb : M} {ms : List M} {g ga gb : List D → R D} {gr : List D → R (List D)} {p pos : Pos} {k : Nat}
def dIx : D → D → R D
  | .lst ds, .int i => oR (atI ds i)
  | .tup ds, .int i => oR (atI ds i)
  | .str z, .int i => if z.length ≤ sizeLine then oR ((atI z.cps.toList i).map fun c => .str ⟨#[c]⟩) else .bad
  | _, _ => .bad
omit [Tbs] in
theorem atI_len {α β : Type} {xs : List α} {ys : List β} (h : xs.length = ys.length) {i : Int} {y : β} (e : atI ys i = some y) : ∃ j : Nat, ys[j]? = some y ∧ ∀ x, xs[j]? = some x → atI xs i = some x := by
  unfold atI at e ⊢
  rw [h]
  cases q : ixN ys.length i with
  | none => rw [q] at e; cases e
  | some j =>
    rw [q] at e
    exact ⟨j, e, fun x hx => hx⟩
omit [Tbs] in
theorem oR_ok {α : Type} {o : Option α} {P : α → Prop} {X : Ex → Prop} (h : RP (oR o) P X) : ∃ a, o = some a ∧ P a := by
  cases o with
  | some a => exact ⟨a, rfl, h⟩
  | none => exact h.elim
theorem se_ix (hm : m = .fr ∨ m = .bo ∨ m = .pk) (ha : SE K E Γ ta m ga) (hb : SE K E Γ tb mb gb) : SE K E Γ (tOp (rIx K) ta tb) m (g2 dIx ga gb) := fun F0 H0 ρ σ F H fps Q r q => by
  refine ha F0 H0 ρ σ F H fps _ r ((RP.bind q).imp (fun dx q1 x F1 H1 fp1 e1 rv1 f1 => ?_) fun _ z => z)
  refine hb.pk F0 H0 ρ σ F1 H1 fps _ (r.ext e1) ((RP.bind q1).imp (fun dy q2 y F2 H2 fp2 e2 rv2 f2 => ?_) fun _ z => z.on e1)
  have rv1' := rv1.grow e2.f e2.h
  have key : ∀ v d, Rv K H0 F2 H2 m v d [] → VP K H0 F H m d Q → Q v H2 := fun v d rv h => h v F2 H2 [] (e1.trans e2) rv Fresh.nil
  have h02 : Same H0 H2 := r.h0.trans (e1.h.trans e2.h)
  have lists : ∀ ds i, dx = .lst ds → dy = .int i → rIx K x y H2 Q := fun ds i ex ey => by
    subst ex; subst ey
    obtain ⟨d, hd, hq⟩ := oR_ok q2
    obtain rfl := rv2.1.intOf
    rcases hm with e | e | e
    · subst e
      obtain ⟨a, vs, rfl, h1, h2⟩ := rv1'.1.listOf
      obtain ⟨j, hj, hx⟩ := atI_len h2.length hd
      obtain ⟨v, hv, hf⟩ := h2.get hj
      exact .inl ⟨a, vs, i, v, rfl, rfl, e2.fh.seq h1, hx v hv, key v d ⟨hf, rfl⟩ hq⟩
    · subst e
      have hb : Bo K H0 F2 x (.lst ds) := rv1'.1
      cases hb with
      | fz hb =>
        obtain ⟨a, vs, rfl, h1, h2⟩ := hb.listOf
        obtain ⟨j, hj, hx⟩ := atI_len h2.length hd
        obtain ⟨v, hv, hf⟩ := h2.get hj
        exact .inl ⟨a, vs, i, v, rfl, rfl, e2.fh.seq h1, hx v hv, key v d ⟨.fz hf, rfl⟩ hq⟩
      | @lst a vs _ h1 h2 =>
        obtain ⟨j, hj, hx⟩ := atI_len h2.length hd
        obtain ⟨v, hv, hf⟩ := h2.get hj
        exact .inl ⟨a, vs, i, v, rfl, rfl, h02.seq h1, hx v hv, key v d ⟨hf, rfl⟩ hq⟩
    · subst e
      obtain ⟨a, vs, rfl, h1, h2⟩ := rv1'.1.listOf e2.fh
      obtain ⟨j, hj, hx⟩ := atI_len h2.length hd
      obtain ⟨v, hv, hf⟩ := h2.get hj
      exact .inl ⟨a, vs, i, v, rfl, rfl, h1, hx v hv, key v d ⟨hf, rfl⟩ hq⟩
  have tups : ∀ ds i, dx = .tup ds → dy = .int i → rIx K x y H2 Q := fun ds i ex ey => by
    subst ex; subst ey
    obtain ⟨d, hd, hq⟩ := oR_ok q2
    obtain rfl := rv2.1.intOf
    have fin : Fz K F2 x (.tup ds) → (∀ v d, Fz K F2 v d → Rv K H0 F2 H2 m v d []) → rIx K x (.int i) H2 Q := fun hz hr => by
      obtain ⟨a, vs, rfl, h1, h2⟩ := hz.tupOf
      obtain ⟨j, hj, hx⟩ := atI_len h2.length hd
      obtain ⟨v, hv, hf⟩ := h2.get hj
      exact .inr (.inl ⟨a, vs, i, v, rfl, rfl, Same.sqt e2.fh h1, hx v hv, key v d (hr v d hf) hq⟩)
    rcases hm with e | e | e
    · subst e
      exact fin rv1'.1 fun v d h => ⟨h, rfl⟩
    · subst e
      exact fin ((show Bo K H0 F2 x (.tup ds) from rv1'.1).fix rfl) fun v d h => ⟨.fz h, rfl⟩
    · subst e
      exact fin ((show Bo K H2 F2 x (.tup ds) from rv1'.1).fix rfl) fun v d h => ⟨.fz h, rfl⟩
  have txts : ∀ z i, dx = .str z → dy = .int i → rIx K x y H2 Q := fun z i ex ey => by
    subst ex; subst ey
    obtain ⟨c, q2⟩ := RP.ite (show RP (if _ then _ else _) _ _ from q2)
    obtain ⟨d, hd, hq⟩ := oR_ok q2
    obtain rfl := rv2.1.intOf
    obtain rfl := (rv1'.pk e2.fh h02).strOf
    obtain ⟨ch, hc, rfl⟩ := Option.map_eq_some_iff.mp hd
    refine .inr (.inr ⟨z, i, ch, rfl, rfl, c, hc, key _ _ ?_ hq⟩)
    rcases hm with e | e | e <;> subst e
    · exact ⟨.str _, rfl⟩
    · exact ⟨.fz (.str _), rfl⟩
    · exact ⟨.fz (.str _), rfl⟩
  cases dx with
  | lst ds =>
    cases dy with
    | int i => exact lists ds i rfl rfl
    | _ => exact (show False from q2).elim
  | tup ds =>
    cases dy with
    | int i => exact tups ds i rfl rfl
    | _ => exact (show False from q2).elim
  | str z =>
    cases dy with
    | int i => exact txts z i rfl rfl
    | _ => exact (show False from q2).elim
  | _ => cases dy <;> exact (show False from q2).elim
theorem de_ix (U : Uni K E k X) (ha : DE K E X Γ a ta m ga) (hb : DE K E X Γ b tb mb gb) (hm : m = .fr ∨ m = .bo ∨ m = .pk := by first | exact .inl rfl | exact .inr (.inl rfl) | exact .inr (.inr rfl)) (hs : PlainIx b := by exact fun _ _ => rfl) : DE K E X Γ (.Subscript a b pos) (tOp (rIx K) ta tb) m (g2 dIx ga gb) := by
  have e := U.K
  subst e
  exact ⟨pe_ix ix_seq ha.pe hb.pe hs, se_ix hm ha.se hb.se⟩
structure DO (K : Frag) (E : XK) (X : Cx) (Γ : List M) (e : Option Expr) (t : TO) (g : List D → R (Option Int)) : Prop where
  po : PO X e t
  so : ∀ F0 H0 ρ σ F H fps Q, Rel K F0 H0 Γ ρ σ F H fps → RP (g ρ) (fun o => ∀ F' H', Ext F H F' H' → Q o H') (XP K E F H) → t σ H Q
def goN : List D → R (Option Int) := fun _ => .ok none
def toI : D → R (Option Int)
  | .int i => .ok (some i)
  | _ => .bad
def goS (g : List D → R D) : List D → R (Option Int) := fun ρ => g ρ >>= toI
theorem do_none : DO K E X Γ none tNoPart goN := ⟨po_none, fun F0 H0 ρ σ F H fps Q r q => q F H (Ext.refl r.fh)⟩
theorem do_some (h : DE K E X Γ e t m g) : DO K E X Γ (some e) (tPart t) (goS g) := ⟨po_some h.pe, fun F0 H0 ρ σ F H fps Q r q => by
  refine h.se.pk F0 H0 ρ σ F H fps _ r ((RP.bind q).imp (fun d hd v F' H' fp e rv f => ?_) fun _ z => z)
  cases d with
  | int i => exact ⟨i, rv.1.intOf, hd F' H' e⟩
  | _ => exact (show False from hd).elim⟩
def cutD {α : Type} (xs : List α) (lo hi : Option Int) : List α := (xs.drop (HT.sIx xs.length 0 lo)).take (HT.sIx xs.length xs.length hi - HT.sIx xs.length 0 lo)
def rSlD (K : Frag) : V → Option Int → Option Int → Hp → VK → Prop := fun x lo hi H Q => rSlL K x lo hi H Q ∨ rSlA K x lo hi H Q ∨ rSlS x lo hi H Q
omit [Tbs] in
theorem sl_any : SlR X (rSlD X.K) := sl_list.or (sl_tupA.or sl_str)
omit [Tbs] in
theorem FzL.cut {F : Hp} {vs : List V} {ds : List D} (h : FzL K F vs ds) (lo hi : Option Int) : FzL K F (cutV vs lo hi) (cutD ds lo hi) := by
  unfold cutV cutD
  rw [h.length]
  exact (h.drop _).take _
/-- nl: the items of a list must be no lists -/
def dSl (nl : Bool) (d : D) (lo hi : Option Int) : R D := match d with
  | .lst ds => if nl = true → ds.all nlB = true then .ok (.lst (cutD ds lo hi)) else .bad
  | .tup ds => .ok (.tup (cutD ds lo hi))
  | .str z => if z.length ≤ sizeLine then .ok (.str (cutS z lo hi)) else .bad
  | _ => .bad
def gSl (nl : Bool) (g : List D → R D) (gl gh : List D → R (Option Int)) : List D → R D := fun ρ => g ρ >>= fun d => gl ρ >>= fun lo => gh ρ >>= fun hi => dSl nl d lo hi
omit [Tbs] in
theorem cutD_whole {α : Type} {xs : List α} {lo hi : Option Int} (h : HT.sIx xs.length 0 lo = 0 ∧ HT.sIx xs.length xs.length hi = xs.length) : cutD xs lo hi = xs := by
  unfold cutD
  rw [h.1, h.2, List.drop_zero, Nat.sub_zero, List.take_length]
theorem se_slP {lo hi : Option Expr} {tl th : TO} {gl gh : List D → R (Option Int)} (h : SE K E Γ t m g) (hl : DO K E X Γ lo tl gl) (hh : DO K E X Γ hi th gh) (nl : Bool) (hm : nl = true ∨ m = .fr) : SE K E Γ (tSl (rSlD K) t tl th) (.ow .fr) (gSl nl g gl gh) := fun F0 H0 ρ σ F H fps Q r q => by
  refine h F0 H0 ρ σ F H fps _ r ((RP.bind q).imp (fun d q1 v F1 H1 fp1 e1 rv1 f1 => ?_) fun _ z => z)
  refine hl.so F0 H0 ρ σ F1 H1 fps _ (r.ext e1) ((RP.bind q1).imp (fun lo q2 F2 H2 e2 => ?_) fun _ z => z.on e1)
  refine hh.so F0 H0 ρ σ F2 H2 fps _ ((r.ext e1).ext e2) ((RP.bind q2).imp (fun hi q3 F3 H3 e3 => ?_) fun _ z => (z.on e1).on e2)
  have x3 : Ext F H F3 H3 := e1.trans (e2.trans e3)
  have bo : Bo K H3 F3 v d := (rv1.grow (e2.f.trans e3.f) (e2.h.trans e3.h)).pk x3.fh (r.h0.trans x3.h)
  cases d with
  | lst ds =>
    obtain ⟨c, q3⟩ := RP.ite (show RP (if _ then _ else _) _ _ from q3)
    have q4 : VP K H0 F H (.ow .fr) (.lst (cutD ds lo hi)) Q := q3
    have fl : ∃ a vs, v = .ref a ∧ SqL K H3 a vs ∧ FzL K F3 vs ds := by
      rcases hm with e | e
      · obtain ⟨a, vs, e1, h1, h2⟩ := bo.listOf x3.fh
        exact ⟨a, vs, e1, h1, h2.fix (c e)⟩
      · subst e
        obtain ⟨a, vs, e1, h1, h2⟩ := rv1.1.listOf
        have s3 : Same F1 F3 := e2.f.trans e3.f
        exact ⟨a, vs, e1, (s3.trans x3.fh).seq h1, h2.mono s3⟩
    obtain ⟨a, vs, rfl, h1, h2⟩ := fl
    exact .inl ⟨a, vs, rfl, h1, fun p hp => VP.newL (VP.on q4 x3) x3.fh hp (h2.cut lo hi)⟩
  | tup ds =>
    have q4 : VP K H0 F H (.ow .fr) (.tup (cutD ds lo hi)) Q := q3
    obtain ⟨a, vs, rfl, h1, h2⟩ := bo.tupOf
    refine .inr (.inl ⟨a, vs, rfl, Same.sqt x3.fh h1, fun w => ?_, fun _ p hp => VP.newTF (VP.on q4 x3) x3.fh hp (h2.cut lo hi)⟩)
    rw [h2.length] at w
    rw [cutD_whole w] at q4
    exact VP.oldF (VP.on q4 x3) x3.fh rfl (.tup h1 h2)
  | str z =>
    obtain ⟨c, q3⟩ := RP.ite (show RP (if _ then _ else _) _ _ from q3)
    obtain rfl := bo.strOf
    exact .inr (.inr ⟨z, rfl, c, VP.oldF (VP.on (show VP K H0 F H (.ow .fr) (.str (cutS z lo hi)) Q from q3) x3) x3.fh rfl (.str _)⟩)
  | _ => exact (show False from q3).elim
theorem de_sl {lo hi : Option Expr} {p2 : Pos} {tl th : TO} {gl gh : List D → R (Option Int)} (U : Uni K E k X) (h : DE K E X Γ a ta .fr ga) (hl : DO K E X Γ lo tl gl) (hh : DO K E X Γ hi th gh) : DE K E X Γ (.Subscript a (.Slice lo hi none p2) pos) (tSl (rSlD K) ta tl th) (.ow .fr) (gSl false ga gl gh) := by
  have e := U.K
  subst e
  exact ⟨pe_slice sl_any h.pe hl.po hh.po, se_slP h.se hl hh false (.inr rfl)⟩
theorem de_slP {lo hi : Option Expr} {p2 : Pos} {tl th : TO} {gl gh : List D → R (Option Int)} (U : Uni K E k X) (h : DE K E X Γ a ta m ga) (hl : DO K E X Γ lo tl gl) (hh : DO K E X Γ hi th gh) : DE K E X Γ (.Subscript a (.Slice lo hi none p2) pos) (tSl (rSlD K) ta tl th) (.ow .fr) (gSl true ga gl gh) := by
  have e := U.K
  subst e
  exact ⟨pe_slice sl_any h.pe hl.po hh.po, se_slP h.se hl hh true (.inl rfl)⟩
def SC (K : Frag) (r : List V → Hp → VK → Prop) (ms : List M) (m : M) (f : List D → R D) : Prop :=
  ∀ H0 F H vs ds Q, Same F H → Same H0 H → Rvs K H0 F H ms vs ds → RP (f ds) (fun d => VP K H0 F H m d Q) (fun _ => True) → r vs H Q
theorem se_cb {r : List V → Hp → VK → Prop} {f : List D → R D} (hs : SC K r ms m f) (h : SA K E Γ tr ms gr) : SE K E Γ (tCB r tr) m (gAll f gr) := fun F0 H0 ρ σ F H fps Q rel q => by
  refine h F0 H0 ρ σ F H fps _ rel ((RP.bind q).imp (fun ds hds vs F' H' x rv => ?_) fun _ z => z)
  exact hs H0 F' H' vs ds Q x.fh (rel.h0.trans x.h) rv (hds.imp (fun d hd => VP.on hd x) fun _ _ => trivial)
theorem DE.callB {x : Str} {id : String} {r : List V → Hp → VK → Prop} {f : List D → R D} (hc : CallR X (.builtin id) r) (hs : SC K r ms m f) (hn : X.mg x = none) (hv : bootBuiltins x = some (.builtin id)) (ha : DA K E X Γ (e :: es) tr ms gr) (hg : Gl X x)
    (hnn : x ≠ "__name__") (hdb : (x == ("__debug__" : Str)) = false)
    (he : starEach (e :: es) X.env = (false, eval e X.env) :: starEach es X.env) (hpl : (backTo pos (starEach es X.env)).any (·.1) = false) :
    DE K E X Γ (.Call (.Name x p) (e :: es) [] pos) (tCB r tr) m (gAll f gr) := ⟨pe_callB hc hg hn hv ha.pa hnn hdb he hpl, se_cb hs ha.sa⟩
theorem DE.callTy {x : Str} {T : String} {r : List V → Hp → VK → Prop} {f : List D → R D} (hc : CallR X (.type T) r) (hs : SC K r ms m f) (hn : X.mg x = none) (hv : bootBuiltins x = some (.type T)) (ha : DA K E X Γ (e :: es) tr ms gr) (hg : Gl X x)
    (hnn : x ≠ "__name__") (hdb : (x == ("__debug__" : Str)) = false)
    (he : starEach (e :: es) X.env = (false, eval e X.env) :: starEach es X.env) (hpl : (backTo pos (starEach es X.env)).any (·.1) = false) :
    DE K E X Γ (.Call (.Name x p) (e :: es) [] pos) (tCB r tr) m (gAll f gr) := ⟨pe_callTy hc hg hn hv ha.pa hnn hdb he hpl, se_cb hs ha.sa⟩
end
end DL
namespace DL
open PySem L2
variable [Tbs]
def dLen : List D → R D
  | [.lst ds] => .ok (.int ds.length)
  | [.tup ds] => .ok (.int ds.length)
  | [.str z] => if z.length ≤ sizeLine then .ok (.int z.length) else .bad
  | _ => .bad
section
variable {K : Frag} {H0 F H : Hp}
omit [Tbs] in
theorem Rvs.one {m : M} {vs : List V} {ds : List D} (h : Rvs K H0 F H [m] vs ds) : ∃ v d, vs = [v] ∧ ds = [d] ∧ Rv K H0 F H m v d [] := by
  cases h with
  | cons h1 h2 => cases h2; exact ⟨_, _, rfl, rfl, h1⟩
omit [Tbs] in
theorem Rvs.two {m m' : M} {vs : List V} {ds : List D} (h : Rvs K H0 F H [m, m'] vs ds) : ∃ v d v' d', vs = [v, v'] ∧ ds = [d, d'] ∧ Rv K H0 F H m v d [] ∧ Rv K H0 F H m' v' d' [] := by
  cases h with
  | cons h1 h2 =>
    cases h2 with
    | cons h3 h4 => cases h4; exact ⟨_, _, _, _, rfl, rfl, h1, h3⟩
def rLen (K : Frag) : List V → Hp → VK → Prop := fun xs H Q => ∃ x n, xs = [x] ∧ LenV K x H n ∧ Q (.int n) H
theorem sc_len : SC K (rLen K) [.pk] .fr dLen := by
  intro H0 F H vs ds Q eF e0 rvs q
  obtain ⟨v, d, rfl, rfl, rv⟩ := rvs.one
  cases d with
  | lst ds =>
    obtain ⟨a, vs, rfl, h1, h2⟩ := rv.1.listOf eF
    exact ⟨_, ds.length, rfl, .inl ⟨vs, h1, h2.length.symm⟩, VP.old (show VP K H0 F H .fr (.int ds.length) Q from q) eF (.int _)⟩
  | tup ds =>
    obtain ⟨a, vs, rfl, h1, h2⟩ := rv.1.tupOf
    exact ⟨_, ds.length, rfl, .inr ⟨vs, Same.sqt eF h1, h2.length.symm⟩, VP.old (show VP K H0 F H .fr (.int ds.length) Q from q) eF (.int _)⟩
  | str z =>
    obtain ⟨c, q⟩ := RP.ite (show RP (if _ then _ else _) _ _ from q)
    obtain rfl := rv.1.strOf
    exact ⟨_, z.length, rfl, ⟨c, rfl⟩, VP.old q eF (.int _)⟩
  | _ => exact (show False from q).elim
def dTuple (nl : Bool) : List D → R D
  | [.lst ds] => if nl = true → ds.all nlB = true then .ok (.tup ds) else .bad
  | [.tup ds] => .ok (.tup ds)
  | _ => .bad
omit [Tbs] in
theorem Rv.frl {nl : Bool} {m : M} {v : V} {ds : List D} (hm : (nl = true ∧ m = .pk) ∨ m = .fr) (c : nl = true → ds.all nlB = true) (rv : Rv K H0 F H m v (.lst ds) []) (e : Same F H) : ∃ a vs, v = .ref a ∧ SqL K H a vs ∧ FzL K F vs ds := by
  rcases hm with ⟨e1, e2⟩ | e2
  · subst e2
    obtain ⟨a, vs, e3, h1, h2⟩ := (show Bo K H F v (.lst ds) from rv.1).listOf e
    exact ⟨a, vs, e3, h1, h2.fix (c e1)⟩
  · subst e2
    obtain ⟨a, vs, e3, h1, h2⟩ := (show Fz K F v (.lst ds) from rv.1).listOf
    exact ⟨a, vs, e3, e.seq h1, h2⟩
omit [Tbs] in
theorem Rv.frt {nl : Bool} {m : M} {v : V} {ds : List D} (hm : (nl = true ∧ m = .pk) ∨ m = .fr) (rv : Rv K H0 F H m v (.tup ds) []) : ∃ a vs, v = .ref a ∧ SqT K F a vs ∧ FzL K F vs ds := by
  rcases hm with ⟨e1, e2⟩ | e2
  · subst e2
    exact (show Bo K H F v (.tup ds) from rv.1).tupOf
  · subst e2
    exact (show Fz K F v (.tup ds) from rv.1).tupOf
def rTupOf (K : Frag) : List V → Hp → VK → Prop := fun xs H Q => ∃ p ys, xs = [.ref p] ∧ ((SqL K H p ys ∧ ∀ l, H l = none → Q (.ref l) (upd H l (.tup ys))) ∨ (SqT K H p ys ∧ Q (.ref p) H))
theorem sc_tuple {nl : Bool} {m : M} (hm : (nl = true ∧ m = .pk) ∨ m = .fr) : SC K (rTupOf K) [m] .fr (dTuple nl) := by
  intro H0 F H vs ds Q eF e0 rvs q
  obtain ⟨v, d, rfl, rfl, rv⟩ := rvs.one
  cases d with
  | lst ds =>
    obtain ⟨c, q⟩ := RP.ite' (show RP (if _ then _ else _) _ _ from q)
    obtain ⟨a, vs, rfl, h1, h2⟩ := rv.frl hm c eF
    exact ⟨a, vs, rfl, .inl ⟨h1, fun l hl => VP.newT q eF hl h2⟩⟩
  | tup ds =>
    obtain ⟨a, vs, rfl, h1, h2⟩ := rv.frt hm
    exact ⟨a, vs, rfl, .inr ⟨Same.sqt eF h1, VP.old (show VP K H0 F H .fr (.tup ds) Q from q) eF (.tup h1 h2)⟩⟩
  | _ => exact (show False from q).elim
/-- the name of a value's type -/
def tyName : D → Option String
  | .non => some "NoneType"
  | .bl _ => some "bool"
  | .int _ => some "int"
  | .str _ => some "str"
  | .tup _ => some "tuple"
  | .lst _ => some "list"
  | _ => none
omit [Tbs] in
theorem SqL.tyX {a : Addr} {vs : List V} (h : SqL K H a vs) : TyX K H (.ref a) (.type "list") := by
  rcases h with (h | ⟨o, h⟩) | ⟨o, its, n, h1, h2, _⟩
  · exact .base (.lst h)
  · exact .base (.frz h)
  · exact .kList h1 h2
omit [Tbs] in
theorem SqT.tyX {a : Addr} {vs : List V} (h : SqT K H a vs) : TyX K H (.ref a) (.type "tuple") := by
  rcases h with (h | ⟨o, h⟩) | ⟨o, its, n, h1, h2, _⟩
  · exact .base (.tup h)
  · exact .fTuple h
  · exact .kTuple h1 h2
omit [Tbs] in
theorem Bo.tyX {v : V} {d : D} {n : String} (e : Same F H) (h : Bo K H F v d) (hn : tyName d = some n) : TyX K H v (.type n) := by
  cases d with
  | non => obtain rfl := h.nonOf; cases hn; exact .base .non
  | bl b => obtain rfl := h.blOf; cases hn; exact .base (.bl b)
  | int i => obtain rfl := h.intOf; cases hn; exact .base (.int i)
  | str x => obtain rfl := h.strOf; cases hn; exact .base (.str x)
  | tup ds => obtain ⟨a, vs, rfl, h1, _⟩ := h.tupOf; cases hn; exact SqT.tyX (Same.sqt e h1)
  | lst ds => obtain ⟨a, vs, rfl, h1, _⟩ := h.listOf e; cases hn; exact SqL.tyX h1
  | _ => cases hn
def dIsi (T : String) (d : D) : R D := match tyName d with
  | some n => match kitB n T with
    | some b => .ok (.bl b)
    | none => .bad
  | none => .bad
theorem se_isi {E : XK} {Γ : List M} {t : TE} {m : M} {g : List D → R D} {T : String} (h : SE K E Γ t m g) : SE K E Γ (tCB (rIsi K) (tCons t (tCons (tC (.ty T)) tNil))) .fr (g1 (dIsi T) g) := fun F0 H0 ρ σ F H fps Q rel q => by
  refine h.pk F0 H0 ρ σ F H fps _ rel ((RP.bind q).imp (fun d hd v F' H' fp x rv _ => ?_) fun _ z => z)
  show rIsi K [v, .ty T] H' Q
  unfold dIsi at hd
  cases hn : tyName d with
  | none => rw [hn] at hd; exact hd.elim
  | some n =>
    rw [hn] at hd
    cases hk : kitB n T with
    | none => simp only [hk] at hd; exact hd.elim
    | some b =>
      simp only [hk] at hd
      exact ⟨v, .ty T, .type n, .type T, b, rfl, .ty T, rv.1.tyX x.fh hn, kit_ty hk, VP.old (VP.on (show VP K H0 F H .fr (.bl b) Q from hd) x) x.fh (.bl _)⟩
/-- ints, truths of a list -/
def dInts : List D → Option (List Int)
  | [] => some []
  | .int i :: ds => (dInts ds).map (i :: ·)
  | _ => none
def dBls : List D → Option (List Bool)
  | [] => some []
  | .bl i :: ds => (dBls ds).map (i :: ·)
  | _ => none
omit [Tbs] in
theorem dInts_eq : ∀ {ds : List D} {ns : List Int}, dInts ds = some ns → ds = ns.map D.int
  | [], ns, h => by cases h; rfl
  | .int i :: ds, ns, h => by
    obtain ⟨ms, h1, rfl⟩ := Option.map_eq_some_iff.mp (show (dInts ds).map (i :: ·) = some ns from h)
    rw [dInts_eq h1]; rfl
  | .non :: _, _, h => nomatch h
  | .bl _ :: _, _, h => nomatch h
  | .str _ :: _, _, h => nomatch h
  | .tup _ :: _, _, h => nomatch h
  | .lst _ :: _, _, h => nomatch h
  | .ob _ _ _ :: _, _, h => nomatch h
  | .cl _ :: _, _, h => nomatch h
  | .ex _ _ :: _, _, h => nomatch h
omit [Tbs] in
theorem dBls_eq : ∀ {ds : List D} {ns : List Bool}, dBls ds = some ns → ds = ns.map D.bl
  | [], ns, h => by cases h; rfl
  | .bl i :: ds, ns, h => by
    obtain ⟨ms, h1, rfl⟩ := Option.map_eq_some_iff.mp (show (dBls ds).map (i :: ·) = some ns from h)
    rw [dBls_eq h1]; rfl
  | .non :: _, _, h => nomatch h
  | .int _ :: _, _, h => nomatch h
  | .str _ :: _, _, h => nomatch h
  | .tup _ :: _, _, h => nomatch h
  | .lst _ :: _, _, h => nomatch h
  | .ob _ _ _ :: _, _, h => nomatch h
  | .cl _ :: _, _, h => nomatch h
  | .ex _ _ :: _, _, h => nomatch h
omit [Tbs] in
@[simp] theorem dInts_map : ∀ ns : List Int, dInts (ns.map D.int) = some ns
  | [] => rfl
  | n :: ns => by rw [List.map_cons, dInts, dInts_map ns]; rfl
omit [Tbs] in
@[simp] theorem dBls_map : ∀ ns : List Bool, dBls (ns.map D.bl) = some ns
  | [] => rfl
  | n :: ns => by rw [List.map_cons, dBls, dBls_map ns]; rfl
omit [Tbs] in
theorem BoL.blsOf {F H : Hp} : ∀ {ns : List Bool} {vs : List V}, BoL K H F vs (ns.map D.bl) → vs = ns.map V.bl
  | [], _, .nil => rfl
  | n :: ns, _, .cons h hs => by rw [h.blOf, BoL.blsOf hs]; rfl
def dAll : List D → R D
  | [.lst ds] => oR ((dBls ds).map fun bs => .bl (bs.all id))
  | _ => .bad
theorem sc_all : SC K (rAll K) [.pk] .fr dAll := by
  intro H0 F H vs ds Q eF e0 rvs q
  obtain ⟨v, d, rfl, rfl, rv⟩ := rvs.one
  cases d with
  | lst ds =>
    obtain ⟨d, hd, hq⟩ := oR_ok (show RP (oR _) _ _ from q)
    obtain ⟨ns, h1, rfl⟩ := Option.map_eq_some_iff.mp hd
    obtain rfl := dBls_eq h1
    obtain ⟨a, vs, rfl, h1, h2⟩ := rv.1.listOf eF
    obtain rfl := h2.blsOf
    exact ⟨a, ns, rfl, h1, VP.old hq eF (.bl _)⟩
  | _ => exact (show False from q).elim
/-- greatest, least -/
def maxL : List Int → Option Int
  | [] => none
  | n :: ns => some (ns.foldl max n)
def minL : List Int → Option Int
  | [] => none
  | n :: ns => some (ns.foldl min n)
omit [Tbs] in
theorem foldl_max_spec : ∀ (ns : List Int) (n : Int), (ns.foldl max n = n ∨ ns.foldl max n ∈ ns) ∧ n ≤ ns.foldl max n ∧ ∀ y ∈ ns, y ≤ ns.foldl max n
  | [], n => ⟨.inl rfl, Int.le_refl _, fun _ h => nomatch h⟩
  | k :: ns, n => by
    obtain ⟨h1, h2, h3⟩ := foldl_max_spec ns (max n k)
    rw [List.foldl_cons]
    refine ⟨?_, by omega, fun y hy => ?_⟩
    · rcases h1 with e | e
      · rw [e]
        by_cases z : n ≤ k
        · exact .inr (by rw [Int.max_eq_right z]; exact List.mem_cons_self)
        · exact .inl (by rw [Int.max_eq_left (by omega)])
      · exact .inr (List.mem_cons_of_mem _ e)
    · rcases List.mem_cons.mp hy with e | e
      · subst e; omega
      · exact h3 y e
omit [Tbs] in
theorem foldl_min_spec : ∀ (ns : List Int) (n : Int), (ns.foldl min n = n ∨ ns.foldl min n ∈ ns) ∧ ns.foldl min n ≤ n ∧ ∀ y ∈ ns, ns.foldl min n ≤ y
  | [], n => ⟨.inl rfl, Int.le_refl _, fun _ h => nomatch h⟩
  | k :: ns, n => by
    obtain ⟨h1, h2, h3⟩ := foldl_min_spec ns (min n k)
    rw [List.foldl_cons]
    refine ⟨?_, by omega, fun y hy => ?_⟩
    · rcases h1 with e | e
      · rw [e]
        by_cases z : n ≤ k
        · exact .inl (by rw [Int.min_eq_left z])
        · exact .inr (by rw [Int.min_eq_right (by omega)]; exact List.mem_cons_self)
      · exact .inr (List.mem_cons_of_mem _ e)
    · rcases List.mem_cons.mp hy with e | e
      · subst e; omega
      · exact h3 y e
omit [Tbs] in
theorem maxL_uniq {ns : List Int} {m k : Int} (h : maxL ns = some k) (h1 : m ∈ ns) (h2 : ∀ y, y ∈ ns → y ≤ m) : m = k := by
  cases ns with
  | nil => cases h
  | cons n ns =>
    obtain rfl := Option.some.inj h
    obtain ⟨s1, s2, s3⟩ := foldl_max_spec ns n
    have a : m ≤ ns.foldl max n := by
      rcases List.mem_cons.mp h1 with e | e
      · subst e; exact s2
      · exact s3 m e
    have b : ns.foldl max n ≤ m := by
      rcases s1 with e | e
      · rw [e]; exact h2 n List.mem_cons_self
      · exact h2 _ (List.mem_cons_of_mem _ e)
    omega
omit [Tbs] in
theorem minL_uniq {ns : List Int} {m k : Int} (h : minL ns = some k) (h1 : m ∈ ns) (h2 : ∀ y, y ∈ ns → m ≤ y) : m = k := by
  cases ns with
  | nil => cases h
  | cons n ns =>
    obtain rfl := Option.some.inj h
    obtain ⟨s1, s2, s3⟩ := foldl_min_spec ns n
    have a : ns.foldl min n ≤ m := by
      rcases List.mem_cons.mp h1 with e | e
      · subst e; exact s2
      · exact s3 m e
    have b : m ≤ ns.foldl min n := by
      rcases s1 with e | e
      · rw [e]; exact h2 n List.mem_cons_self
      · exact h2 _ (List.mem_cons_of_mem _ e)
    omega
def dMax : List D → R D
  | [.lst ds] => oR ((dInts ds).bind fun ns => (maxL ns).map .int)
  | [.int i, .int j] => .ok (.int (max i j))
  | _ => .bad
def dMin : List D → R D
  | [.lst ds] => oR ((dInts ds).bind fun ns => (minL ns).map .int)
  | [.int i, .int j] => .ok (.int (min i j))
  | _ => .bad
theorem sc_max : SC K (rMax K) [.pk] .fr dMax := by
  intro H0 F H vs ds Q eF e0 rvs q
  obtain ⟨v, d, rfl, rfl, rv⟩ := rvs.one
  cases d with
  | lst ds =>
    obtain ⟨d, hd, hq⟩ := oR_ok (show RP (oR _) _ _ from q)
    obtain ⟨ns, h1, h3⟩ := Option.bind_eq_some_iff.mp hd
    obtain ⟨k, h4, rfl⟩ := Option.map_eq_some_iff.mp h3
    obtain rfl := dInts_eq h1
    obtain ⟨a, vs, rfl, h1, h2⟩ := rv.1.listOf eF
    obtain rfl := h2.intsOf
    refine ⟨a, ns, rfl, h1, ?_, fun m hm hle => ?_⟩
    · cases ns with
      | nil => cases h4
      | cons _ _ => exact Nat.succ_pos _
    · rw [maxL_uniq h4 hm hle]
      exact VP.old hq eF (.int _)
  | _ => exact (show False from q).elim
theorem sc_min : SC K (rMin K) [.pk] .fr dMin := by
  intro H0 F H vs ds Q eF e0 rvs q
  obtain ⟨v, d, rfl, rfl, rv⟩ := rvs.one
  cases d with
  | lst ds =>
    obtain ⟨d, hd, hq⟩ := oR_ok (show RP (oR _) _ _ from q)
    obtain ⟨ns, h1, h3⟩ := Option.bind_eq_some_iff.mp hd
    obtain ⟨k, h4, rfl⟩ := Option.map_eq_some_iff.mp h3
    obtain rfl := dInts_eq h1
    obtain ⟨a, vs, rfl, h1, h2⟩ := rv.1.listOf eF
    obtain rfl := h2.intsOf
    refine ⟨a, ns, rfl, h1, ?_, fun m hm hle => ?_⟩
    · cases ns with
      | nil => cases h4
      | cons _ _ => exact Nat.succ_pos _
    · rw [minL_uniq h4 hm hle]
      exact VP.old hq eF (.int _)
  | _ => exact (show False from q).elim
def rMax2 : List V → Hp → VK → Prop := fun xs H Q => ∃ i j, xs = [.int i, .int j] ∧ Q (.int (if j > i then j else i)) H
def rMin2 : List V → Hp → VK → Prop := fun xs H Q => ∃ i j, xs = [.int i, .int j] ∧ Q (.int (if j < i then j else i)) H
theorem sc_max2 : SC K rMax2 [.pk, .pk] .fr dMax := by
  intro H0 F H vs ds Q eF e0 rvs q
  obtain ⟨v, d, v', d', rfl, rfl, rv, rv'⟩ := rvs.two
  cases d with
  | int i =>
    cases d' with
    | int j =>
      obtain rfl := rv.1.intOf
      obtain rfl := rv'.1.intOf
      refine ⟨i, j, rfl, ?_⟩
      have e : (if j > i then j else i) = max i j := by split <;> omega
      rw [e]
      exact VP.old (show VP K H0 F H .fr (.int (max i j)) Q from q) eF (.int _)
    | _ => exact (show False from q).elim
  | _ => exact (show False from q).elim
theorem sc_min2 : SC K rMin2 [.pk, .pk] .fr dMin := by
  intro H0 F H vs ds Q eF e0 rvs q
  obtain ⟨v, d, v', d', rfl, rfl, rv, rv'⟩ := rvs.two
  cases d with
  | int i =>
    cases d' with
    | int j =>
      obtain rfl := rv.1.intOf
      obtain rfl := rv'.1.intOf
      refine ⟨i, j, rfl, ?_⟩
      have e : (if j < i then j else i) = min i j := by split <;> omega
      rw [e]
      exact VP.old (show VP K H0 F H .fr (.int (min i j)) Q from q) eF (.int _)
    | _ => exact (show False from q).elim
  | _ => exact (show False from q).elim
instance (i j : Int) : Decidable (CDivP i j) := by unfold CDivP; infer_instance
def dToInt : List D → R D
  | [.int i] => .ok (.int i)
  | [.bl b] => .ok (.int (if b = true then 1 else 0))
  | _ => .bad
def rToInt : List V → Hp → VK → Prop := fun xs H Q => (∃ i, xs = [.int i] ∧ Q (.int i) H) ∨ ∃ k, xs = [.bl k] ∧ Q (.int (if k then 1 else 0)) H
theorem sc_int : SC K rToInt [.pk] .fr dToInt := by
  intro H0 F H vs ds Q eF e0 rvs q
  obtain ⟨v, d, rfl, rfl, rv⟩ := rvs.one
  cases d with
  | int i =>
    obtain rfl := rv.1.intOf
    exact .inl ⟨i, rfl, VP.old (show VP K H0 F H .fr _ Q from q) eF (.int _)⟩
  | bl b =>
    obtain rfl := rv.1.blOf
    exact .inr ⟨b, rfl, VP.old (show VP K H0 F H .fr _ Q from q) eF (.int _)⟩
  | _ => exact (show False from q).elim
end
end DL
namespace DL
open PySem L2
variable [Tbs]
section
variable {K : Frag} {E : XK} {X : Cx} {Γ : List M} {a b : Expr} {ta tb : TE} {m ma mb : M} {ga gb : List D → R D} {p p2 pos : Pos} {k : Nat}
theorem de_len (U : Uni K E k X) (h : DE K E X Γ a ta m ga) (hg : Gl X "len" := by rfl) (he : starEach [a] X.env = (false, eval a X.env) :: starEach [] X.env := by rfl) : DE K E X Γ (.Call (.Name "len" p) [a] [] pos) (tCB (rLen K) (tCons ta tNil)) .fr (gAll dLen (gsC ga gsN)) := by
  have e0 := U.K
  subst e0
  exact DE.callB call_len sc_len U.bn.len PySem.boot_len (da_p h da_nil he) hg (by decide) (by decide) he rfl
theorem de_tuple (U : Uni K E k X) (h : DE K E X Γ a ta .fr ga) (hg : Gl X "tuple" := by rfl) (he : starEach [a] X.env = (false, eval a X.env) :: starEach [] X.env := by rfl) : DE K E X Γ (.Call (.Name "tuple" p) [a] [] pos) (tCB (rTupOf K) (tCons ta tNil)) .fr (gAll (dTuple false) (gsC ga gsN)) := by
  have e0 := U.K
  subst e0
  exact DE.callTy call_tuple_of (sc_tuple (.inr rfl)) U.bn.tuple (by decide +kernel) (da_f h da_nil he) hg (by decide) (by decide) he rfl
theorem de_tupleP (U : Uni K E k X) (h : DE K E X Γ a ta m ga) (hg : Gl X "tuple" := by rfl) (he : starEach [a] X.env = (false, eval a X.env) :: starEach [] X.env := by rfl) : DE K E X Γ (.Call (.Name "tuple" p) [a] [] pos) (tCB (rTupOf K) (tCons ta tNil)) .fr (gAll (dTuple true) (gsC ga gsN)) := by
  have e0 := U.K
  subst e0
  exact DE.callTy call_tuple_of (sc_tuple (.inl ⟨rfl, rfl⟩)) U.bn.tuple (by decide +kernel) (da_p h da_nil he) hg (by decide) (by decide) he rfl
theorem de_all (U : Uni K E k X) (h : DE K E X Γ a ta m ga) (hg : Gl X "all" := by rfl) (he : starEach [a] X.env = (false, eval a X.env) :: starEach [] X.env := by rfl) : DE K E X Γ (.Call (.Name "all" p) [a] [] pos) (tCB (rAll K) (tCons ta tNil)) .fr (gAll dAll (gsC ga gsN)) := by
  have e0 := U.K
  subst e0
  exact DE.callB (cr_all U.calm) sc_all U.bn.all (by decide +kernel) (da_p h da_nil he) hg (by decide) (by decide) he rfl
theorem de_max1 (U : Uni K E k X) (h : DE K E X Γ a ta m ga) (hg : Gl X "max" := by rfl) (he : starEach [a] X.env = (false, eval a X.env) :: starEach [] X.env := by rfl) : DE K E X Γ (.Call (.Name "max" p) [a] [] pos) (tCB (rMax K) (tCons ta tNil)) .fr (gAll dMax (gsC ga gsN)) := by
  have e0 := U.K
  subst e0
  exact DE.callB (cr_max U.calm) sc_max U.bn.max (by decide +kernel) (da_p h da_nil he) hg (by decide) (by decide) he rfl
theorem de_min1 (U : Uni K E k X) (h : DE K E X Γ a ta m ga) (hg : Gl X "min" := by rfl) (he : starEach [a] X.env = (false, eval a X.env) :: starEach [] X.env := by rfl) : DE K E X Γ (.Call (.Name "min" p) [a] [] pos) (tCB (rMin K) (tCons ta tNil)) .fr (gAll dMin (gsC ga gsN)) := by
  have e0 := U.K
  subst e0
  exact DE.callB (cr_min U.calm) sc_min U.bn.min (by decide +kernel) (da_p h da_nil he) hg (by decide) (by decide) he rfl
theorem de_toInt (U : Uni K E k X) (h : DE K E X Γ a ta m ga) (hg : Gl X "int" := by rfl) (he : starEach [a] X.env = (false, eval a X.env) :: starEach [] X.env := by rfl) : DE K E X Γ (.Call (.Name "int" p) [a] [] pos) (tCB rToInt (tCons ta tNil)) .fr (gAll dToInt (gsC ga gsN)) :=
  DE.callTy call_int1 sc_int U.bn.int (by decide +kernel) (da_p h da_nil he) hg (by decide) (by decide) he rfl
theorem de_max2 (U : Uni K E k X) (h : DE K E X Γ a ta ma ga) (h2 : DE K E X Γ b tb mb gb) (hg : Gl X "max" := by rfl) (he : starEach [a, b] X.env = (false, eval a X.env) :: starEach [b] X.env := by rfl) (he2 : starEach [b] X.env = (false, eval b X.env) :: starEach [] X.env := by rfl) (hpl : (backTo pos (starEach [b] X.env)).any (·.1) = false := by rfl) :
    DE K E X Γ (.Call (.Name "max" p) [a, b] [] pos) (tCB rMax2 (tCons ta (tCons tb tNil))) .fr (gAll dMax (gsC ga (gsC gb gsN))) :=
  DE.callB (call_max2 U.calm) sc_max2 U.bn.max (by decide +kernel) (da_p h (da_p h2 da_nil he2) he) hg (by decide) (by decide) he hpl
theorem de_min2 (U : Uni K E k X) (h : DE K E X Γ a ta ma ga) (h2 : DE K E X Γ b tb mb gb) (hg : Gl X "min" := by rfl) (he : starEach [a, b] X.env = (false, eval a X.env) :: starEach [b] X.env := by rfl) (he2 : starEach [b] X.env = (false, eval b X.env) :: starEach [] X.env := by rfl) (hpl : (backTo pos (starEach [b] X.env)).any (·.1) = false := by rfl) :
    DE K E X Γ (.Call (.Name "min" p) [a, b] [] pos) (tCB rMin2 (tCons ta (tCons tb tNil))) .fr (gAll dMin (gsC ga (gsC gb gsN))) :=
  DE.callB (call_min2 U.calm) sc_min2 U.bn.min (by decide +kernel) (da_p h (da_p h2 da_nil he2) he) hg (by decide) (by decide) he hpl
/-- isinstance(x, T), T a built-in type by its name -/
theorem de_isi (T : String) {x : Str} (U : Uni K E k X) (h : DE K E X Γ a ta m ga) (hm : X.mg x = none) (hv : bootBuiltins x = some (.type T)) (hg : Gl X "isinstance" := by rfl) (hg2 : Gl X x := by rfl) (hn : x ≠ "__name__" := by decide) (hd : (x == ("__debug__" : Str)) = false := by decide)
    (he : starEach [a, (.Name x p2 : Expr)] X.env = (false, eval a X.env) :: starEach [(.Name x p2 : Expr)] X.env := by rfl) (he2 : starEach [(.Name x p2 : Expr)] X.env = (false, eval (.Name x p2) X.env) :: starEach [] X.env := by rfl) (hpl : (backTo pos (starEach [(.Name x p2 : Expr)] X.env)).any (·.1) = false := by rfl) :
    DE K E X Γ (.Call (.Name "isinstance" p) [a, .Name x p2] [] pos) (tCB (rIsi K) (tCons ta (tCons (tC (.ty T)) tNil))) .fr (g1 (dIsi T) ga) := by
  have e0 := U.K
  subst e0
  exact ⟨pe_callB call_isi hg U.bn.isinstance (by decide +kernel) (pa_cons h.pe (pa_cons (pe_bltn (v := .ty T) hg2 hm hv rfl hn hd) pa_nil he2) he) (by decide) (by decide) he hpl, se_isi h.se⟩
end
section
variable {K : Frag} {F0 H0 F H : Hp} {Γ : List M} {ρ : List D} {σ : St} {fps : Nat → List Addr}
theorem Rel.mut {i : Nat} {m : M} {v : V} {d : D} {fp : List Addr} {a : Addr} {o : HO} (r : Rel K F0 H0 Γ ρ σ F H fps) (hi : Γ[i]? = some m) (hv : σ[i]? = some (some v)) (st : m.st = true) (ha : a ∈ fps i)
    (hr : Rv K H0 F (upd H a o) m v d fp) (nd : fp.Nodup) (un : ∀ b ∈ fp, F b = none ∧ H0 b = none) (dj : ∀ j b, j ≠ i → b ∈ fps j → b ∉ fp) :
    Rel K F0 H0 Γ (ρ.set i d) σ F (upd H a o) (fun j => if j = i then fp else fps j) := by
  have hF : F a = none := (r.ow i a ha).1
  have hH : H0 a = none := (r.ow i a ha).2
  refine ⟨upd_keeps r.fh hF, r.f0, upd_keeps r.h0 hH, (r.thereL ha).elim fun _ z => r.tb.upd z, r.new, r.lg, by rw [List.length_set]; exact r.lr, fun j => ?_, fun j => ?_, fun j l b hj hl => ?_, fun j b hb => ?_⟩
  · by_cases e : j = i
    · subst e
      rw [if_pos rfl]
      refine .inr ⟨v, by rw [List.getD_eq_getElem?_getD, hv]; rfl, ?_, ?_⟩
      · rw [List.getD_eq_getElem?_getD, hi]; exact st
      · have hlt : j < ρ.length := by rw [r.lr]; exact (List.getElem?_eq_some_iff.mp hv).1
        rw [List.getD_eq_getElem?_getD, hi, List.getD_eq_getElem?_getD, List.getElem?_set_self hlt]
        exact hr
    · rw [if_neg e]
      have e1 : (ρ.set i d).getD j .non = ρ.getD j .non := by rw [List.getD_eq_getElem?_getD, List.getElem?_set_ne (Ne.symm e), ← List.getD_eq_getElem?_getD]
      rw [e1]
      refine (r.sl j).keep (Same.refl _) fun b hb o wz z => ?_
      rw [upd_ne fun w => e (r.dj j i b hb (by rw [w]; exact ha))]
      exact z
  · by_cases e : j = i
    · rw [if_pos e]; exact nd
    · rw [if_neg e]; exact r.nd j
  · by_cases e : j = i
    · by_cases e' : l = i
      · rw [e, e']
      · rw [if_pos e] at hj
        rw [if_neg e'] at hl
        exact absurd hj (dj l b e' hl)
    · rw [if_neg e] at hj
      by_cases e' : l = i
      · rw [if_pos e'] at hl
        exact absurd hl (dj j b e hj)
      · rw [if_neg e'] at hl
        exact r.dj j l b hj hl
  · by_cases e : j = i
    · rw [if_pos e] at hb; exact un b hb
    · rw [if_neg e] at hb; exact r.ow j b hb
end
def gApp (i : Nat) (g : List D → R D) : List D → R Fl := fun ρ => match ρ.getD i .non with
  | .lst ds => g ρ >>= fun d => if ds.length < sizeLine then .ok (.nx (ρ.set i (.lst (ds ++ [d])))) else .bad
  | _ => .bad
def gSetI (i : Nat) (g gi : List D → R D) : List D → R Fl := fun ρ => g ρ >>= fun d => gi ρ >>= fun
  | .int k => match ρ.getD i .non with
    | .lst ds => oR (ixN ds.length k) >>= fun j => .ok (.nx (ρ.set i (.lst (ds.set j d))))
    | _ => .bad
  | _ => .bad
section
variable {K : Frag} {E : XK} {X : Cx} {Γ n b c : List M} {a e ix : Expr} {te ti : TE} {m r mi : M} {g gi : List D → R D} {p p1 p2 p3 pos : Pos} {k : Nat}
theorem ss_app {i : Nat} (hi : Γ[i]? = some (.ow m)) (hm : m.st = true) (h : SE K E Γ te m g) : SS K E Γ Γ b c r (tDrop (tBM K "list" rAppend (tVar i) (tCons te tNil))) (gApp i g) := fun F0 H0 ρ σ F H fps N rel q => by
  obtain ⟨v, hv, st, rv⟩ := rel.get hi (fun z => nomatch z)
  refine ⟨v, hv, ?_⟩
  unfold gApp at q
  cases hd : ρ.getD i .non with
  | lst ds =>
    rw [hd] at q rv
    obtain ⟨l, vs, f1, rfl, hl, al, ef⟩ := Rv.ow_lst rv
    refine ⟨.inl ⟨rfl, vs, SqL.of hl⟩, ?_⟩
    refine h F0 H0 ρ σ F H fps _ rel ((RP.bind q).imp (fun d q1 y F1 H1 fpy x rvy fy => ?_) fun _ z => z.on rel.x0)
    obtain ⟨cz, q1⟩ := RP.ite q1
    have hl1 := x.h.at_ hl
    refine ⟨l, vs, y, rfl, rfl, hl1, by rw [al.length]; exact cz, ?_⟩
    have rel1 := rel.ext x
    have nd := rel.nd i
    have th : ∀ j a, a ∈ fps j → ∃ o, H a = some o := fun j a ha => rel.there ha
    have hlm : l ∈ fps i := by rw [ef]; exact List.mem_cons_self
    have hly : l ∉ fpy := fun z => by rw [(fy.un l z).1] at hl; cases hl
    rw [ef, List.nodup_cons] at nd
    refine q1 σ F1 _ (fun j => if j = i then l :: (f1 ++ fpy) else fps j) x.f (rel1.mut hi hv st hlm ⟨l, vs ++ [y], f1 ++ fpy, rfl, upd_same, ?_, rfl⟩ ?_ (fun a ha => ?_) fun j a hj ha hz => ?_)
    · refine Al.append (al.imp fun v d f hf q => q.keep x.f hm fun a ha o wz z => ?_) (Al.one (rvy.keep (Same.refl _) hm fun a ha o wz z => ?_))
      · rw [upd_ne (fun w => nd.1 (by rw [← w]; exact hf a ha))]; exact x.h.at_ z (notTbl_own wz)
      · rw [upd_ne (fun w => hly (by rw [← w]; exact ha))]; exact z
    · refine List.nodup_cons.mpr ⟨fun z => ?_, List.nodup_append.mpr ⟨nd.2, fy.nd, fun a ha b hb w => ?_⟩⟩
      · rcases List.mem_append.mp z with z | z
        · exact nd.1 z
        · exact hly z
      · subst w
        obtain ⟨o, z⟩ := th i a (by rw [ef]; exact List.mem_cons_of_mem _ ha)
        rw [(fy.un a hb).1] at z; cases z
    · rcases List.mem_cons.mp ha with z | z
      · exact rel1.ow i a (by rw [z]; exact hlm)
      · rcases List.mem_append.mp z with z | z
        · exact rel1.ow i a (by rw [ef]; exact List.mem_cons_of_mem _ z)
        · exact ⟨(fy.un a z).2, rel.h0.free (fy.un a z).1⟩
    · rcases List.mem_cons.mp hz with z | z
      · exact hj (rel.dj j i a ha (by rw [z]; exact hlm))
      · rcases List.mem_append.mp z with z | z
        · exact hj (rel.dj j i a ha (by rw [ef]; exact List.mem_cons_of_mem _ z))
        · obtain ⟨o, w⟩ := th j a ha
          rw [(fy.un a z).1] at w; cases w
  | _ => rw [hd] at q; exact (show False from q).elim
/-- x.append(e) -/
theorem ds_app (i : Nat) {x : Str} (U : Uni K E k X) (h : DE K E X Γ e te m g) (hi : Γ[i]? = some (.ow m) := by rfl) (hm : m.st = true := by rfl) (hN : X.N[i]? = some x := by rfl) (hv : Vis X.env.scope x := by first | exact Or.inl rfl | exact Or.inr (Or.inl rfl) | exact Or.inr (Or.inr rfl))
    (hd : (x == ("__debug__" : Str)) = false := by decide) (hcd : (x == ("__classdict__" : Str)) = false := by decide)
    (pe : PE X (.Name x p1) (tVar i) → PA X [e] (tCons te tNil) → PE X (.Call (.Attribute (.Name x p1) "append" p2) [e] [] p3) (tBM X.K "list" rAppend (tVar i) (tCons te tNil)) := by exact fun h1 h2 => pe_bm PySem.F.plainAttrs_list PySem.F.slot_list_append PySem.F.type_list_append mt_append h1 h2)
    (hs : swapsWith (.Call (.Attribute (.Name x p1) "append" p2) [e] [] p3) none pos.line X.env = pure false := by rfl) (he : starEach [e] X.env = (false, eval e X.env) :: starEach [] X.env := by rfl) :
    DS K E X Γ (.Expr (.Call (.Attribute (.Name x p1) "append" p2) [e] [] p3) pos) (tDrop (tBM K "list" rAppend (tVar i) (tCons te tNil))) Γ b c r (gApp i g) := by
  have e0 := U.K
  subst e0
  exact ⟨ps_expr (pe (pe_var hN hv hd hcd) (pa_cons h.pe pa_nil he)) hs, ss_app hi hm h.se⟩
theorem ss_setI {i : Nat} (hi : Γ[i]? = some (.ow .fr)) (h : SE K E Γ te .fr g) (h2 : SE K E Γ ti mi gi) : SS K E Γ Γ b c r (tAsg te (gSub (tVar i) ti rSetL)) (gSetI i g gi) := fun F0 H0 ρ σ F H fps N rel q => by
  refine h F0 H0 ρ σ F H fps _ rel ((RP.bind q).imp (fun d q1 y F1 H1 fpy x rvy fy => ?_) fun _ z => z.on rel.x0)
  have rel1 := rel.ext x
  obtain ⟨v, hv, st, rv⟩ := rel1.get hi (fun z => nomatch z)
  refine ⟨v, hv, ?_⟩
  refine h2.pk F0 H0 ρ σ F1 H1 fps _ rel1 ((RP.bind q1).imp (fun dk q2 kv F2 H2 fpk x2 rvk fk => ?_) fun _ z => z.on rel1.x0)
  have rel2 := rel1.ext x2
  cases dk with
  | int kk =>
    cases hd : ρ.getD i .non with
    | lst ds =>
      have q3 : RP (match ρ.getD i .non with | .lst ds => oR (ixN ds.length kk) >>= fun j => R.ok (Fl.nx (ρ.set i (.lst (ds.set j d)))) | _ => .bad) (FP K F0 H0 F Γ b c r N) (XP K E F0 H0) := q2
      rw [hd] at q3 rv
      obtain ⟨j, hj, q4⟩ := oR_ok (RP.bind q3)
      obtain ⟨l, vs, f1, rfl, hl, al, ef⟩ := Rv.ow_lst (rv.grow x2.f x2.h)
      obtain ⟨fz, e1⟩ := al.fr
      subst e1
      refine ⟨l, vs, kk, j, rfl, rvk.1.intOf, hl, by rw [fz.length]; exact hj, ?_⟩
      have hlm : l ∈ fps i := by rw [ef]; exact List.mem_cons_self
      refine q4 σ F2 _ (fun j => if j = i then [l] else fps j) (x.f.trans x2.f) (rel2.mut hi hv st hlm ⟨l, vs.set j y, [], rfl, upd_same, (fz.set j (rvy.1.mono x2.f)).al, rfl⟩ (by simp) (fun a ha => ?_) fun jj a hjj ha hz => ?_)
      · have e : a = l := by simpa using ha
        subst e
        exact rel2.ow i a hlm
      · have e : a = l := by simpa using hz
        subst e
        exact hjj (rel2.dj jj i a ha hlm)
    | _ =>
      have q3 : RP (match ρ.getD i .non with | .lst ds => oR (ixN ds.length kk) >>= fun j => R.ok (Fl.nx (ρ.set i (.lst (ds.set j d)))) | _ => .bad) (FP K F0 H0 F Γ b c r N) (XP K E F0 H0) := q2
      rw [hd] at q3
      exact (show False from q3).elim
  | _ => exact (show False from q2).elim
/-- x[i] = e -/
theorem ds_setI (i : Nat) {x : Str} (U : Uni K E k X) (h : DE K E X Γ e te .fr g) (h2 : DE K E X Γ ix ti mi gi) (hi : Γ[i]? = some (.ow .fr) := by rfl) (hN : X.N[i]? = some x := by rfl) (hv : Vis X.env.scope x := by first | exact Or.inl rfl | exact Or.inr (Or.inl rfl) | exact Or.inr (Or.inr rfl))
    (hd : (x == ("__debug__" : Str)) = false := by decide) (hcd : (x == ("__classdict__" : Str)) = false := by decide)
    (pg : PE X (.Name x p1) (tVar i) → PE X ix ti → PG X (.Subscript (.Name x p1) ix p2) (gSub (tVar i) ti rSetL) := by exact fun h1 h2 => pg_sub h1 h2 set_list)
    (ps : PE X e te → PG X (.Subscript (.Name x p1) ix p2) (gSub (tVar i) ti rSetL) → PS X (.Assign [.Subscript (.Name x p1) ix p2] e pos) (tAsg te (gSub (tVar i) ti rSetL)) := by exact fun h1 h2 => ps_asg h1 h2) :
    DS K E X Γ (.Assign [.Subscript (.Name x p1) ix p2] e pos) (tAsg te (gSub (tVar i) ti rSetL)) Γ b c r (gSetI i g gi) := ⟨ps h.pe (pg (pe_var hN hv hd hcd) h2.pe), ss_setI hi h.se h2.se⟩
end
end DL
namespace DL
open PySem L2
variable [Tbs]
section
variable {K : Frag} {E : XK} {X : Cx} {Γ Γ' n b c : List M} {e a a2 : Expr} {t te ta tb : TE} {tt : TT} {m mm r ma mb : M} {g ga gb : List D → R D} {pos spos p1 p2 : Pos} {k : Nat} {is : List Nat} {wi : TI} {tg : TG} {src : List D → R (List D)} {gt : D → List D → Option (List D)} {gq : List D → R Bool} {ge : List D → R D}
theorem dts_nil : PTs X [] tYes ∧ ST K E Γ tYes gtt := ⟨pts_nil, fun F0 H0 ρ σ F H fps Q rel q => q F H (Ext.refl rel.fh)⟩
theorem dts_one (h : DT K E X Γ e tt gq) : PTs X [e] tt ∧ ST K E Γ tt gq := ⟨pts_one h.pt, h.st⟩
/-- y = [e for target in iter if test], y a local -/
theorem ds_setLc (i : Nat) {y : Str} {py : Pos} {elt tge iter : Expr} {ifs : List Expr} {scope : Scope} {own : List (Str × Nat)} (U : Uni K E k X) (hi : DI K E X Γ tge iter wi m src) (ok : BlkOk X.N X.env.scope scope own)
    (hg : ∀ (s : Shared) (H : Hp) (C : Addr) (cl : List (Str × Addr)) (fp : List Addr), Uni K E0 k (X.blk s H scope (compEnvC scope cl C X.env) fp) → DG K (X.blk s H scope (compEnvC scope cl C X.env) fp) (wipeM Γ (own.map (·.2))) Γ' m is tge tg gt)
    (ht : ∀ (s : Shared) (H : Hp) (C : Addr) (cl : List (Str × Addr)) (fp : List Addr), Uni K E0 k (X.blk s H scope (compEnvC scope cl C X.env) fp) → PTs (X.blk s H scope (compEnvC scope cl C X.env) fp) ifs tt ∧ ST K E0 Γ' tt gq)
    (he : ∀ (s : Shared) (H : Hp) (C : Addr) (cl : List (Str × Addr)) (fp : List Addr), Uni K E0 k (X.blk s H scope (compEnvC scope cl C X.env) fp) → DE K E0 (X.blk s H scope (compEnvC scope cl C X.env) fp) Γ' elt te mm ge)
    (hN : X.N[i]? = some y := by rfl) (hyl : X.env.scope.names.lookup y = some .local := by rfl) (hl : i < Γ.length := by first | decide | simp)
    (hsw : swapsWith (.ListComp elt [⟨tge, iter, ifs, 0⟩] scope pos) (some (.Name y py)) spos.line X.env = pure true := by exact sw_true rfl rfl rfl (by decide +kernel))
    (hs : ∀ i ∈ is, i ∈ own.map (·.2) := by decide) (hm : mm.st = true := by rfl) (hf : ∀ x, foldedSetIterable iter X.env x = pure x := by intro _; rfl) :
    DS K E X Γ (.Assign [.Name y py] (.ListComp elt [⟨tge, iter, ifs, 0⟩] scope pos) spos) (tAsg (tLc wi tg tt te (own.map (·.2))) (gName i)) (Γ.set i (.ow mm)) b c r (gSet i (gLc src gt gq ge)) := by
  have UB : ∀ (s : Shared) (H : Hp) (C : Addr) (cl : List (Str × Addr)) (fp : List Addr), Uni K E0 k (X.blk s H scope (compEnvC scope cl C X.env) fp) := fun s H C cl fp =>
    ⟨U.K, U.nd, U.calm, U.room, U.hu, PassesOwn.never, passL, takes0, U.bn⟩
  have s0 : Shared := X.s_0
  refine ⟨ps_setLc U.calm U.nd hN hyl hsw hi.pi ok (fun s H C cl fp => (hg s H C cl fp (UB s H C cl fp)).pg) (fun s H C cl fp => (ht s H C cl fp (UB s H C cl fp)).1) (fun s H C cl fp => (he s H C cl fp (UB s H C cl fp)).pe) hf, ?_⟩
  exact ss_set (se_lc hi.si (hg s0 (fun _ => none) 0 [] [] (UB _ _ _ _ _)).sg hs (ht s0 (fun _ => none) 0 [] [] (UB _ _ _ _ _)).2 (he s0 (fun _ => none) 0 [] [] (UB _ _ _ _ _)).se hm) hl hm
def gUnp (g : List D → R D) (gt : D → List D → Option (List D)) : List D → R Fl := fun ρ => g ρ >>= fun d => oR (gt d ρ) >>= fun ρ' => .ok (.nx ρ')
theorem ss_unp (h : SE K E Γ te .fr g) (h2 : SG K Γ Γ' .fr is tg gt) : SS K E Γ Γ' b c r (tAsg te tg) (gUnp g gt) := fun F0 H0 ρ σ F H fps N rel q => by
  refine h F0 H0 ρ σ F H fps _ rel ((RP.bind q).imp (fun d hd v F' H' fp x rv f => ?_) fun _ z => z.on rel.x0)
  exact h2 F0 H0 ρ σ F' H' fps v d _ (rel.ext x) ⟨rv.1, rfl⟩ (RP.oR (RP.bind hd) fun ρ' q' σ' fps' rel' _ _ => q' σ' F' H' fps' x.f rel')
theorem ds_unp {tge : Expr} (U : Uni K E k X) (h : DE K E X Γ e te .fr g) (h2 : DG K X Γ Γ' .fr is tge tg gt)
    (ps : PE X e te → PG X tge tg → PS X (.Assign [tge] e pos) (tAsg te tg) := by exact fun h1 h2 => ps_asg h1 h2) : DS K E X Γ (.Assign [tge] e pos) (tAsg te tg) Γ' b c r (gUnp g gt) := ⟨ps h.pe h2.pg, ss_unp h.se h2.sg⟩
def gAug (i : Nat) (f : D → D → R D) (g : List D → R D) : List D → R Fl := fun ρ => g ρ >>= fun y => f (ρ.getD i .non) y >>= fun z => .ok (.nx (ρ.set i z))
def dAugAdd : D → D → R D := dI0 fun i j => i + j
def dAugSub : D → D → R D := dI0 fun i j => i - j
def dAugBitXor : D → D → R D := dI0 fun i j => Builtin.bitXor i j
def dRep : D → D → R D
  | .lst ds, .int k => if -(2 ^ 63) ≤ k ∧ k < 2 ^ 63 ∧ ds.length * k.toNat ≤ sizeLine then .ok (.lst (List.replicate k.toNat ds).flatten) else .bad
  | _, _ => .bad
theorem se_rep (ha : SE K E Γ ta (.ow .fr) ga) (hb : SE K E Γ tb mb gb) : SE K E Γ (tOp rRep ta tb) (.ow .fr) (g2 dRep ga gb) := fun F0 H0 ρ σ F H fps Q rel q => by
  refine ha F0 H0 ρ σ F H fps _ rel ((RP.bind q).imp (fun dx q1 x F1 H1 fp1 e1 rv1 f1 => ?_) fun _ z => z)
  refine hb.pk F0 H0 ρ σ F1 H1 fps _ (rel.ext e1) ((RP.bind q1).imp (fun dy q2 y F2 H2 fp2 e2 rv2 f2 => ?_) fun _ z => z.on e1)
  cases dx with
  | lst ds =>
    cases dy with
    | int kk =>
      obtain ⟨⟨c1, c2, c3⟩, q3⟩ := RP.ite' (show RP (if _ then _ else _) _ _ from q2)
      obtain ⟨l, vs, f3, rfl, hl, al, ef⟩ := Rv.ow_lst rv1
      obtain ⟨fz, _⟩ := al.fr
      refine ⟨l, kk, vs, rfl, rv2.1.intOf, e2.h.at_ hl, c1, c2, by rw [fz.length]; exact c3, fun p hp => ?_⟩
      exact VP.newL (VP.on q3 (e1.trans e2)) e2.fh hp ((fz.mono e2.f).rep kk.toNat)
    | _ => exact (show False from q2).elim
  | _ => cases dy <;> exact (show False from q2).elim
theorem de_rep (U : Uni K E k X) (ha : DE K E X Γ a ta (.ow .fr) ga) (hb : DE K E X Γ a2 tb mb gb) : DE K E X Γ (.BinOp a .Mult a2 pos) (tOp rRep ta tb) (.ow .fr) (g2 dRep ga gb) := ⟨pe_op op_rep ha.pe hb.pe, se_rep ha.se hb.se⟩
end
end DL
namespace DL
open PySem L2
variable [Tbs]
/-- a constant of the module -/
def Cst (K : Frag) (mg : Str → Option Value) (x : Str) (v : V) (d : D) : Prop := ∃ u, mg x = some u ∧ RelV v u ∧ ∀ F : Hp, Fz K F v d
omit [Tbs] in
theorem Cst.int {K : Frag} {mg : Str → Option Value} {x : Str} {i : Int} {t : Tok} (h : mg x = some (.int i t)) : Cst K mg x (.int i) (.int i) := ⟨_, h, ⟨t, rfl⟩, fun _ => .int i⟩
omit [Tbs] in
theorem Cst.str {K : Frag} {mg : Str → Option Value} {x z : Str} {t : Tok} (h : mg x = some (.str z t)) : Cst K mg x (.str z) (.str z) := ⟨_, h, ⟨t, rfl⟩, fun _ => .str z⟩
/-- no tables -/
@[reducible] def noTbs : Tbs := ⟨[]⟩
end DL
namespace DL
open PySem PySem.Spec PyProof.Rows L2
end DL
namespace DL
open PySem PySem.Spec PyProof.Rows L2
end DL
namespace DL
open PySem L2
end DL
namespace DL
open PySem PySem.Spec PyProof.Rows L2
variable [Tbs]
/-- a list (true) or a tuple (false) -/
def SqB (k : Bool) (K : Frag) (H : Hp) (a : Addr) (xs : List V) : Prop := match k with | true => SqL K H a xs | false => SqT K H a xs
def HB (k : Bool) (h : Heap) (a : Addr) (its : Array Value) : Prop := match k with | true => h.IsList a its | false => h.IsTuple a its
def IB (k : Bool) (h : Heap) (it a : Addr) (i : Nat) : Prop := match k with | true => h.IsListIter it a i | false => h.IsTupleIter it a i
def oB (k : Bool) (a : Addr) : Obj := match k with | true => { cls := .type "list_iterator", data := .fields #[.ref a, .int 0 0] } | false => { cls := .type "tuple_iterator", data := .fields #[.ref a, .int 0 0] }
omit [Tbs] in
theorem draws_b (k : Bool) {prog : Program} {w : World} {A : Around} (hh : A.handled = none) (it l : Addr) (hne : l ≠ it) (its : Array Value) :
    Draws prog w A it [it, l] its.size (fun i v => its[i]? = some v) (fun i h => IB k h it l i ∧ HB k h l its) := by
  cases k with
  | true => exact .list hh it l hne its
  | false => exact .tuple hh it l hne its
omit [Tbs] in
theorem begins_b (k : Bool) (l : Addr) (its : Array Value) : Begins (.ref l) (oB k l) fun h => HB k h l its := by
  cases k with
  | true => exact begins_list l its
  | false => exact begins_tuple l its
omit [Tbs] in
theorem ib_new {k : Bool} {h : Heap} {it l : Addr} (e : h.get? it = some (oB k l)) : IB k h it l 0 := by
  cases k with
  | true => exact ⟨_, e, rfl, rfl⟩
  | false => exact ⟨_, e, rfl, rfl⟩
omit [Tbs] in
theorem IB.obj {k : Bool} {h : Heap} {it l : Addr} {i : Nat} (b : IB k h it l i) : ∃ o, h.get? it = some o ∧ ∀ v, o.data ≠ .cell v := by
  cases k with
  | true => obtain ⟨o, e, _, d⟩ := b; exact ⟨o, e, fun v q => by rw [d] at q; cases q⟩
  | false => obtain ⟨o, e, _, d⟩ := b; exact ⟨o, e, fun v q => by rw [d] at q; cases q⟩
theorem IB.on {k : Bool} {h h' : Heap} {it l : Addr} {i : Nat} (b : IB k h it l i) (e : ∀ o, h.get? it = some o → h'.get? it = some o) : IB k h' it l i := by
  cases k with
  | true => exact (show h.IsListIter it l i from b).at e
  | false => exact (show h.IsTupleIter it l i from b).at e
section
variable {X : Cx} {pins : List (Addr × Obj)} {σ : L2.St} {H : Hp} {s : Shared}
omit [Tbs] in
theorem inv_b {k : Bool} {a : Addr} {xs : List V} (I : Inv X pins σ H s) (h : SqB k X.K H a xs) : ∃ its : List Value, Vals xs its ∧ HB k s.heap a its.toArray ∧ a < s.heap.objs.size := by
  cases k with
  | true =>
    obtain ⟨its, rv, p, _⟩ := I.list h
    exact ⟨its, rv, p.isList, p.lt⟩
  | false =>
    obtain ⟨its, rv, p, _⟩ := I.tuple h
    obtain ⟨o, e, _⟩ := id p
    exact ⟨its, rv, p, Heap.lt_size e⟩
omit [Tbs] in
theorem inj_b {k : Bool} {a : Addr} {xs ys : List V} (I : Inv X pins σ H s) (h : SqB k X.K H a xs) (h' : SqB k X.K H a ys) : xs = ys := by
  cases k with
  | true => exact I.list_inj h h'
  | false => exact I.tuple_inj h h'
omit [Tbs] in
/-- one turn that makes a new tuple -/
theorem item_of {tg : Expr} {it : Addr} {ch fp wr : List Addr} {n i : Nat} {J : It} {tn : Nat → Heap → Prop} {St : Nat → Heap → Prop} {Y : Nat → Heap → Value → Heap → Prop} {E : Value → Shared → Prop} {xs : List V}
    (G : GoesN X.prog X.w X.A tg it fp wr n Y St) (hi : i < n) (st : St i s.heap) (I : Inv X pins σ H s) (hf : ∀ b ∈ ch, FpOk X pins H b) (hw : ∀ b ∈ wr, b ∈ ch) (hc : ∀ b ∈ ch, b < s.heap.objs.size) (hx : xs.length ≤ sizeLine)
    (hY : ∀ v h', Y i s.heap v h' → ∃ T its, v = .ref T ∧ s.heap.objs.size ≤ T ∧ h'.IsTuple T its ∧ Vals xs its.toList) (hJ : ∀ T, H T = none → J.yld i H (.ref T) (upd H T (.tup xs))) (ht : ∀ h', St (i + 1) h' → tn (i + 1) h') :
    wpAny (model X.prog X.w) X.A (pyNext (.ref it)) (fun r s1 => ∃ u, r = some u ∧ wpAny (model X.prog X.w) X.A (letOwnedTupleGo tg (.ref it) u) (fun _ s2 => ∃ x H', Inv X pins σ H' s2 ∧ RelV x u ∧ J.yld i H x H' ∧ tn (i + 1) s2.heap ∧ ∀ b ∈ ch, H' b = none) E s1) E s := by
  refine G.goes i s (fun u s2 => ∃ x H', Inv X pins σ H' s2 ∧ RelV x u ∧ J.yld i H x H' ∧ tn (i + 1) s2.heap ∧ ∀ b ∈ ch, H' b = none) E hi st fun v h' tk y st' hk _ => ?_
  obtain ⟨T, its, rfl, hT, hTT, rv⟩ := hY v h' y
  refine ⟨.ref T, upd H T (.tup xs), I.turnedNew (t' := tk) (ch := ch) (fun b o hb q => hk b o (fun z => hb (hw b z)) q) hf hT ⟨hx, its.toList, rv, ?_⟩, rfl, hJ T (I.hok.fresh hT), ht _ st', fun b hb => ?_⟩
  · rw [Array.toArray_toList]; exact hTT
  · rw [upd_ne (Nat.ne_of_lt (Nat.lt_of_lt_of_le (hc b hb) hT))]
    exact (hf b hb).1
end
omit [Tbs] in
theorem lt2 {h : Heap} {b : Addr} {o : Obj} (e : h.get? b = some o) : b < h.objs.size := Heap.lt_size e
omit [Tbs] in
theorem fp_new {X : Cx} {pins : List (Addr × Obj)} {σ : L2.St} {H : Hp} {s : Shared} (I : Inv X pins σ H s) (l : List Addr) (h : ∀ c ∈ l, s.heap.objs.size ≤ c) : ∀ c ∈ l, FpOk X pins H c := fun c hc => I.fpOk (h c hc) (I.hok.fresh (h c hc))
section
variable {K : Frag} {E : XK} {X : Cx} {Γ : List M} {e e2 e3 tge a b c : Expr} {t tb t3 : TE} {ta : TA} {m ma mb : M} {g ga gb gc' : List D → R D} {p pos tpos : Pos} {elts : List Expr} {kk k : Nat}
omit [Tbs] in
theorem SqB.same {k : Bool} {H H' : Hp} {a : Addr} {xs : List V} (s : Same H H') (h : SqB k K H a xs) : SqB k K H' a xs := by
  cases k with
  | true => exact s.seq h
  | false => exact Same.sqt s h
/-- items of what is zipped: lists, tuples -/
def dSqs : D → R (List D)
  | .lst ds => .ok ds
  | .tup ds => .ok ds
  | _ => .bad
omit [Tbs] in
theorem seq_ok {F : Hp} {v : V} {d : D} {α : Type} {f : List D → R α} {P : α → Prop} {Xx : Ex → Prop} (h : Fz K F v d) (q : RP (dSqs d >>= f) P Xx) : ∃ k a vs ds, v = .ref a ∧ SqB k K F a vs ∧ FzL K F vs ds ∧ RP (f ds) P Xx := by
  cases d with
  | lst es =>
    obtain ⟨a, vs, rfl, h1, h2⟩ := h.listOf
    exact ⟨true, a, vs, es, rfl, h1, h2, q⟩
  | tup es =>
    obtain ⟨a, vs, rfl, h1, h2⟩ := h.tupOf
    exact ⟨false, a, vs, es, rfl, h1, h2, q⟩
  | _ => exact (show False from q).elim
end
def ItE1 (K : Frag) (k1 : Bool) (a : Addr) : It where
  go i H := ∃ (xs : List V) (x : V), SqB k1 K H a xs ∧ xs[i]? = some x
  yld i H v H' := ∃ T x, v = .ref T ∧ H T = none ∧ H' = upd H T (.tup [.int (i : Nat), x]) ∧ ∀ xs, SqB k1 K H a xs → xs[i]? = some x
  stop i H := ∃ xs : List V, SqB k1 K H a xs ∧ i = xs.length
def StE1 (k1 : Bool) (e it a : Addr) (i : Nat) (h : Heap) : Prop := (∃ old, IsEnum h e it (0 + (i : Int)) old) ∧ IB k1 h it a i
theorem turn_e1 {P : Program} {w : World} {K : Frag} {elts : List Expr} {kk : Nat} {tpos : Pos} {k1 : Bool} {a e it : Addr} (n1 : a ≠ it) (n2 : e ≠ it) (n3 : e ≠ a) :
    Turn P w K (.Tuple elts kk tpos) (ItE1 K k1 a) [e, it] e (StE1 k1 e it a) where
  mem := by simp
  obj := fun i h ⟨⟨old, he⟩, h1⟩ c hc => by
    simp only [List.mem_cons, List.not_mem_nil, or_false] at hc
    rcases hc with q | q <;> subst q
    · exact ⟨_, he, fun v q => nomatch q⟩
    · exact h1.obj
  keep := fun i h h' ⟨⟨old, he⟩, h1⟩ k => ⟨⟨old, k e (by simp) _ he⟩, h1.on fun o q => k it (by simp) o q⟩
  item := by
    rintro X rfl rfl rfl hc i pins s σ H E I hf ⟨⟨old, he⟩, h1⟩ ⟨xs, x, qx, hx⟩
    obtain ⟨its, rv, p, _⟩ := inv_b I qx
    obtain ⟨u, hu, ru⟩ := rv.get hx
    have hh := I.ok.hd hc
    have hi : i < its.toArray.size := by
      have e1 := (List.getElem?_eq_some_iff.mp hu).1
      rw [List.size_toArray]
      omega
    refine item_of (xs := [.int (i : Nat), x]) (GoesN.enumFrom 0 (draws_b k1 (show X.A.in1.handled = none from hh) it a n1 its.toArray) e n2 (by simp only [List.mem_cons, List.not_mem_nil, or_false, not_or]; exact ⟨n2, n3⟩) (by simp)) hi ⟨⟨old, he⟩, ⟨h1, p⟩⟩ I hf
      (fun c hcm => hcm) (fun c hcm => ?_) (by show 2 ≤ sizeLine; decide) ?_ ?_ ?_
    · simp only [List.mem_cons, List.not_mem_nil, or_false] at hcm
      rcases hcm with q | q <;> subst q
      · exact lt2 he
      · obtain ⟨_, e, _⟩ := h1.obj; exact lt2 e
    · rintro v h' ⟨T, tt, w1, rfl, hT, e1, hTT⟩
      refine ⟨T, _, rfl, hT, hTT, ?_⟩
      rw [List.getElem?_toArray, hu] at e1
      cases e1
      exact .cons ⟨tt, by rw [Int.zero_add]⟩ (.cons ru .nil)
    · exact fun T hT => ⟨T, x, rfl, hT, rfl, fun l hl => by rw [inj_b I hl qx]; exact hx⟩
    · exact fun h' ⟨q1, q2⟩ => ⟨q1, q2.1⟩
  done := by
    rintro X rfl rfl rfl hc i pins s σ H E I hf ⟨⟨old, he⟩, h1⟩ ⟨xs, qx, e0⟩
    obtain ⟨its, rv, p, _⟩ := inv_b I qx
    have hh := I.ok.hd hc
    have l1 := rv.length
    have e' : i = its.toArray.size := by rw [List.size_toArray]; omega
    subst e'
    refine (GoesN.enumFrom (elts := elts) (x1 := kk) (pos := tpos) 0 (draws_b k1 (show X.A.in1.handled = none from hh) it a n1 its.toArray) e n2 (by simp only [List.mem_cons, List.not_mem_nil, or_false, not_or]; exact ⟨n2, n3⟩) (by simp)).stops s (fun s1 => Inv X pins σ H s1) E ⟨⟨old, he⟩, ⟨h1, p⟩⟩ fun h' tk hk _ => ?_
    exact I.turnedL (t' := tk) (ch := [e, it]) (fun c o hb q => hk c o hb q) hf
  self := fun A i s Q E st h => by obtain ⟨⟨old, he⟩, _⟩ := st; exact wpAny_pyIter_enum he h
omit [Tbs] in
theorem meets_enum1 {v : Value} {o : Obj} {Hq : Heap → Prop} (B : Begins v o Hq) :
    Meets (Builtin.«enumerate.__new__» ⟨[.type "enumerate", v], []⟩) (fun _ Rr s0 => Hq s0.heap ∧
      Rr (.ok (.ret (.ref (s0.heap.push o).objs.size))) { s0 with heap := (s0.heap.push o).push { cls := .type "enumerate", data := .fields #[.none, .bool false, .ref s0.heap.objs.size, rawInt 0, .none, .none] } }) :=
  .of_wp fun prog w A Rr s0 hq => by
    obtain ⟨hp, gg, dd, tk, os⟩ := s0; obtain ⟨h1, hq⟩ := hq
    have hsub := sub_enumerate
    have q1 : ∀ {A' : Around} {E' : Value → Shared → Prop} {Q' : Value → Shared → Prop}, Q' (.ref hp.objs.size) ⟨hp.push o, gg, dd, tk, os⟩ → wpAny (model prog w) A' (pyIter v) Q' E' ⟨hp, gg, dd, tk, os⟩ :=
      fun qq => B.iter prog w _ _ ⟨hp, gg, dd, tk, os⟩ _ h1 qq
    wp_walk using q1
    refine wpAny_stack_any fun st0 => wpAny_pure ?_
    split <;> first
      | (rename_i c0 _ _ _ _ _; cases (c0 == Value.type "enumerate") <;> (wp_walk using q1; exact ⟨_, rfl, hq⟩))
      | (wp_walk using q1; exact ⟨_, rfl, hq⟩)
omit [Tbs] in
theorem enum1_begins {prog : Program} {w : World} {A : Around} {E : Value → Shared → Prop} {s : Shared} {v : Value} {o : Obj} {Hq : Heap → Prop} {Q : Value → Shared → Prop} (B : Begins v o Hq) (h1 : Hq s.heap)
    (h : ∀ h', IsEnum h' (s.heap.objs.size + 1) s.heap.objs.size 0 .none → h'.get? s.heap.objs.size = some o → (∀ b o, s.heap.get? b = some o → h'.get? b = some o) → Q (.ref (s.heap.objs.size + 1)) { s with heap := h' }) :
    wpAny (model prog w) A (call (.type "enumerate") [v]) Q E s := by
  refine callType_new F.called_enumerate (by decide) (F.typeCall_enumerate_1 _) (F.newCall_enumerate_1 _) (fun ob => F.args_object_init_2 ob _) F.entry_enumerate_new (meets_enum1 B) ⟨h1, ?_⟩
  have hz : (s.heap.push o).objs.size = s.heap.objs.size + 1 := Heap.size_push ..
  have he := Heap.get?_push_size (s.heap.push o) (o := { cls := .type "enumerate", data := .fields #[.none, .bool false, .ref s.heap.objs.size, rawInt 0, .none, .none] }) rfl
  rw [hz] at he
  show _ ∧ _
  rw [hz]
  exact ⟨⟨_, he, rfl⟩, h _ he (Heap.get?_push_of_some _ (Heap.get?_push_size _ B.free)) fun b o x => Heap.get?_push_of_some _ (Heap.get?_push_of_some _ x)⟩
def iEnumB (K : Frag) (ta : TA) : TI := fun σ H Rr => ta σ H fun vs H1 => ∃ k1 a xs, vs = [.ref a] ∧ SqB k1 K H1 a xs ∧ Rr (ItE1 K k1 a) H1
section
variable {K : Frag} {E : XK} {X : Cx} {Γ : List M} {e a : Expr} {t : TE} {ta : TA} {m : M} {g ga : List D → R D} {p pos tpos : Pos} {elts : List Expr} {kk k : Nat}
theorem pi_enumB (hg : Gl X "enumerate") (hm : X.mg "enumerate" = none) (ha : PA X [e] ta) (hs : starEach [e] X.env = (false, eval e X.env) :: starEach [] X.env := by rfl) :
    PI X (.Tuple elts kk tpos) (.Call (.Name "enumerate" p) [e] [] pos) (iEnumB X.K ta) := by
  refine ⟨fun pins s σ H Rr I h => ?_⟩
  refine Call_ (ld_blt I hg hm boot_enumerate (PyProof.Rows.callWith_type1 (thn (ha.run pos pins s σ H _ I h) fun us s1 ⟨vs, H1, I1, r1, q1⟩ => ?_) hs rfl))
  obtain ⟨k1, a, xs, rfl, qx, q⟩ := q1
  obtain ⟨u, rfl, ru⟩ := vals1 r1
  cases ru
  obtain ⟨its, rv, p1, z1⟩ := inv_b I1 qx
  refine enum1_begins (begins_b k1 a its.toArray) p1 fun h' he o1 hk => wpAny_pyIter_enum he ?_
  refine ⟨_, _, _, _, H1, rfl, I1.kept (t' := s1.toks) hk, turn_e1 (show (a : Nat) ≠ s1.heap.objs.size from Nat.ne_of_lt z1) (Nat.succ_ne_self _) (Nat.ne_of_gt (Nat.lt_succ_of_lt z1)), ⟨⟨_, he⟩, ib_new o1⟩, fp_new I1 _ (fun c hcm => ?_), q⟩
  simp only [List.mem_cons, List.not_mem_nil, or_false] at hcm
  rcases hcm with q | q <;> subst q <;> first | exact Nat.le_add_right _ _ | exact Nat.le_refl _
omit [Tbs] in
theorem walk_e1 {k1 : Bool} {a : Addr} {xs : List V} : Walk (ItE1 K k1 a) xs.length (fun H => SqB k1 K H a xs) (fun i H v H' => ∃ T x, v = .ref T ∧ H T = none ∧ H' = upd H T (.tup [.int (i : Nat), x]) ∧ xs[i]? = some x) :=
  ⟨fun i H hi q => ⟨xs, xs[i], q, by simp [hi]⟩, fun H q => ⟨xs, q, rfl⟩, fun i H v H' _ q ⟨T, x, h1, h2, h3, h4⟩ => ⟨T, x, h1, h2, h3, h4 xs q⟩⟩
def enumD : Nat → List D → List D
  | _, [] => []
  | n, d :: ds => .tup [.int (n : Nat), d] :: enumD (n + 1) ds
omit [Tbs] in
theorem enumD_len : ∀ (n : Nat) (ds : List D), (enumD n ds).length = ds.length
  | _, [] => rfl
  | n, _ :: ds => by unfold enumD; rw [List.length_cons, List.length_cons, enumD_len (n + 1) ds]
omit [Tbs] in
theorem enumD_get : ∀ {n : Nat} {ds : List D} {i : Nat} {d : D}, ds[i]? = some d → (enumD n ds)[i]? = some (.tup [.int ((n + i : Nat) : Int), d])
  | _, [], _, _, h => by simp at h
  | n, d :: ds, 0, _, h => by simp at h; subst h; rfl
  | n, d :: ds, i + 1, _, h => by
    have := enumD_get (n := n + 1) (ds := ds) (i := i) (by simpa using h)
    unfold enumD
    rw [show n + (i + 1) = n + 1 + i by omega]
    simpa using this
def dEnum (d : D) : R (List D) := dSqs d >>= fun ds => if ds.length ≤ sizeLine then .ok (enumD 0 ds) else .bad
theorem yld_e1 {F H0 : Hp} {k1 : Bool} {a : Addr} {xs : List V} {ds : List D} (h1 : SqB k1 K F a xs) (f1 : FzL K F xs ds) : Yld K (ItE1 K k1 a) F H0 .fr (enumD 0 ds) := by
  have w := walk_e1 (K := K) (k1 := k1) (a := a) (xs := xs)
  have hl : xs.length = (enumD 0 ds).length := by rw [enumD_len, f1.length]
  rw [hl] at w
  refine Yld.mk' w (fun H' s _ => h1.same s) fun i H' x H'' hi s1 s2 ⟨T, x1, ex, hT, eH, hx⟩ F' s3 s4 => ?_
  subst ex
  subst eH
  obtain ⟨d, hd, fz⟩ := f1.getV hx
  have xl : Ext F' H' (upd F' T (.tup [.int (i : Nat), x1])) (upd H' T (.tup [.int (i : Nat), x1])) := Ext.laid s4 hT
  have hg := enumD_get (n := 0) hd
  rw [Nat.zero_add] at hg
  exact ⟨_, .tup [.int (i : Nat), d], xl, hg, .tup (SqT.of upd_same) (.cons (.int _) (.cons ((fz.mono s3).mono xl.f) .nil)), rfl⟩
theorem di_enum (U : Uni K E k X) (h1 : DE K E X Γ a t .fr ga) (hg : Gl X "enumerate" := by rfl) (hs : starEach [a] X.env = (false, eval a X.env) :: starEach [] X.env := by rfl) :
    DI K E X Γ (.Tuple elts kk tpos) (.Call (.Name "enumerate" p) [a] [] pos) (iEnumB K (tCons t tNil)) .fr (gJ dEnum ga) := by
  have e0 := U.K
  subst e0
  refine ⟨pi_enumB hg U.bn.enumerate (pa_cons h1.pe pa_nil hs) hs, fun F0 H0 ρ σ F H fps Rr rel q => ?_⟩
  refine h1.se F0 H0 ρ σ F H fps _ rel ((RP.bind q).imp (fun d hd v F1 H1 fp x rv _ => ?_) fun _ z => z)
  obtain ⟨k1, a1, vs, ds, rfl, s1, f1, q1⟩ := seq_ok rv.1 (show RP (dSqs d >>= _) _ _ from hd)
  obtain ⟨c, q1⟩ := RP.ite q1
  refine ⟨k1, a1, vs, rfl, s1.same x.fh, q1 _ F1 H1 x (yld_e1 s1 f1) ?_⟩
  rw [enumD_len]
  omega
end
end DL
namespace DL
open PySem L2
variable [Tbs]
def bor : M → M
  | .ow _ => .bo
  | .pk => .bo
  | .pin _ _ => .bo
  | m => m
theorem Rel.borrow {K : Frag} {F0 H0 F H : Hp} {Γ : List M} {ρ : List D} {σ : St} {fps : Nat → List Addr} (r : Rel K F0 H0 Γ ρ σ F H fps) : Rel K F H (Γ.map bor) ρ σ F H (fun _ => []) where
  fh := r.fh
  f0 := Same.refl _
  h0 := Same.refl _
  tb := r.tb
  new := fun a o q => .inl q
  lg := by rw [List.length_map]; exact r.lg
  lr := r.lr
  sl := fun i => by
    have h := r.sl i
    have e : (Γ.map bor).getD i .un = bor (Γ.getD i .un) := by
      rw [List.getD_eq_getElem?_getD, List.getD_eq_getElem?_getD, List.getElem?_map]
      cases Γ[i]? <;> rfl
    rw [e]
    rcases h with ⟨h, _⟩ | ⟨v, e1, st, rv⟩
    · rw [h]; exact .inl ⟨rfl, rfl⟩
    · refine .inr ⟨v, e1, ?_, ?_⟩
      · cases hm : Γ.getD i .un with
        | un => rw [hm] at st; cases st
        | io _ _ _ => rw [hm] at st; cases st
        | _ => rfl
      · have b := rv.pk r.fh r.h0
        cases hm : Γ.getD i .un with
        | un => rw [hm] at st; cases st
        | fr => rw [hm] at rv; exact ⟨rv.1, rfl⟩
        | bo => exact ⟨b, rfl⟩
        | pk => exact ⟨b, rfl⟩
        | ow m => exact ⟨b, rfl⟩
        | pin m sv => exact ⟨b, rfl⟩
        | io r m sv => rw [hm] at rv; exact (show False from rv).elim
  nd := fun _ => List.nodup_nil
  dj := fun _ _ _ h => nomatch h
  ow := fun _ _ h => nomatch h
section
variable {K : Frag} {E : XK} {X : Cx} {Γ n b c : List M} {a e ix ix2 : Expr} {t te ti ti2 : TE} {m r mi mi2 : M} {g gi gi2 : List D → R D} {p p1 p2 p3 p4 pos : Pos} {k : Nat}
theorem SE.bor (h : SE K E (Γ.map bor) t m g) (hm : m.fz = true) : SE K E Γ t m g := fun F0 H0 ρ σ F H fps Q rel q =>
  h F H ρ σ F H (fun _ => []) Q rel.borrow (q.imp (fun d hd => VP.base hm hd) fun _ z => z)
theorem DE.bor {Γ' : List M} (h : DE K E X Γ' e t m g) (e' : Γ' = Γ.map DL.bor := by rfl) (hm : m.fz = true := by rfl) : DE K E X Γ e t m g := by
  subst e'
  exact ⟨h.pe, h.se.bor hm⟩
omit [Tbs] in
theorem atI_ixN {α : Type} {xs : List α} {k : Int} {j : Nat} {x : α} (h : ixN xs.length k = some j) (h2 : xs[j]? = some x) : atI xs k = some x := by unfold atI; rw [h]; exact h2
end
end DL
namespace DL
open PySem L2
variable [Tbs]
def dIsi2 (T T2 : String) (d : D) : R D := match tyName d with
  | some n => (match kitB n T with
    | some true => .ok (.bl true)
    | some false => (match kitB n T2 with
      | some b => .ok (.bl b)
      | none => .bad)
    | none => .bad)
  | none => .bad
omit [Tbs] in
theorem dIsi2_t (ds : List D) : dIsi2 "tuple" "list" (.tup ds) = .ok (.bl true) := by
  have h : kitB "tuple" "tuple" = some true := by decide +kernel
  unfold dIsi2 tyName
  simp only [h]
omit [Tbs] in
theorem dIsi2_l (ds : List D) : dIsi2 "tuple" "list" (.lst ds) = .ok (.bl true) := by
  have h : kitB "list" "tuple" = some false := by decide +kernel
  have h2 : kitB "list" "list" = some true := by decide +kernel
  unfold dIsi2 tyName
  simp only [h, h2]
omit [Tbs] in
theorem dIsi2_i (i : Int) : dIsi2 "tuple" "list" (.int i) = .ok (.bl false) := by
  have h : kitB "int" "tuple" = some false := by decide +kernel
  have h2 : kitB "int" "list" = some false := by decide +kernel
  unfold dIsi2 tyName
  simp only [h, h2]
omit [Tbs] in
theorem dIsi2_n : dIsi2 "tuple" "list" .non = .ok (.bl false) := by
  have h : kitB "NoneType" "tuple" = some false := by decide +kernel
  have h2 : kitB "NoneType" "list" = some false := by decide +kernel
  unfold dIsi2 tyName
  simp only [h, h2]
omit [Tbs] in
theorem dIsi2_s (x : Str) : dIsi2 "tuple" "list" (.str x) = .ok (.bl false) := by
  have h : kitB "str" "tuple" = some false := by decide +kernel
  have h2 : kitB "str" "list" = some false := by decide +kernel
  unfold dIsi2 tyName
  simp only [h, h2]
omit [Tbs] in
theorem dIsi_tl (ds : List D) : dIsi "tuple" (.lst ds) = .ok (.bl false) := by
  have h : kitB "list" "tuple" = some false := by decide +kernel
  unfold dIsi tyName
  simp only [h]
omit [Tbs] in
theorem dIsi_ti (i : Int) : dIsi "tuple" (.int i) = .ok (.bl false) := by
  have h : kitB "int" "tuple" = some false := by decide +kernel
  unfold dIsi tyName
  simp only [h]
omit [Tbs] in
theorem dIsi_tn : dIsi "tuple" .non = .ok (.bl false) := by
  have h : kitB "NoneType" "tuple" = some false := by decide +kernel
  unfold dIsi tyName
  simp only [h]
omit [Tbs] in
theorem dIsi_ts (x : Str) : dIsi "tuple" (.str x) = .ok (.bl false) := by
  have h : kitB "str" "tuple" = some false := by decide +kernel
  unfold dIsi tyName
  simp only [h]
omit [Tbs] in
theorem dIsi_si (i : Int) : dIsi "str" (.int i) = .ok (.bl false) := by
  have h : kitB "int" "str" = some false := by decide +kernel
  unfold dIsi tyName
  simp only [h]
omit [Tbs] in
theorem dIsi_sn : dIsi "str" .non = .ok (.bl false) := by
  have h : kitB "NoneType" "str" = some false := by decide +kernel
  unfold dIsi tyName
  simp only [h]
omit [Tbs] in
theorem dIsi_ss (x : Str) : dIsi "str" (.str x) = .ok (.bl true) := by
  have h : kitB "str" "str" = some true := by decide +kernel
  unfold dIsi tyName
  simp only [h]
omit [Tbs] in
theorem dIsi_in : dIsi "int" .non = .ok (.bl false) := by
  have h : kitB "NoneType" "int" = some false := by decide +kernel
  unfold dIsi tyName
  simp only [h]
omit [Tbs] in
theorem dIsi_it (ds : List D) : dIsi "int" (.tup ds) = .ok (.bl false) := by
  have h : kitB "tuple" "int" = some false := by decide +kernel
  unfold dIsi tyName
  simp only [h]
omit [Tbs] in
theorem dIsi_il (ds : List D) : dIsi "int" (.lst ds) = .ok (.bl false) := by
  have h : kitB "list" "int" = some false := by decide +kernel
  unfold dIsi tyName
  simp only [h]
omit [Tbs] in
theorem dIsi_is (x : Str) : dIsi "int" (.str x) = .ok (.bl false) := by
  have h : kitB "str" "int" = some false := by decide +kernel
  unfold dIsi tyName
  simp only [h]
omit [Tbs] in
theorem dIsi_ib (b : Bool) : dIsi "int" (.bl b) = .ok (.bl true) := by
  have h : kitB "bool" "int" = some true := by decide +kernel
  unfold dIsi tyName
  simp only [h]
omit [Tbs] in
theorem dIsi_bb (b : Bool) : dIsi "bool" (.bl b) = .ok (.bl true) := by
  have h : kitB "bool" "bool" = some true := by decide +kernel
  unfold dIsi tyName
  simp only [h]
end DL
namespace DL
open PySem L2
end DL
namespace DL
open PySem PySem.Spec PyProof.Rows L2 HT
end DL
namespace DL
open PySem L2
variable [Tbs]
section
variable {K : Frag} {E : XK} {X : Cx} {Γ n b c : List M} {r m : M} {k : Nat} {pos p p2 p3 : Pos} {e : Expr} {t : TE} {g : List D → R D}
theorem Rel.free {F0 H0 F H : Hp} {ρ : List D} {σ : St} {fps : Nat → List Addr} {i : Nat} {z : Option V} (r : Rel K F0 H0 Γ ρ σ F H fps) (hi : Γ[i]? = some .un) : Rel K F0 H0 Γ ρ (σ.set i z) F H fps :=
  ⟨r.fh, r.f0, r.h0, r.tb, r.new, by rw [List.length_set]; exact r.lg, by rw [List.length_set]; exact r.lr, fun j => by
    by_cases e : j = i
    · subst e
      have h := r.sl j
      have hm : Γ.getD j .un = .un := by rw [List.getD_eq_getElem?_getD, hi]; rfl
      rw [hm] at h ⊢
      rcases h with h | ⟨v, _, st, _⟩
      · exact .inl h
      · cases st
    · have : (σ.set i z).getD j none = σ.getD j none := by rw [List.getD_eq_getElem?_getD, List.getD_eq_getElem?_getD, List.getElem?_set_ne (Ne.symm e)]
      rw [this]
      exact r.sl j, r.nd, r.dj, r.ow⟩
omit [Tbs] in
theorem set_self {Γ : List M} {i : Nat} {m : M} (h : Γ[i]? = some m) : Γ.set i m = Γ := by
  refine List.ext_getElem? fun j => ?_
  rw [List.getElem?_set]
  by_cases e : i = j
  · subst e
    rw [if_pos rfl, if_pos (List.getElem?_eq_some_iff.mp h).1, h]
  · rw [if_neg e]
end
def cxOfL : List Addr → Nat → Addr
  | [], _ => 0
  | a :: _, 0 => a
  | _ :: as, n + 1 => cxOfL as n
def spT (K : Frag) : Sp := fun vs H Q _ => ∃ (a : Addr) (ns : List Int), vs = [.ref a] ∧ SqL K H a (ns.map V.int) ∧ ns.length ≤ 63 ∧ (∀ z ∈ ns, Builtin.Int.intBits z ≤ 1048576) ∧ TbsOk H ∧ ∀ H', Q (.bl true) H'
theorem spT_of {K : Frag} {f : List D → R D} (hf : ∀ ns : List Int, ns.length ≤ 63 → (∀ z ∈ ns, Builtin.Int.intBits z ≤ 1048576) → f [.lst (ns.map D.int)] = .ok (.bl true)) : ∀ vs H Q E, spT K vs H Q E → spD K [.fr] .fr f vs H Q E := fun vs H Q E ⟨a, ns, e, hS, hl, hb, tb, q⟩ => by
  subst e
  refine ⟨H, [.lst (ns.map D.int)], Same.refl _, tb, .cons ⟨.lst hS (FzL.ints ns), rfl⟩ .nil, ?_⟩
  rw [hf ns hl hb]
  intro v F' H' fp x rv fr
  rw [(Bo.fz (H := H') rv.1).blOf]
  exact q H'
end DL
namespace DL
open PySem L2
variable [Tbs]
def flatD : D → Bool
  | .non => true
  | .bl _ => true
  | .int _ => true
  | .str _ => true
  | _ => false
def toV : D → V
  | .non => .non
  | .bl b => .bl b
  | .int i => .int i
  | .str x => .str x
  | _ => .non
section
variable {K : Frag} {H F : Hp}
omit [Tbs] in
theorem Bo.toV {v : V} {d : D} (h : Bo K H F v d) (f : flatD d = true) : v = toV d ∧ flatV v = true := by
  cases d with
  | non => obtain rfl := h.nonOf; exact ⟨rfl, rfl⟩
  | bl b => obtain rfl := h.blOf; exact ⟨rfl, rfl⟩
  | int i => obtain rfl := h.intOf; exact ⟨rfl, rfl⟩
  | str x => obtain rfl := h.strOf; exact ⟨rfl, rfl⟩
  | _ => cases f
omit [Tbs] in
theorem BoL.toV : ∀ {vs : List V} {ds : List D}, BoL K H F vs ds → ds.all flatD = true → vs = ds.map toV ∧ vs.all flatV = true
  | _, _, .nil, _ => ⟨rfl, rfl⟩
  | _, _, .cons h hs, f => by
    rw [List.all_cons, Bool.and_eq_true] at f
    obtain ⟨h1, h2⟩ := h.toV f.1
    obtain ⟨h3, h4⟩ := BoL.toV hs f.2
    exact ⟨by rw [List.map_cons, ← h1, ← h3], by rw [List.all_cons, h2, h4]; rfl⟩
end
def dInG (neg : Bool) : D → D → R D
  | x, .tup ds => if flatD x = true ∧ ds.all flatD = true then .ok (.bl (if neg then !inV (toV x) (ds.map toV) else inV (toV x) (ds.map toV))) else .bad
  | x, .lst ds => if flatD x = true ∧ ds.all flatD = true then .ok (.bl (if neg then !inV (toV x) (ds.map toV) else inV (toV x) (ds.map toV))) else .bad
  | _, _ => .bad
def dIn : D → D → R D := dInG false
def dNotIn : D → D → R D := dInG true
omit [Tbs] in
theorem dInG_x {neg : Bool} : ∀ x y e, dInG neg x y ≠ .exc e := by
  intro x y e h
  cases y <;> simp only [dInG] at h <;> first | (cases h; done) | (split at h <;> cases h)
theorem so_inG {K : Frag} {neg : Bool} : SO2 K (rIn K neg) .fr (dInG neg) := by
  intro H0 F H x y dx dy Q eF e0 hx hy q
  cases dy with
  | tup ds =>
    obtain ⟨⟨c1, c2⟩, q⟩ := RP.ite q
    obtain ⟨a, vs, rfl, h1, h2⟩ := hy.tupOf
    obtain ⟨rfl, f1⟩ := hx.toV c1
    obtain ⟨rfl, f2⟩ := (h2.bo (H := H)).toV c2
    exact ⟨a, _, rfl, .inr (Same.sqt eF h1), f1, f2, VP.old q eF (.bl _)⟩
  | lst ds =>
    obtain ⟨⟨c1, c2⟩, q⟩ := RP.ite q
    obtain ⟨a, vs, rfl, h1, h2⟩ := hy.listOf eF
    obtain ⟨rfl, f1⟩ := hx.toV c1
    obtain ⟨rfl, f2⟩ := h2.toV c2
    exact ⟨a, _, rfl, .inl h1, f1, f2, VP.old q eF (.bl _)⟩
  | _ => exact (show False from q).elim
section
variable {K : Frag} {E : XK} {X : Cx} {Γ : List M} {a b : Expr} {ta tb : TE} {ma mb : M} {ga gb : List D → R D} {pos : Pos} {k : Nat}
theorem dt_in (U : Uni K E k X) (ha : DE K E X Γ a ta ma ga) (hb : DE K E X Γ b tb mb gb) (hm : behindInMarks .In b = false := by with_unfolding_all rfl) : DT K E X Γ (.Compare a [.In] [b] pos) (tTest (tOp (rIn K false) ta tb)) (gB (g2 dIn ga gb)) := by
  have e := U.K
  subst e
  exact DT.cmp op_in_seq so_inG dInG_x hm ha hb
theorem dt_nin (U : Uni K E k X) (ha : DE K E X Γ a ta ma ga) (hb : DE K E X Γ b tb mb gb) (hm : behindInMarks .NotIn b = false := by with_unfolding_all rfl) : DT K E X Γ (.Compare a [.NotIn] [b] pos) (tTest (tOp (rIn K true) ta tb)) (gB (g2 dNotIn ga gb)) := by
  have e := U.K
  subst e
  exact DT.cmp op_notIn_seq so_inG dInG_x hm ha hb
end
def CsV (K : Frag) (u : Value) (v : V) (d : D) : Prop := RelV v u ∧ ∀ F : Hp, Fz K F v d
inductive CsL (K : Frag) : List Value → List V → List D → Prop
  | nil : CsL K [] [] []
  | cons {u : Value} {v : V} {d : D} {us : List Value} {vs : List V} {ds : List D} : CsV K u v d → CsL K us vs ds → CsL K (u :: us) (v :: vs) (d :: ds)
omit [Tbs] in
theorem CsV.int {K : Frag} {i : Int} {t : Tok} : CsV K (.int i t) (.int i) (.int i) := ⟨⟨t, rfl⟩, fun _ => .int i⟩
omit [Tbs] in
theorem CsV.str {K : Frag} {z : Str} {t : Tok} : CsV K (.str z t) (.str z) (.str z) := ⟨⟨t, rfl⟩, fun _ => .str z⟩
omit [Tbs] in
theorem CsL.of {K : Frag} : ∀ {us : List Value} {vs : List V} {ds : List D}, CsL K us vs ds → Vals vs us ∧ ∀ F : Hp, FzL K F vs ds
  | _, _, _, .nil => ⟨.nil, fun _ => .nil⟩
  | _, _, _, .cons h hs => ⟨.cons h.1 (CsL.of hs).1, fun F => .cons (h.2 F) ((CsL.of hs).2 F)⟩
omit [Tbs] in
theorem CsV.tup {K : Frag} {a : Addr} {od : Option Addr} {its : List Value} {n : Nat} {sl : Array (Option Value)} {vs : List V} {ds : List D} (h : K.lookup a = some ⟨.type "tuple", od, .seq its.toArray n, sl⟩) (hl : its.length ≤ 1000) (hs : CsL K its vs ds) : CsV K (.ref a) (.ref a) (.tup ds) :=
  ⟨rfl, fun F => .tup (.inr ⟨_, its.toArray, n, h, rfl, rfl, by rw [List.size_toArray, sizeLine_eq]; omega, hs.of.1⟩) (hs.of.2 F)⟩
omit [Tbs] in
theorem Cst.of {K : Frag} {mg : Str → Option Value} {x : Str} {u : Value} {v : V} {d : D} (h : mg x = some u) (c : CsV K u v d) : Cst K mg x v d := ⟨u, h, c.1, c.2⟩
end DL
namespace DL
open PySem PySem.Spec PyProof.Rows L2
end DL
namespace DL
open PySem L2
variable [Tbs]
/-- the def at a keeps that promise -/
def FnA (P : Program) (w : World) (K : Frag) (mg : Str → Option Value) (base : Heap) (k : Nat) (a : Addr) (ms : List M) (mr : M) (f : List D → R D) : Prop :=
  ∃ fd ps, FnOk P w K mg base (L2.CX P w) k a fd ps (spD K ms mr f) ∧ keepIn K (.ref a) = true ∧ Binds K fd ps []
omit [Tbs] in
theorem lookup_memF {α : Type} {tab : List (Addr × α)} {a : Addr} {d : α} (h : tab.lookup a = some d) : (a, d) ∈ tab := by
  induction tab with
  | nil => cases h
  | cons q tab ih =>
    obtain ⟨b, z⟩ := q
    rw [List.lookup_cons] at h
    by_cases e : a = b
    · subst e
      rw [beq_self_eq_true] at h
      cases h
      exact List.mem_cons_self
    · rw [beq_eq_false_iff_ne.mpr e] at h
      exact List.mem_cons_of_mem _ (ih h)
end DL
namespace DL
open PySem PySem.Spec PyProof.Rows L2 HT
variable [Tbs]
/-- where such a slice begins, how many places it has -/
def stepA (n : Nat) (lo hi : Option Int) (c : Int) : Int := (Builtin.Slice.sliceAdjust lo hi c (n : Int)).1
def stepN (n : Nat) (lo hi : Option Int) (c : Int) : Nat := Builtin.Slice.slicePlaces (Builtin.Slice.sliceAdjust lo hi c (n : Int)).1 (Builtin.Slice.sliceAdjust lo hi c (n : Int)).2 c
def stepL {α : Type} (xs : List α) (lo hi : Option Int) (c : Int) : List α := (List.range (stepN xs.length lo hi c)).filterMap fun (k : Nat) => xs[(stepA xs.length lo hi c + (k : Int) * c).toNat]?
def stepWhole (n : Nat) (lo hi : Option Int) (c : Int) : Prop := stepA n lo hi c = 0 ∧ c = 1 ∧ stepN n lo hi c = n
instance (n : Nat) (lo hi : Option Int) (c : Int) : Decidable (stepWhole n lo hi c) := inferInstanceAs (Decidable (_ ∧ _ ∧ _))
section
variable {X : Cx} {e st : Expr} {lo hi : Option Expr} {te : TE} {tl th ts : TO} {pos p2 : Pos}
def rSlS (K : Frag) : V → Option Int → Option Int → Option Int → Hp → VK → Prop := fun x lo hi st H Q => ∃ a xs c, x = .ref a ∧ st = some c ∧ c ≠ 0 ∧ SqT K H a xs ∧ (stepL xs lo hi c).length ≤ sizeLine ∧
  (stepWhole xs.length lo hi c → Q (.ref a) H) ∧ (¬ stepWhole xs.length lo hi c → ∀ p, H p = none → Q (.ref p) (upd H p (.tup (stepL xs lo hi c))))
end
omit [Tbs] in
theorem FzL.step {K : Frag} {F : Hp} {vs : List V} {ds : List D} (h : FzL K F vs ds) : ∀ (f : List Nat) (g : Nat → Nat), FzL K F (f.filterMap fun k => vs[g k]?) (f.filterMap fun k => ds[g k]?)
  | [], g => .nil
  | k :: f, g => by
    rw [List.filterMap_cons, List.filterMap_cons]
    have hl := h.length
    cases hv : vs[g k]? with
    | none =>
      have hu : ds[g k]? = none := by
        rw [List.getElem?_eq_none_iff] at hv ⊢
        omega
      rw [hu]
      exact FzL.step h f g
    | some v =>
      obtain ⟨d, hd, fz⟩ := h.getV hv
      rw [hd]
      exact .cons fz (FzL.step h f g)
end DL
namespace DL
open PySem PySem.Spec PyProof.Rows L2 LamX NdefX
end DL
namespace DL
open PySem PySem.Spec PyProof.Rows L2 LamX NdefX
section
variable {X : Cx} {pins : List (Addr × Obj)} {σ : L2.St} {H : Hp} {s : Shared}
/-- a record of the built-in's own -/
structure Own (X : Cx) (pins : List (Addr × Obj)) (b : Addr) : Prop where
  nl : b ≠ X.env.locals
  nf : b ∉ X.fs
  ag : b ∈ X.ex ∨ X.s_0.heap.objs.size ≤ b
  nc : ∀ x c, X.env.cells.lookup x = some c → c ≠ b
  np : ∀ p ∈ X.pn ++ pins, p.1 ≠ b
theorem Own.new (I : Inv X pins σ H s) {b : Addr} (h : s.heap.objs.size ≤ b) : Own X pins b := by
  obtain ⟨_, a2, a3, a4, a5, a6⟩ := I.fpOk (H' := fun _ => none) h rfl
  exact ⟨a2, a3, a4, a5, a6⟩
end
end DL
namespace DL
open PySem PySem.Spec PyProof.Rows L2 LamX NdefX
end DL
namespace DL
open PySem PySem.Spec PyProof.Rows L2
variable [Tbs]
section
variable {K : Frag} {E : XK} {X : Cx} {Γ : List M} {o e : Expr} {es : List Expr} {to : TE} {t : TA} {g : List D → R D} {gr : List D → R (List D)} {pos p apos : Pos} {i j k : Nat} {x n tx m : Str}
/-- a class whose method m is f -/
structure MEnt (P : Program) (w : World) (K : Frag) (mg : Str → Option Value) (base : Heap) (m : Str) (j : Nat) (ms : List DL.M) (mr : DL.M) (q : Addr × (List D → R D)) : Prop where
  c : Cls K q.1
  h : ∃ f fd ps, Meth K q.1 m f ∧ FnOk P w K mg base (L2.CX P w) j f fd ps (spD K (.fr :: ms) mr q.2) ∧ Binds K fd ps []
end
theorem MEnt.of {P : Program} {w : World} {K : Frag} {mg : Str → Option Value} {base : Heap} {m : Str} {i j : Nat} {ms : List DL.M} {mr : DL.M} {C f : Addr} {fd : FuncData} {ps : List Str} {g : List D → R D} (c : Cls K C) (hm : Meth K C m f) (F : FnOk P w K mg base (L2.CX P w) i f fd ps (spD K (.fr :: ms) mr g)) (h : i ≤ j) (b : Binds K fd ps []) :
    MEnt P w K mg base m j ms mr (C, g) := ⟨c, f, fd, ps, hm, F.mono h, b⟩
end DL
namespace DL
open PySem PySem.Spec PyProof.Rows L2 LamX
@[reducible] def tbsOf (T : List (Addr × Str)) : Tbs := ⟨T⟩
/-- the tables at the entry: empty -/
theorem tbs_start {T : List (Addr × Str)} {cs : List (Addr × Addr)} {H : Hp} (h : ∀ p ∈ cs, H p.2 = some (.tbl #[])) (hT : ∀ p ∈ T, ∃ c, (c, p.1) ∈ cs) : @TbsOk (tbsOf T) H := fun p hp =>
  (hT p hp).elim fun c hc => TabS.nil (h _ hc)
end DL
namespace DL
open PySem L2
end DL
namespace DL
open PySem L2
variable [Tbs]
def gtU (r : List D → List D → Option (List D)) : D → List D → Option (List D) := fun d ρ => match d with
  | .tup ds => r ds ρ
  | .lst ds => r ds ρ
  | _ => none
section
variable {K : Frag} {E : XK} {X : Cx} {Γ : List M} {ix : Expr} {ti : TE} {mi : M} {gi : List D → R D} {pos p1 : Pos} {k : Nat}
theorem se_ixO {i : Nat} (hi : Γ[i]? = some (.ow .fr)) (h2 : SE K E Γ ti mi gi) : SE K E Γ (tOp (rIx K) (tVar i) ti) .fr (g2 dIx (gv i) gi) := fun F0 H0 ρ σ F H fps Q rel q => by
  obtain ⟨v, hv, st, rv⟩ := rel.get hi (fun z => nomatch z)
  refine ⟨v, hv, ?_⟩
  have q0 : RP (gi ρ >>= fun dy => dIx (ρ.getD i .non) dy) _ _ := q
  refine h2.pk F0 H0 ρ σ F H fps _ rel ((RP.bind q0).imp (fun dy q1 y F1 H1 fpy x rvy fy => ?_) fun _ z => z)
  have rv1 := rv.grow x.f x.h
  generalize ρ.getD i .non = d at rv1 q1
  cases d with
  | lst ds =>
    cases dy with
    | int k =>
      obtain ⟨d, hd, hq⟩ := oR_ok q1
      obtain rfl := rvy.1.intOf
      obtain ⟨a, vs, fps', rfl, ha, al, e⟩ := Rv.ow_lst rv1
      have fz := (Al.fr al).1
      obtain ⟨j, hj, hx⟩ := atI_len fz.length hd
      obtain ⟨w, hw, hf⟩ := fz.get hj
      exact .inl ⟨a, vs, k, w, rfl, rfl, SqL.of ha, hx w hw, hq w F1 H1 [] x ⟨hf, rfl⟩ Fresh.nil⟩
    | _ => exact (show False from q1).elim
  | tup ds =>
    cases dy with
    | int k =>
      obtain ⟨d, hd, hq⟩ := oR_ok q1
      obtain rfl := rvy.1.intOf
      obtain ⟨a, vs, rfl, h1, fz⟩ := Fz.tupOf (show Fz K F1 v (.tup ds) from rv1.1)
      obtain ⟨j, hj, hx⟩ := atI_len fz.length hd
      obtain ⟨w, hw, hf⟩ := fz.get hj
      exact .inr (.inl ⟨a, vs, k, w, rfl, rfl, Same.sqt x.fh h1, hx w hw, hq w F1 H1 [] x ⟨hf, rfl⟩ Fresh.nil⟩)
    | _ => exact (show False from q1).elim
  | str z =>
    cases dy with
    | int k =>
      obtain ⟨c, q1⟩ := RP.ite (show RP (if _ then _ else _) _ _ from q1)
      obtain ⟨d, hd, hq⟩ := oR_ok q1
      obtain rfl := rvy.1.intOf
      obtain rfl : v = .str z := (Bo.fz (H := H1) (show Fz K F1 v (.str z) from rv1.1)).strOf
      obtain ⟨ch, hc, rfl⟩ := Option.map_eq_some_iff.mp hd
      exact .inr (.inr ⟨z, k, ch, rfl, rfl, c, hc, hq _ F1 H1 [] x ⟨.str _, rfl⟩ Fresh.nil⟩)
    | _ => exact (show False from q1).elim
  | _ => cases dy <;> exact (show False from q1).elim
theorem de_ixO (i : Nat) {x : Str} (U : Uni K E k X) (h2 : DE K E X Γ ix ti mi gi) (hi : Γ[i]? = some (.ow .fr) := by rfl) (hN : X.N[i]? = some x := by rfl) (hv : Vis X.env.scope x := by first | exact Or.inl rfl | exact Or.inr (Or.inl rfl) | exact Or.inr (Or.inr rfl))
    (hd : (x == ("__debug__" : Str)) = false := by decide) (hcd : (x == ("__classdict__" : Str)) = false := by decide) (hpl : PlainIx ix := by exact fun _ _ => rfl) :
    DE K E X Γ (.Subscript (.Name x p1) ix pos) (tOp (rIx K) (tVar i) ti) .fr (g2 dIx (gv i) gi) := by
  have e0 := U.K
  subst e0
  exact ⟨pe_ix ix_seq (pe_var hN hv hd hcd) h2.pe hpl, se_ixO hi h2.se⟩
end
end DL
namespace DL
open PySem L2
end DL
namespace DL
open PySem L2
end DL
namespace DL
open PySem L2
end DL
namespace DL
open PySem L2 PyProof.Rows
/-- what a def promises where nothing is being shown -/
structure FnG (P : Program) (w : World) (K : Frag) (mg : Str → Option Value) (base : Heap) (C : CXT) (k : Nat) (f : Addr) (fd : FuncData) (ps : List Str) (sp : Sp) : Prop where
  len : ∀ vs H Q E, sp vs H Q E → vs.length = ps.length
  run : ∀ (B : Around), B.guards = some [] → Room k B → ∀ (out : List Env) (s : Shared) (H : Hp) (as : Args) (us : List Value) (vs : List V) (Q : VK) (E : XK), Env0 P w K mg base B out s H → BindsTo s fd as (ps.zip us) → Vals vs us → sp vs H Q E →
    codeAny (model P w) B (.call (.ref f) as) (CR C out P w H s Q E) s
theorem FnG.weak {P : Program} {w : World} {K : Frag} {mg : Str → Option Value} {base : Heap} {C : CXT} {k : Nat} {f : Addr} {fd : FuncData} {ps : List Str} {sp sp' : Sp} (F : FnG P w K mg base C k f fd ps sp) (h : ∀ vs H Q E, sp' vs H Q E → sp vs H Q E) : FnG P w K mg base C k f fd ps sp' :=
  ⟨fun vs H Q E q => F.len vs H Q E (h _ _ _ _ q), fun B hB hr out s H as us vs Q E e b r q => F.run B hB hr out s H as us vs Q E e b r (h _ _ _ _ q)⟩
variable [Tbs]
end DL
namespace DL
open PySem L2
variable [Tbs]
def dStrI : List D → R D
  | [.int i] => if i.natAbs.log2 < 1920 then .ok (.str (toString i)) else .bad
  | _ => .bad
def tsD : List D → Option (List Str)
  | [] => some []
  | .str y :: ds => (tsD ds).map (y :: ·)
  | _ :: _ => none
omit [Tbs] in
theorem tsD_map : ∀ ys : List Str, tsD (ys.map D.str) = some ys
  | [] => rfl
  | y :: ys => by show (tsD (ys.map D.str)).map (y :: ·) = _; rw [tsD_map ys]; rfl
omit [Tbs] in
theorem tsD_eq : ∀ {ds : List D} {ys : List Str}, tsD ds = some ys → ds = ys.map D.str
  | [], ys, h => by cases h; rfl
  | .str y :: ds, ys, h => by
    obtain ⟨zs, h1, rfl⟩ := Option.map_eq_some_iff.mp (show (tsD ds).map (y :: ·) = some ys from h)
    rw [tsD_eq h1]; rfl
  | .non :: _, _, h => nomatch h
  | .bl _ :: _, _, h => nomatch h
  | .int _ :: _, _, h => nomatch h
  | .tup _ :: _, _, h => nomatch h
  | .lst _ :: _, _, h => nomatch h
  | .cl _ :: _, _, h => nomatch h
  | .ex _ _ :: _, _, h => nomatch h
  | .ob _ _ _ :: _, _, h => nomatch h
def dJoin : D → D → R D
  | .str a, .lst ds => match tsD ds with
    | some ys => if (ys.map (·.length)).sum + ys.length * a.length ≤ 16777216 then .ok (.str (Txt.join a ys)) else .bad
    | none => .bad
  | _, _ => .bad
def gJn (go ga : List D → R D) : List D → R D := fun ρ => go ρ >>= fun d => match d with
  | .str z => ga ρ >>= fun e => dJoin (.str z) e
  | _ => .bad
section
variable {K : Frag} {H F : Hp}
omit [Tbs] in
theorem BoL.textsOf : ∀ {ys : List Str} {vs : List V}, BoL K H F vs (ys.map D.str) → vs = ys.map V.str
  | [], _, .nil => rfl
  | y :: ys, _, .cons h hs => by rw [h.strOf, BoL.textsOf hs]; rfl
theorem sc_strI : SC K (fun xs H Q => ∃ i : Int, xs = [.int i] ∧ i.natAbs.log2 < 1920 ∧ Q (.str (toString i)) H) [.pk] .fr dStrI := by
  intro H0 F H vs ds Q eF e0 rvs q
  obtain ⟨v, d, rfl, rfl, rv⟩ := rvs.one
  cases d with
  | int i =>
    obtain ⟨c, q1⟩ := RP.ite (show RP (if i.natAbs.log2 < 1920 then _ else R.bad) _ _ from q)
    obtain rfl := rv.1.intOf
    exact ⟨i, rfl, c, VP.old q1 eF (.str _)⟩
  | _ => exact (show False from q).elim
end
section
variable {K : Frag} {E : XK} {X : Cx} {Γ : List M} {a o e v1 v2 : Expr} {es rest : List Expr} {ta to te t : TE} {ts : List TE} {m m2 : M} {g go ga : List D → R D} {gs : List (List D → R D)} {p apos pos : Pos} {k : Nat}
/-- str(e), e a number -/
theorem de_strI (U : Uni K E k X) (h : DE K E X Γ a ta m ga) (hm : X.mg "str" = none) (hg : Gl X "str" := by rfl) (he : starEach [a] X.env = (false, eval a X.env) :: starEach [] X.env := by rfl) : DE K E X Γ (.Call (.Name "str" p) [a] [] pos) (tCB (fun xs H Q => ∃ i : Int, xs = [.int i] ∧ i.natAbs.log2 < 1920 ∧ Q (.str (toString i)) H) (tCons ta tNil)) .fr (gAll dStrI (gsC ga gsN)) :=
  DE.callTy call_str_int sc_strI hm (by decide +kernel) (da_p h da_nil he) hg (by decide) (by decide) he rfl
/-- o.join(e), e a list of texts -/
theorem de_join (U : Uni K E k X) (ho : DE K E X Γ o to m go) (he : DE K E X Γ e te m2 ga) (hs : starEach [e] X.env = [(false, eval e X.env)] := by rfl) (hbase : attributeBase o "join" X.env (eval o X.env) = eval o X.env := by rfl) (hline : (apos.endLine == pos.line) = true := by rfl) :
    DE K E X Γ (.Call (.Attribute o "join" apos) [e] [] pos) (tM1 (fun x xs H Q => ∃ a p, ∃ ys : List Str, x = .str a ∧ xs = [.ref p] ∧ (SqL K H p (ys.map V.str) ∨ SqT K H p (ys.map V.str)) ∧ (ys.map (·.length)).sum + ys.length * a.length ≤ 16777216 ∧ Q (.str (Txt.join a ys)) H) to te) .fr (gJn go ga) := by
  have e0 := U.K
  subst e0
  refine ⟨pe_join ho.pe he.pe hs hbase hline, fun F0 H0 ρ σ F H fps Q r q => ?_⟩
  refine ho.se.pk F0 H0 ρ σ F H fps _ r ((RP.bind q).imp (fun d q1 v F1 H1 fp x rv f => ?_) fun _ z => z)
  cases d with
  | str z =>
    refine ⟨⟨z, rv.1.strOf⟩, ?_⟩
    refine he.se.pk F0 H0 ρ σ F1 H1 fps _ (r.ext x) ((RP.bind (show RP (ga ρ >>= fun e => dJoin (.str z) e) _ _ from q1)).imp (fun d2 q2 w F2 H2 fp2 x2 rv2 f2 => ?_) fun _ z => z.on x)
    cases d2 with
    | lst ds =>
      have q2 : RP (match tsD ds with
        | some ys => if (ys.map (·.length)).sum + ys.length * z.length ≤ 16777216 then R.ok (D.str (Txt.join z ys)) else .bad
        | none => .bad) (fun d => VP X.K H0 F H .fr d Q) _ := q2
      cases hs : tsD ds with
      | none => rw [hs] at q2; exact (show False from q2).elim
      | some ys =>
        rw [hs] at q2
        obtain ⟨c, q3⟩ := RP.ite q2
        obtain rfl := tsD_eq hs
        obtain ⟨l, vs, rfl, h1, h2⟩ := rv2.1.listOf x2.fh
        obtain rfl := h2.textsOf
        exact ⟨z, l, ys, rv.1.strOf, rfl, .inl h1, c, VP.old (VP.on (show VP X.K H0 F H .fr _ Q from q3) (x.trans x2)) x2.fh (.str _)⟩
    | _ => exact (show False from q2).elim
  | _ => exact (show False from q1).elim
end
end DL
namespace L2
open PySem PySem.Spec PyProof.Rows
/-- a text times an int -/
def rSMul : R2 := fun x y H Q => ∃ (a : Str) (n : Int), x = .str a ∧ y = .int n ∧ -(2 ^ 63) ≤ n ∧ n < 2 ^ 63 ∧ a.length * n.toNat ≤ 16777216 ∧ Q (.str (Txt.mul a n)) H
theorem mulOk_of {a : Str} {n : Int} (h1 : -(2 ^ 63) ≤ n) (h2 : n < 2 ^ 63) (h : a.length * n.toNat ≤ 16777216) : MulOk a n := by
  refine ⟨by simp only [Bool.or_eq_false_iff, decide_eq_false_iff_not]; omega, fun c _ z => ?_, fun c _ => ?_⟩
  · have e : ((a.length * n.toNat : Nat) : Int) = (a.length : Int) * n := by rw [Int.natCast_mul, Int.toNat_of_nonneg (by omega)]
    have e2 : (a.length : Int) * n ≤ 2 ^ 63 - 1 := by omega
    have e3 : (a.length : Int) ≤ (2 ^ 63 - 1) / n := (Int.le_ediv_iff_mul_le (by omega)).mpr e2
    omega
  · unfold PySem.Builtin.Str.tooLong sizeLine
    exact decide_eq_false (by omega)
theorem op_smul {X : Cx} : OpR X (binaryOp .Mult) rSMul := by
  intro pins s σ H x y v u Q I rx ry h
  obtain ⟨a, n, rfl, rfl, h1, h2, h3, q⟩ := h
  obtain ⟨t, rfl⟩ := rx
  obtain ⟨t', rfl⟩ := ry
  exact PySem.SB.mul (mulOk_of h1 h2 h3) fun t2 k => ⟨.str _, H, I.tok k, ⟨t2, rfl⟩, q⟩
end L2
namespace DL
open PySem L2
variable [Tbs]
def gT2 (f : Str → D → R D) (go ga : List D → R D) : List D → R D := fun ρ => go ρ >>= fun d => match d with
  | .str z => ga ρ >>= fun e => f z e
  | _ => .bad
def dStw (a : Str) : D → R D
  | .str b => .ok (.bl (Txt.startswith a b))
  | _ => .bad
def dStrip (a : Str) : D → R D
  | .str b => if a.length ≤ sizeLine then .ok (.str (Txt.stripChars a b)) else .bad
  | _ => .bad
def dSplit (a : Str) : D → R D
  | .str b => if (b.length == 0) = false ∧ a.length + 2 ≤ sizeLine then .ok (.lst ((Txt.split a b).map .str)) else .bad
  | _ => .bad
def dInS (neg : Bool) : D → D → R D
  | .str x, .str z => match x.cps.toList with
    | [c] => .ok (.bl (decide (c ∈ z.cps.toList) ^^ neg))
    | _ => .bad
  | _, _ => .bad
def dSMul : D → D → R D
  | .str a, .int n => if -(2 ^ 63) ≤ n ∧ n < 2 ^ 63 ∧ a.length * n.toNat ≤ 16777216 then .ok (.str (Txt.mul a n)) else .bad
  | _, _ => .bad
def dIntT : List D → R D
  | [.str a] => if a.length ≤ 640 then oR ((PySem.intText? a).map .int) else .bad
  | _ => .bad
section
variable {K : Frag} {E : XK} {X : Cx} {Γ : List M} {a o e b : Expr} {ta to te tb : TE} {m m2 ma mb : M} {g go ga gb : List D → R D} {p apos pos : Pos} {k : Nat} {r : V → List V → Hp → VK → Prop}
theorem se_t1 {mr : M} {f : Str → D → R D} (hr : ∀ H0 F H a y d Q, Same F H → Same H0 H → Bo K H F y d → RP (f a d) (fun d => VP K H0 F H mr d Q) (fun _ => False) → r (.str a) [y] H Q) (hx : ∀ a d x, f a d ≠ .exc x)
    (ho : SE K E Γ to m go) (he : SE K E Γ te m2 ga) : SE K E Γ (tM1 r to te) mr (gT2 f go ga) := fun F0 H0 ρ σ F H fps Q rel q => by
  refine ho.pk F0 H0 ρ σ F H fps _ rel ((RP.bind q).imp (fun d q1 v F1 H1 fp x rv f1 => ?_) fun _ z => z)
  cases d with
  | str z =>
    have ev := rv.1.strOf
    subst ev
    refine ⟨⟨z, rfl⟩, ?_⟩
    refine he.pk F0 H0 ρ σ F1 H1 fps _ (rel.ext x) ((RP.bind (show RP (ga ρ >>= fun e => f z e) _ _ from q1)).imp (fun d2 q2 w F2 H2 fp2 x2 rv2 f2 => ?_) fun _ z => z.on x)
    refine hr H0 F2 H2 z w d2 Q x2.fh (rel.h0.trans (x.h.trans x2.h)) rv2.1 ?_
    cases hf : f z d2 with
    | ok d3 => rw [hf] at q2; exact VP.on (show VP K H0 F H mr d3 Q from q2) (x.trans x2)
    | exc y => exact absurd hf (hx _ _ _)
    | bad => rw [hf] at q2; exact q2
  | _ => exact (show False from q1).elim
/-- o.startswith(e) -/
theorem de_stw (ho : DE K E X Γ o to m go) (he : DE K E X Γ e te m2 ga) (hs : starEach [e] X.env = [(false, eval e X.env)] := by rfl) (hbase : attributeBase o "startswith" X.env (eval o X.env) = eval o X.env := by rfl) (hline : (apos.endLine == pos.line) = true := by rfl) :
    DE K E X Γ (.Call (.Attribute o "startswith" apos) [e] [] pos) (tM1 (fun x xs H Q => ∃ a b, x = .str a ∧ xs = [.str b] ∧ Q (.bl (Txt.startswith a b)) H) to te) .fr (gT2 dStw go ga) :=
  ⟨pe_m1 PySem.F.slot_str_startswith PySem.F.type_str_startswith mt_startswith ho.pe he.pe hs hbase hline, se_t1 (fun H0 F H a y d Q e0 e1 b q => by
    cases d with
    | str z => rw [b.strOf]; exact ⟨a, z, rfl, rfl, VP.old (show VP K H0 F H .fr _ Q from q) e0 (.bl _)⟩
    | _ => exact (show False from q).elim) (fun a d x h => by cases d <;> cases h) ho.se he.se⟩
omit [Tbs] in
theorem ite_exc {α : Type} {c : Prop} [Decidable c] {a : α} {x : Ex} (h : (if c then R.ok a else R.bad) = .exc x) : False := by
  split at h <;> cases h
/-- o.strip(e) -/
theorem de_stripC (ho : DE K E X Γ o to m go) (he : DE K E X Γ e te m2 ga) (hs : starEach [e] X.env = [(false, eval e X.env)] := by rfl) (hbase : attributeBase o "strip" X.env (eval o X.env) = eval o X.env := by rfl) (hline : (apos.endLine == pos.line) = true := by rfl) :
    DE K E X Γ (.Call (.Attribute o "strip" apos) [e] [] pos) (tM1 (fun x xs H Q => ∃ a b, x = .str a ∧ xs = [.str b] ∧ a.length ≤ sizeLine ∧ Q (.str (Txt.stripChars a b)) H) to te) .fr (gT2 dStrip go ga) :=
  ⟨pe_m1 PySem.F.slot_str_strip PySem.F.type_str_strip mt_stripChars ho.pe he.pe hs hbase hline, se_t1 (fun H0 F H a y d Q e0 e1 b q => by
    cases d with
    | str z =>
      obtain ⟨c, q2⟩ := RP.ite (show RP (if a.length ≤ sizeLine then _ else R.bad) _ _ from q)
      rw [b.strOf]; exact ⟨a, z, rfl, rfl, c, VP.old (show VP K H0 F H .fr _ Q from q2) e0 (.str _)⟩
    | _ => exact (show False from q).elim) (fun a d x h => by
      cases d with
      | str b => exact ite_exc h
      | _ => cases h) ho.se he.se⟩
omit [Tbs] in
theorem fz_strs {K : Frag} {F : Hp} : ∀ ys : List Str, FzL K F (ys.map V.str) (ys.map D.str)
  | [] => .nil
  | y :: ys => .cons (.str y) (fz_strs ys)
/-- o.split(e) -/
theorem de_split (ho : DE K E X Γ o to m go) (he : DE K E X Γ e te m2 ga) (hs : starEach [e] X.env = [(false, eval e X.env)] := by rfl) (hbase : attributeBase o "split" X.env (eval o X.env) = eval o X.env := by rfl) (hline : (apos.endLine == pos.line) = true := by rfl) :
    DE K E X Γ (.Call (.Attribute o "split" apos) [e] [] pos) (tM1 (fun x xs H Q => ∃ a b, x = .str a ∧ xs = [.str b] ∧ (b.length == 0) = false ∧ a.length + 2 ≤ sizeLine ∧ rNewStrs (Txt.split a b) H Q) to te) (.ow .fr) (gT2 dSplit go ga) :=
  ⟨pe_split ho.pe he.pe hs hbase hline, se_t1 (fun H0 F H a y d Q e0 e1 b q => by
    cases d with
    | str z =>
      obtain ⟨c, q2⟩ := RP.ite (show RP (if (z.length == 0) = false ∧ a.length + 2 ≤ sizeLine then _ else R.bad) _ _ from q)
      rw [b.strOf]; exact ⟨a, z, rfl, rfl, c.1, c.2, fun p hp => VP.newL (show VP K H0 F H (.ow .fr) _ Q from q2) e0 hp (fz_strs _)⟩
    | _ => exact (show False from q).elim) (fun a d x h => by
      cases d with
      | str b => exact ite_exc h
      | _ => cases h) ho.se he.se⟩
omit [Tbs] in
theorem str_one {x : Str} {c : Nat} (h : x.cps.toList = [c]) : x = ⟨#[c]⟩ := by
  obtain ⟨⟨l⟩⟩ := x
  simp only at h
  rw [h]
def rInS (neg : Bool) : R2 := fun x y H Q => ∃ (c : Nat) (z : Str), x = .str ⟨#[c]⟩ ∧ y = .str z ∧ Q (.bl (decide (c ∈ z.cps.toList) ^^ neg)) H
theorem op_inS (X : Cx) : OpR X (compareOp .In) (rInS false) := fun pins s σ H x y v u Q I rx ry h => by
  obtain ⟨c, z, h1, h2, q⟩ := h
  rw [Bool.xor_false] at q
  exact op_in_sign pins s σ H x y v u Q I rx ry ⟨c, z, h1, h2, q⟩
theorem so_inS {neg : Bool} : SO2 K (rInS neg) .fr (dInS neg) := by
  intro H0 F H x y dx dy Q eF e0 hx hy q
  cases dx with
  | str a =>
    cases dy with
    | str z =>
      have q : RP (match a.cps.toList with
        | [c] => R.ok (D.bl (decide (c ∈ z.cps.toList) ^^ neg))
        | _ => R.bad) (fun d => VP K H0 F H .fr d Q) (fun _ => False) := q
      cases h : a.cps.toList with
      | nil => rw [h] at q; exact (show False from q).elim
      | cons c cs =>
        cases cs with
        | cons c2 cs => rw [h] at q; exact (show False from q).elim
        | nil =>
          rw [h] at q
          exact ⟨c, z, by rw [hx.strOf, str_one h], hy.strOf, VP.old (show VP K H0 F H .fr _ Q from q) eF (.bl _)⟩
    | _ => exact (show False from q).elim
  | _ => exact (show False from q).elim
omit [Tbs] in
theorem dInS_x {neg : Bool} : ∀ x y e, dInS neg x y ≠ .exc e := by
  intro x y e h
  cases x with
  | str a =>
    cases y with
    | str z =>
      have h : (match a.cps.toList with
        | [c] => R.ok (D.bl (decide (c ∈ z.cps.toList) ^^ neg))
        | _ => R.bad) = R.exc e := h
      cases h2 : a.cps.toList with
      | nil => rw [h2] at h; cases h
      | cons c cs =>
        rw [h2] at h
        cases cs <;> cases h
    | _ => cases h
  | _ => cases h
theorem de_inS (ha : DE K E X Γ a ta ma ga) (hb : DE K E X Γ b tb mb gb) (hm : behindInMarks .In b = false := by rfl) : DE K E X Γ (.Compare a [.In] [b] pos) (tOp (rInS false) ta tb) .fr (g2 (dInS false) ga gb) := DE.cmp (op_inS X) so_inS dInS_x hm ha hb
theorem so_smul : SO2 K rSMul .fr dSMul := by
  intro H0 F H x y dx dy Q eF e0 hx hy q
  cases dx with
  | str a =>
    cases dy with
    | int n =>
      obtain ⟨c, q2⟩ := RP.ite (show RP (if -(2 ^ 63) ≤ n ∧ n < 2 ^ 63 ∧ a.length * n.toNat ≤ 16777216 then R.ok (D.str (Txt.mul a n)) else R.bad) _ _ from q)
      exact ⟨a, n, hx.strOf, hy.intOf, c.1, c.2.1, c.2.2, VP.old (show VP K H0 F H .fr _ Q from q2) eF (.str _)⟩
    | _ => exact (show False from q).elim
  | _ => exact (show False from q).elim
omit [Tbs] in
theorem dSMul_x : ∀ x y e, dSMul x y ≠ .exc e := by
  intro x y e h
  cases x with
  | str a =>
    cases y with
    | int n => exact ite_exc h
    | _ => cases h
  | _ => cases h
/-- text * n -/
theorem de_smul (ha : DE K E X Γ a ta ma ga) (hb : DE K E X Γ b tb mb gb) : DE K E X Γ (.BinOp a .Mult b pos) (tOp rSMul ta tb) .fr (g2 dSMul ga gb) := ⟨pe_op op_smul ha.pe hb.pe, se_op so_smul dSMul_x ha.se.pk hb.se.pk⟩
theorem sc_intT : SC K (fun xs H Q => ∃ a n, xs = [.str a] ∧ PySem.intText? a = some n ∧ a.length ≤ 640 ∧ Q (.int n) H) [.pk] .fr dIntT := by
  intro H0 F H vs ds Q eF e0 rvs q
  obtain ⟨v, d, rfl, rfl, rv⟩ := rvs.one
  cases d with
  | str a =>
    obtain ⟨c, q1⟩ := RP.ite (show RP (if a.length ≤ 640 then _ else R.bad) _ _ from q)
    obtain ⟨d, hl, hq⟩ := oR_ok (show RP (oR _) _ _ from q1)
    obtain ⟨n, hn, rfl⟩ := Option.map_eq_some_iff.mp hl
    exact ⟨a, n, by rw [rv.1.strOf], hn, c, VP.old hq eF (.int _)⟩
  | _ => exact (show False from q).elim
/-- int(e), e a text -/
theorem de_intT (U : Uni K E k X) (h : DE K E X Γ a ta m ga) (hg : Gl X "int" := by rfl) (he : starEach [a] X.env = (false, eval a X.env) :: starEach [] X.env := by rfl) : DE K E X Γ (.Call (.Name "int" p) [a] [] pos) (tCB (fun xs H Q => ∃ a n, xs = [.str a] ∧ PySem.intText? a = some n ∧ a.length ≤ 640 ∧ Q (.int n) H) (tCons ta tNil)) .fr (gAll dIntT (gsC ga gsN)) :=
  DE.callTy call_int_str sc_intT U.bn.int (by decide +kernel) (da_p h da_nil he) hg (by decide) (by decide) he rfl
end
end DL
namespace DL
open PySem L2
variable [Tbs]
/-- several values with what they own -/
inductive RvO (K : Frag) (H0 F H : Hp) : List M → List V → List D → List (List Addr) → Prop
  | nil : RvO K H0 F H [] [] [] []
  | cons {m : M} {ms : List M} {v : V} {d : D} {fp : List Addr} {vs : List V} {ds : List D} {fps : List (List Addr)} : Rv K H0 F H m v d fp → RvO K H0 F H ms vs ds fps → RvO K H0 F H (m :: ms) (v :: vs) (d :: ds) (fp :: fps)
/-- how a def that changes things is handed them -/
def okO : M → Bool
  | .fr => true
  | .bo => true
  | .ow m => m.st
  | _ => false
def pinsOf : List M → List V → List M
  | .ow m :: ms, v :: vs => .pin (.ow m) v :: pinsOf ms vs
  | .fr :: ms, _ :: vs => .fr :: pinsOf ms vs
  | .bo :: ms, _ :: vs => .bo :: pinsOf ms vs
  | _ :: ms, _ :: vs => .un :: pinsOf ms vs
  | _, _ => []
omit [Tbs] in
theorem RvO.lens {K : Frag} {H0 F H : Hp} {ms : List M} {vs : List V} {ds : List D} {fps : List (List Addr)} (h : RvO K H0 F H ms vs ds fps) : vs.length = ms.length ∧ ds.length = ms.length := by
  induction h with
  | nil => exact ⟨rfl, rfl⟩
  | cons _ _ ih => exact ⟨by rw [List.length_cons, List.length_cons, ih.1], by rw [List.length_cons, List.length_cons, ih.2]⟩
omit [Tbs] in
theorem RvO.so {K : Frag} {H0 F H : Hp} {ms : List M} {vs : List V} {ds : List D} {fps : List (List Addr)} (h : RvO K H0 F H ms vs ds fps) (hk : ∀ m ∈ ms, okO m = true) (k : Nat) : ∀ i,
    So K H0 F H ((pinsOf ms vs ++ List.replicate k M.un).getD i M.un) ((vs.map some ++ List.replicate k Option.none).getD i Option.none) ((ds ++ List.replicate k D.non).getD i D.non) (fps.getD i []) := by
  induction h with
  | nil =>
    intro i
    refine .inl ⟨?_, rfl⟩
    rw [show pinsOf [] [] = [] from rfl, List.nil_append, List.getD_eq_getElem?_getD, List.getElem?_replicate]
    split <;> rfl
  | @cons m ms v d fp vs ds fps h _ ih =>
    have ok := hk m List.mem_cons_self
    have ih := ih fun m' h' => hk m' (List.mem_cons_of_mem _ h')
    intro i
    cases m with
    | fr =>
      cases i with
      | zero => exact .inr ⟨v, rfl, rfl, h⟩
      | succ i => exact ih i
    | bo =>
      cases i with
      | zero => exact .inr ⟨v, rfl, rfl, h⟩
      | succ i => exact ih i
    | ow m =>
      cases i with
      | zero => exact .inr ⟨v, rfl, ok, rfl, h⟩
      | succ i => exact ih i
    | _ => cases ok
end DL
namespace DL
open PySem PySem.Spec PyProof.Rows L2
variable [Tbs]
section
variable {K : Frag} {E : XK} {X : Cx} {Γ : List M} {a b e : Expr} {rest : List Expr} {ta tb t : TE} {m : M} {ga gb g : List D → R D} {p pos : Pos} {k : Nat}
def dTru : D → R Bool
  | .non => .ok false
  | .bl c => .ok c
  | .int i => .ok (i != 0)
  | .str z => if z.length ≤ sizeLine then .ok ((z.length : Int) != 0) else .bad
  | .lst ds => .ok (!ds.isEmpty)
  | .tup ds => .ok (!ds.isEmpty)
  | _ => .bad
def gTru (g : List D → R D) : List D → R Bool := fun ρ => g ρ >>= dTru
omit [Tbs] in
theorem BoL.emp {K : Frag} {H F : Hp} {vs : List V} {ds : List D} (h : BoL K H F vs ds) : vs.isEmpty = ds.isEmpty := by
  cases h <;> rfl
omit [Tbs] in
theorem FzL.emp {K : Frag} {F : Hp} {vs : List V} {ds : List D} (h : FzL K F vs ds) : vs.isEmpty = ds.isEmpty := by
  cases h <;> rfl
omit [Tbs] in
theorem Bo.tru {K : Frag} {H F : Hp} {v : V} {d : D} {c : Bool} (e : Same F H) (h : Bo K H F v d) (q : dTru d = .ok c) : TruV K v H c := by
  cases d with
  | non => obtain rfl := h.nonOf; cases q; exact rfl
  | bl x => obtain rfl := h.blOf; cases q; exact rfl
  | int i => obtain rfl := h.intOf; cases q; exact rfl
  | str z =>
    obtain rfl := h.strOf
    by_cases w : z.length ≤ sizeLine
    · rw [show dTru (.str z) = .ok ((z.length : Int) != 0) from if_pos w] at q
      cases q
      exact ⟨w, rfl⟩
    · rw [show dTru (.str z) = .bad from if_neg w] at q
      cases q
  | lst ds =>
    obtain ⟨a, vs, rfl, h1, h2⟩ := h.listOf e
    cases q
    exact .inl ⟨vs, h1, by rw [h2.emp]⟩
  | tup ds =>
    obtain ⟨a, vs, rfl, h1, h2⟩ := h.tupOf
    cases q
    exact .inr (.inl ⟨vs, e.sqt h1, by rw [h2.emp]⟩)
  | _ => cases q
theorem st_tru (h : SE K E Γ t m g) : ST K E Γ (fun σ H Q => t σ H fun x H' => ∃ k, TruV K x H' k ∧ Q k H') (gTru g) := fun F0 H0 ρ σ F H fps Q r q => by
  refine h.pk F0 H0 ρ σ F H fps _ r ((RP.bind q).imp (fun d hd v F' H' fp x rv f => ?_) fun _ z => z)
  cases hc : dTru d with
  | ok c =>
    rw [hc] at hd
    exact ⟨c, rv.1.tru x.fh hc, hd F' H' x⟩
  | exc z =>
    exfalso
    cases d with
    | str y =>
      by_cases w : y.length ≤ sizeLine
      · rw [show dTru (.str y) = .ok ((y.length : Int) != 0) from if_pos w] at hc; cases hc
      · rw [show dTru (.str y) = .bad from if_neg w] at hc; cases hc
    | _ => cases hc
  | bad => rw [hc] at hd; exact (show False from hd).elim
/-- a test that is the truth of what a thing is -/
theorem dt_tru (U : Uni K E k X) (h : DE K E X Γ e t m g) (he : ∀ whole, isTrue e X.env whole = (do let v ← whole; standAt e.pos; holding [v] (truthy v)) := by intro _; rfl) : DT K E X Γ e (fun σ H Q => t σ H fun x H' => ∃ k, TruV K x H' k ∧ Q k H') (gTru g) := by
  have e0 := U.K
  subst e0
  exact ⟨pt_truth h.pe he, st_tru h.se⟩
end
end DL
namespace DL
open PySem L2
variable [Tbs]
/-- no exception -/
abbrev noE : XK := fun _ _ _ => False
/-- a call that may raise, in a try -/
structure DCx (K : Frag) (X : Cx) (Γ : List M) (e : Expr) (t : (St → XK) → TE) (m : M) (g : List D → R D) : Prop where
  pe : ∀ (W : WX) (pn : List (Addr × Obj)) (xe : Value → Shared → Prop), Takes (X.tr pn xe) W → PassesOwn (model X.prog X.w) X.A X.env xe → PE (X.tr pn xe) e (t (WE W))
  se : ∀ (E : St → XK) F0 H0 ρ σ F H fps Q, Rel K F0 H0 Γ ρ σ F H fps → RP (g ρ) (fun d => VP K H0 F H m d Q) (XP K (E σ) F H) → t E σ H Q
/-- a statement that may raise, in a try -/
structure DBx (K : Frag) (X : Cx) (Γ : List M) (s : Stmt) (t : (St → XK) → TS) (b c : List M) (r : M) (g : List D → R Fl) : Prop where
  ps : ∀ (W : WX) (pn : List (Addr × Obj)) (xe : Value → Shared → Prop), Takes (X.tr pn xe) W → PassesOwn (model X.prog X.w) X.A X.env xe → PSs (X.tr pn xe) [s] (t (WE W))
  ss : ∀ (E : St → XK) F0 H0 ρ σ F H fps N, Rel K F0 H0 Γ ρ σ F H fps → RP (g ρ) (FP K F0 H0 F Γ b c r N) (XP K (E σ) F H) → t E N σ H
section
variable {K : Frag} {E : XK} {X : Cx} {Γ b c : List M} {r m mr : M} {ms : List M} {k kf j i y : Nat} {s : Stmt} {pos p px pn ph : Pos} {e : Expr} {es : List Expr} {tr : TA} {f : List D → R D} {gr : List D → R (List D)} {x fx cx nx : Str} {tab : List (Addr × (List D → R D))}
def gCallN (f : List D → R D) (gr : List D → R (List D)) : List D → R D := fun ρ => noX (gr ρ) >>= f
theorem args_se {Q : VK} {F0 H0 F H : Hp} {ρ : List D} {σ : St} {fps : Nat → List Addr} {E : St → XK} (ha : SA K noE Γ tr ms gr) (hr : mr.fz = true) (hm : ∀ m ∈ ms, m = .fr ∨ m = .pk) (rel : Rel K F0 H0 Γ ρ σ F H fps)
    (q : RP (gCallN f gr ρ) (fun d => VP K H0 F H mr d Q) (XP K (E σ) F H)) : tr σ H fun vs H1 => spD K ms mr f vs H1 Q (E σ) := by
  refine ha F0 H0 ρ σ F H fps _ rel ((RP.noX (RP.bind q)).imp (fun ds hd vs F' H' x rv => ?_) fun _ z => z)
  exact ⟨F', ds, x.fh, x.tb rel.tb, rv.base hm, hd.imp (fun d hd => VP.base hr (VP.on hd x)) fun _ z => z.on x⟩
/-- f(e, ..) -/
theorem dcx_call (U : Uni K E k X) (F : FnD X.prog X.w K X.mg X.base kf fx ms mr f) (ha : ∀ pn xe, DA K noE (X.tr pn xe) Γ (e :: es) tr ms gr) (hk : kf ≤ k := by decide) (hr : mr.fz = true := by rfl) (hm : ∀ m ∈ ms, m = .fr ∨ m = .pk := by simp) (hg : Gl X fx := by rfl)
    (hdb : (fx == ("__debug__" : Str)) = false := by decide) (he : starEach (e :: es) X.env = (false, eval e X.env) :: starEach es X.env := by rfl) (hpl : (backTo pos (starEach es X.env)).any (·.1) = false := by rfl) :
    DCx K X Γ (.Call (.Name fx p) (e :: es) [] pos) (fun E => tCallS (spD K ms mr f) E tr) mr (gCallN f gr) := by
  have e0 := U.K
  subst e0
  obtain ⟨a, fd, ps, F1, F2, F3, F4⟩ := F
  exact ⟨fun W pn xe tk po => pe_callS (X := X.tr pn xe) (F1.mono hk) U.room hg F2 F3 F4 (fun σ => passAt tk σ) (ha pn xe).pa hdb he hpl, fun E F0 H0 ρ σ F H fps Q rel q => args_se (ha [] fun _ _ => False).sa hr hm rel q⟩
/-- a call alone -/
theorem dbx_expr {t : (St → XK) → TE} {g : List D → R D} (h : DCx K X Γ e t m g) (hs : swapsWith e none pos.line X.env = pure false := by rfl) : DBx K X Γ (.Expr e pos) (fun E => tDrop (t E)) b c r (gDrop g) :=
  ⟨fun W pn xe tk po => pss_one (ps_expr (X := X.tr pn xe) (h.pe W pn xe tk po) hs), fun E F0 H0 ρ σ F H fps N rel q => h.se E F0 H0 ρ σ F H fps _ rel ((RP.bind q).imp (fun d hd v F' H' fp x rv f => hd σ F' H' fps x.f (rel.ext x)) fun _ z => z)⟩
end
end DL
namespace DL
open PySem L2
variable [Tbs]
section
variable {K : Frag} {E : XK} {X : Cx} {Γ n b c : List M} {m mr : M} {ms : List M} {k kf i : Nat} {js : List Nat} {pos p pos' : Pos} {e : Expr} {es : List Expr} {te : TE} {tr : TA} {f : List D → R D} {g : List D → R D} {gr : List D → R (List D)} {x : Str}
omit [Tbs] in
theorem RvO.grow {H0 F F' H H' : Hp} (eF : Same F F') (eH : Same H H') {ms : List M} {vs : List V} {ds : List D} {fps : List (List Addr)} (h : RvO K H0 F H ms vs ds fps) : RvO K H0 F' H' ms vs ds fps := by
  induction h with
  | nil => exact .nil
  | cons h _ ih => exact .cons (h.grow eF eH) ih
end
end DL
namespace DL
open PySem PySem.Spec PyProof.Rows L2 HT
end DL
namespace DL
open PySem PySem.Spec PyProof.Rows L2
end DL
namespace DL
open PySem L2
end DL
namespace DL
open PySem L2
variable [Tbs]
theorem FnA.mono {P : Program} {w : World} {K : Frag} {mg : Str → Option Value} {base : Heap} {j k : Nat} {a : Addr} {ms : List M} {mr : M} {f : List D → R D} (h : FnA P w K mg base j a ms mr f) (hj : j ≤ k) : FnA P w K mg base k a ms mr f := by
  obtain ⟨fd, ps, h1, h2, h3⟩ := h
  exact ⟨fd, ps, h1.mono hj, h2, h3⟩
end DL
namespace L2
open PySem PySem.Spec PyProof.Rows
/-- what is told of a kept error, in the abstract heap -/
abbrev erO (a : Addr) (cls : Value) (dx : Option Addr) : HO := .ext fun h => ∃ oe vs, h.get? a = some oe ∧ Zc cls dx oe ∧ oe.data = .fields vs
section
variable {X : Cx} {pins : List (Addr × Obj)} {σ : St} {H : Hp} {sI s : Shared}
/-- an object that came into the heap behind sI is tracked from now on -/
theorem Inv.note {a : Addr} {oe : Obj} {vs : Array Value} {cls : Value} {dx : Option Addr} (J : Inv X pins σ H sI) (I : Inv X pins σ H s) (gone : sI.heap.get? a = none) (he : s.heap.get? a = some oe) (hd : oe.data = .fields vs) (hz : Zc cls dx oe) (nL : a ≠ X.env.locals) (na : H a = none) :
    Inv X pins σ (upd H a (erO a cls dx)) s := by
  have other : ∀ {b : Addr} {o : HO}, H b = some o → b ≠ a := fun q z => by rw [z, na] at q; cases q
  have up : ∀ {b : Addr} {o : HO}, H b = some o → upd H a (erO a cls dx) b = some o := fun q => by rw [upd_ne (other q)]; exact q
  have down : ∀ {b : Addr}, b ≠ a → H b = none → upd H a (erO a cls dx) b = none := fun z q => by rw [upd_ne z]; exact q
  exact {
    ok := I.ok, os := I.os, bare := I.bare, loc := I.loc, cell := I.cell, len := I.len
    base := {
      keep := I.base.keep, slot := I.base.slot, there := I.base.there
      free := fun b o q n hx => down (fun z => by
        obtain ⟨o', e⟩ := J.base.there b o q hx
        rw [z, gone] at e
        cases e) (I.base.free b o q n hx)
      tups := fun b xs q => up (I.base.tups b xs q)
      frzs := fun b o u q => up (I.base.frzs b o u q)
      tbls := fun b ps q => by
        obtain ⟨more, e⟩ := I.base.tbls b ps q
        exact ⟨more, up e⟩ }
    free := down (fun z => nL z.symm) I.free
    freeC := fun x c e => down (fun z => by
      obtain ⟨v, o, ho, hc⟩ := I.cell x c e
      rw [z, he] at ho
      cases ho
      rw [hd] at hc
      cases hc) (I.freeC x c e)
    pin := fun p hp => by
      obtain ⟨e, n, r⟩ := I.pin p hp
      refine ⟨e, down (fun z => ?_) n, r⟩
      have e2 := (J.pin p hp).1
      rw [z, gone] at e2
      cases e2
    hok := fun b o q => by
      by_cases z : b = a
      · subst z
        rw [upd_same] at q
        cases q
        refine ⟨⟨oe, vs, he, hz, hd⟩, ⟨oe, he⟩, fun h1 h2 ⟨oe1, vs1, q1, q2⟩ k => ⟨oe1, vs1, k oe1 q1, q2⟩⟩
      · rw [upd_ne z] at q
        exact (I.hok b o q).stay (fun _ _ _ r => r) (fun _ r => up r) fun _ _ r => up r }
theorem Inv.inSuite (I : Inv X pins σ H s) (a : Addr) : Inv (X.suite a (X.pn ++ pins)) [] σ H s :=
  { ok := I.ok.suite a _, os := I.os, bare := I.bare, base := I.base, loc := I.loc, cell := I.cell, free := I.free, freeC := I.freeC, pin := fun p hp => I.pin p (by rw [List.append_nil] at hp; exact hp), hok := I.hok, len := I.len }
theorem Inv.offSuite {a : Addr} {ps : List (Addr × Obj)} (I : Inv (X.suite a (X.pn ++ pins)) ps σ H s) (ok : X.Ok) : Inv X pins σ H s :=
  { ok := ok, os := I.os, bare := I.bare, base := I.base, loc := I.loc, cell := I.cell, free := I.free, freeC := I.freeC, pin := fun p hp => I.pin p (List.mem_append_left _ hp), hok := I.hok, len := I.len }
end
/-- what 'except x as n' wishes, where the error is kept -/
def wKeep (K : Frag) (c : Value) (i : Nat) (ts : Addr → Value → Option Addr → TS) (Wout : WX) (D : Ends) : WX := fun cls d σ H =>
  ∃ b, PySem.W.exmOne K cls c = some b ∧ (b = false → Wout cls d σ H) ∧ (b = true → ∀ a, H a = none →
    ts a cls d ⟨fun σ1 H1 => D.nx (σ1.set i none) H1, D.rt, fun σ1 H1 => D.bk (σ1.set i none) H1, fun σ1 H1 => D.ct (σ1.set i none) H1⟩ (σ.set i (some (.ref a))) (upd H a (erO a cls d)))
section
variable {X : Cx} {x n : Str} {c : Value} {i : Nat} {body suite : List Stmt} {s0 : Stmt} {np pos pos2 : Pos} {tb : WX → TS} {ts : Addr → Value → Option Addr → TS} {Wout : WX}
theorem ps_try_keep (hst : X.stack = X.env :: X.outer) (hfm : X.env.frame = some X.env.locals) (nd : X.N.Nodup) (hi : X.N[i]? = some n) (hln : X.env.kindOf n = some .local) (hc : Names X x c) (tk : Takes X Wout)
    (hbody : ∀ (W : WX) (pn : List (Addr × Obj)) (xe : Value → Shared → Prop), Takes (X.tr pn xe) W → PassesOwn (model X.prog X.w) X.A X.env xe → PSs (X.tr pn xe) body (tb W))
    (hsuite : ∀ (a : Addr) (cls : Value) (d : Option Addr) (pn : List (Addr × Obj)), PSs (X.suite a pn) (s0 :: suite) (ts a cls d)) :
    PS X (.Try body [.ExceptHandler (some (.Name x np)) (some n) (s0 :: suite) pos2] [] [] pos) (fun D σ H => tb (wKeep X.K c i ts Wout D) D σ H) := by
  refine ⟨fun pins s σ H D I0 h0 => wpAny_Try_except ?_⟩
  have good := I0.ok
  have frames : X.A.frames = some (X.env :: X.outer) := hst ▸ good.frames
  have own : Loc X.env.scope n := Or.inl hln
  let fin : Value → Shared → Prop := fun e t => wpAny (model X.prog X.w) X.A (handleBy e X.env [.ExceptHandler (some (.Name x np)) (some n) (s0 :: suite) pos2]) (SP X pins D) X.xe t
  have tkc : Takes (X.tr (X.pn ++ pins) fun e t => wpAny (model X.prog X.w) X.A (noteFrame e X.env) (fun _ t2 => wpAny (model X.prog X.w) X.A (setFlight e none) (fun _ t3 => fin e t3) X.xe t2) X.xe t) (wKeep X.K c i ts Wout D) := ?_
  refine wpAny_mono ((hbody _ _ _ tkc PassesOwn.looking).run [] s σ H D (I0.toTry _) h0) (fun fl s1 z => ?_) fun _ _ z => z
  rotate_left
  · intro u t xx
    obtain ⟨a, B, sI, ps, σ1, H1, cls, d, eu, I1, ground, grew, sky, na, eos, bare, b, eb, wno, wyes⟩ := xx
    subst eu
    have J : Inv X pins σ1 H1 sI := I1.ofTry good
    refine Sky.land Zc.steady frames hfm (show Sky B (X.env :: X.outer) a (Zc cls d) X.env.locals t.heap from hst ▸ sky) fun h3 fly grew3 => ?_
    have J3 : Inv X pins σ1 H1 { t with heap := h3 } := J.landed ground fly.1 (grew.trans grew3) eos bare
    obtain ⟨oe, vs, hoe, hz, hfd⟩ := fly.there
    have off : a ∉ frs (X.env :: X.outer) := fun hm => by
      obtain ⟨_, o2, ho2, nofields⟩ := fly.2.2.1.mem hm
      rw [hoe] at ho2
      cases ho2
      exact nofields vs hfd
    have nL : a ≠ X.env.locals := fun z => off (List.mem_filterMap.mpr ⟨X.env, List.mem_cons_self, by rw [hfm, z]⟩)
    have gone : sI.heap.get? a = none := by
      cases q : sI.heap.get? a with
      | none => rfl
      | some o =>
        have z := ground a o q (by rw [hst]; exact off)
        rw [fly.2.1] at z
        cases z
    have K3 := J3.inSuite a
    refine wpAny_handleBy_cons (codeAny_handlers_test ?_) (by intro q; cases q)
    have ask : PySem.W.Looks (model X.prog X.w) h3 (typeOf (.ref a)) cls := fun A Q E s k q => wpAny_typeOf_ref (k _ _ hoe) (by rw [hz.1]; exact q)
    have hit := PySem.W.exm_one (M := model X.prog X.w) J3.kIn ask eb
    have name : ∀ {Q E : Value → Shared → Prop}, Q c { t with heap := h3 } → wpAny (model X.prog X.w) (X.A.mark (some (.ref a))) (eval (.Name x np) X.env) Q E { t with heap := h3 } := fun {Q E} q => by
      obtain ⟨g1, g2, g3⟩ := hc
      rcases g3 with g3 | ⟨g3, g4, g5⟩
      · exact ld_glob (X := X.suite a (X.pn ++ pins)) K3 g1 g3 q g2
      · exact ld_blt (X := X.suite a (X.pn ++ pins)) K3 g1 g3 g4 q g5 g2
    refine name (hit.here ?_)
    cases b with
    | false =>
      show wpAny _ X.A (handleBy (.ref a) X.env []) _ _ _
      refine wpAny_handleBy_nil ?_
      obtain ⟨_, _, _, oe2, vs2, T, oT, us, q1, q2, q3, q4, _⟩ := id fly
      unfold PySem.passOn
      refine wpAny_bind (wpAny_field q1 q3 q4 ?_)
      rw [if_neg (show ¬ ((Value.ref T == Value.none) = true) by simp)]
      have on : wpAny (model X.prog X.w) X.A (setFlight (.ref a) X.env.frame) (fun _ s4 => wpAny (model X.prog X.w) X.A (throw (.ref a) : Sem Flow) (SP X pins D) X.xe s4) X.xe { t with heap := h3 } := by
        rw [hfm]
        refine HandSPX.setFlight_upZ fly fun h4 held grew4 => wpAny_throw (tk _ _ ⟨a, B, sI, pins, σ1, H1, cls, d, rfl, J, ground, (grew.trans grew3).trans grew4, ?_, na, eos, bare, wno rfl⟩)
        rw [hst]
        exact .inr (.inr held)
      first
        | exact wpAny_bind (wpAny_pure (wpAny_bind on))
        | exact wpAny_bind on
    | true =>
      refine codeAny_handlers_suite_as (HandSPX.lands_againZ fly fun h4 fly4 grew4 => ?_)
      obtain ⟨oe4, vs4, hoe4, hz4, hfd4⟩ := fly4.there
      have J4 : Inv X pins σ1 H1 { t with heap := h4 } := J.landed ground fly4.1 ((grew.trans grew3).trans grew4) eos bare
      have K4 := (J.note J4 gone hoe4 hfd4 hz4 nL na).inSuite a
      refine store_ok (X := X.suite a (X.pn ++ pins)) (v := .ref a) K4 nd hi own rfl (fun s5 K5 => ?_) (.inr hln)
      refine wpAny_mono ((hsuite a cls d (X.pn ++ pins)).run [] s5 _ _ _ K5 (wyes rfl a na)) (fun fl s6 hsp => ?_) (fun _ _ z => z.elim)
      have leave : ∀ {σ6 : St} {H6 : Hp} {Q : Shared → Prop}, Inv (X.suite a (X.pn ++ pins)) [] σ6 H6 s6 → (∀ s7, Inv X pins (σ6.set i none) H6 s7 → Q s7) →
          wpAny (model X.prog X.w) X.A (do bindName X.env n .none; unbindBehindTheSuite X.env n pos2) (fun _ s7 => Q s7) X.xe s6 := fun K6 q => gone_ok (K6.offSuite good) nd hi hln q
      cases fl with
      | next =>
        obtain ⟨σ6, H6, K6, q6⟩ := hsp
        exact leave K6 fun s7 K7 => ⟨_, _, K7, q6⟩
      | ret u =>
        obtain ⟨v6, σ6, H6, K6, r6, q6⟩ := hsp
        exact leave K6 fun s7 K7 => ⟨_, _, _, K7, r6, q6⟩
      | brk =>
        obtain ⟨σ6, H6, K6, q6⟩ := hsp
        exact leave K6 fun s7 K7 => ⟨_, _, K7, q6⟩
      | cont =>
        obtain ⟨σ6, H6, K6, q6⟩ := hsp
        exact leave K6 fun s7 K7 => ⟨_, _, K7, q6⟩
  · cases fl with
    | next =>
      obtain ⟨σ1, H1, I1, q⟩ := z
      exact wpAny_execs_nil ⟨σ1, H1, I1.ofTry good, q⟩
    | ret u =>
      obtain ⟨v, σ1, H1, I1, r, q⟩ := z
      exact ⟨v, σ1, H1, I1.ofTry good, r, q⟩
    | brk =>
      obtain ⟨σ1, H1, I1, q⟩ := z
      exact ⟨σ1, H1, I1.ofTry good, q⟩
    | cont =>
      obtain ⟨σ1, H1, I1, q⟩ := z
      exact ⟨σ1, H1, I1.ofTry good, q⟩
end
/-- isinstance(e, c), e a kept error -/
def rIsK (K : Frag) : List V → Hp → VK → Prop := fun xs H Q => ∃ (a C : Addr) (c : V) (cv : Value) (b : Bool), xs = [.ref a, c] ∧ H a = some (erO a (.ref C) none) ∧ ExcC K C ∧ (∀ u, RelV c u → u = cv) ∧ PySem.W.kitOne K (.ref C) cv = some b ∧ Q (.bl b) H
theorem call_isK {X : Cx} : CallR X (.builtin "isinstance") (rIsK X.K) := by
  intro pins s σ H xs us Q I r h
  obtain ⟨a, C, c, cv, b, rfl, ha, ec, hcv, hk, q⟩ := h
  cases r with
  | cons rx rr =>
    cases rr with
    | cons rt rr =>
      cases rr
      cases rx
      cases hcv _ rt
      obtain ⟨⟨oe, vs, hoe, hz, hv⟩, _, _⟩ := I.hok a _ ha
      have J : PySem.W.InstAt s.heap a oe C none := by
        obtain ⟨oc, od, oda, osl⟩ := oe
        obtain ⟨h1, h2⟩ := hz
        dsimp only at h1 h2 hv
        subst h1 h2 hv
        exact ⟨hoe, rfl, rfl, trivial⟩
      exact PySem.W.kia_one (PySem.W.handS_kitx_exc ec.hg ec.hk ec.hs ec.hd ec.ha ec.hn ec.ht ec.hm) I.kIn J hk (fun z => nomatch z) fun tk => ⟨.bl b, H, I.kept (t' := tk) fun _ _ z => z, rfl, q⟩
/-- xs.count(y), flat things -/
def rCntF (K : Frag) : V → List V → Hp → VK → Prop := fun x xs H Q => ∃ (p : Addr) (ys : List V) (y : V), x = .ref p ∧ xs = [y] ∧ SqL K H p ys ∧ flatV y = true ∧ ys.all flatV = true ∧ Q (.int ((ys.countP fun z => eqV z y) : Nat)) H
theorem countP_eqU {x : V} : ∀ {xs : List V} {us : List Value}, Vals xs us → xs.all flatV = true → us.countP (eqU x) = xs.countP fun y => eqV y x
  | _, _, .nil, _ => rfl
  | y :: xs, u :: us, .cons r t, f => by
    rw [List.all_cons, Bool.and_eq_true] at f
    rw [List.countP_cons, List.countP_cons, countP_eqU t f.2, eqU_of r f.1]
theorem mt_countF {X : Cx} : MtR X "list.count" (rCntF X.K) := by
  intro pins s σ H x xs v us Q I rx rxs h
  obtain ⟨p, ys, y, rfl, rfl, hs, fy, fys, q⟩ := h
  cases rx
  cases rxs with
  | cons ry rt =>
    rename_i uy ut
    cases rt
    obtain ⟨its, rv, ⟨⟨cls, dd, data, sl⟩, n, ho, hc, hdn, hd⟩, hlen⟩ := I.list hs
    simp only at hc hd
    subst hc hd
    refine call_meets PySem.F.slot_list_count ⟨_, ho, rfl⟩ PySem.F.entry_list_count (PySem.F.args_list_count_2 _ _)
      (SeqAt.list_countAt p its.toArray n dd sl uy (eqU y)) ⟨ho, fun u' hu' => mem_eqAt ry fy rv fys u' (by simpa using hu'), ?_⟩
    have ec : its.toArray.toList.countP (eqU y) = ys.countP fun z => eqV z y := countP_eqU rv fys
    refine ⟨.int ((ys.countP fun z => eqV z y : Nat) : Int), H, I.tok _, ⟨s.toks, ?_⟩, q⟩
    show Value.int ((its.toArray.toList.countP (eqU y) : Nat) : Int) s.toks = _
    rw [ec]
end L2
namespace DL
open PySem L2
variable [Tbs]
section
variable {K : Frag} {E : XK} {X : Cx} {Γ b c : List M} {r m : M} {k i y : Nat} {s : Stmt} {pos pn ph : Pos} {cx nx : Str}
/-- isinstance of a kept error -/
def IsK (K : Frag) (cv : Value) (tab : List (Addr × Bool)) : Prop := ∀ q ∈ tab, ExcC K q.1 ∧ PySem.W.kitOne K (.ref q.1) cv = some q.2
section
variable {K : Frag} {E : XK} {X : Cx} {Γ : List M} {a e : Expr} {ta te : TE} {g ga : List D → R D} {p p1 p2 p3 pos : Pos} {k : Nat}
def allBl : List D → Option (List Bool)
  | [] => some []
  | .bl b :: ds => (allBl ds).map (b :: ·)
  | _ :: _ => none
omit [Tbs] in
theorem allBl_eq : ∀ {ds : List D} {bs : List Bool}, allBl ds = some bs → ds = bs.map .bl
  | [], bs, h => by cases h; rfl
  | d :: ds, bs, h => by
    cases d with
    | bl b =>
      obtain ⟨ms, h1, rfl⟩ := Option.map_eq_some_iff.mp (show (allBl ds).map (b :: ·) = some bs from h)
      rw [List.map_cons, allBl_eq h1]
    | _ => exact nomatch h
omit [Tbs] in
theorem bls_of {H F : Hp} : ∀ {bs : List Bool} {vs : List V}, FzL K F vs (bs.map D.bl) → vs = bs.map V.bl
  | [], _, .nil => rfl
  | b :: bs, _, .cons h hs => by
    cases h
    rw [bls_of (H := H) hs]
    rfl
def bIx (k : Bool) : List Bool → Option Nat
  | [] => none
  | b :: bs => if b = k then some 0 else (bIx k bs).map (· + 1)
omit [Tbs] in
theorem bIx_at {k : Bool} : ∀ {bs : List Bool} {j : Nat}, bIx k bs = some j → bs[j]? = some k ∧ ∀ m : Nat, m < j → bs[m]? ≠ some k
  | [], j, h => nomatch h
  | b :: bs, j, h => by
    have h : (if b = k then some 0 else (bIx k bs).map (· + 1)) = some j := h
    by_cases e : b = k
    · rw [if_pos e] at h
      cases h
      exact ⟨by rw [e]; rfl, fun m hm => absurd hm (Nat.not_lt_zero m)⟩
    · rw [if_neg e] at h
      obtain ⟨i, hi, rfl⟩ := Option.map_eq_some_iff.mp h
      obtain ⟨r1, r2⟩ := bIx_at hi
      refine ⟨by simpa using r1, fun m hm => ?_⟩
      cases m with
      | zero => simpa using e
      | succ m => simpa using r2 m (by omega)
def gCntB (i : Nat) (g : List D → R D) : List D → R D := fun ρ => match ρ.getD i .non with
  | .lst ds => g ρ >>= fun d => match d with
    | .bl k => (match allBl ds with
      | some bs => .ok (.int (bs.count k : Nat))
      | none => .bad)
    | _ => .bad
  | _ => .bad
def gIdxB (i : Nat) (g : List D → R D) : List D → R D := fun ρ => match ρ.getD i .non with
  | .lst ds => g ρ >>= fun d => match d with
    | .bl k => (match (allBl ds).bind (bIx k) with
      | some j => .ok (.int (j : Nat))
      | none => .bad)
    | _ => .bad
  | _ => .bad
omit [Tbs] in
theorem flat_bls (bs : List Bool) : (bs.map V.bl).all flatV = true := List.all_eq_true.mpr fun z hz => by
  obtain ⟨n, _, rfl⟩ := List.mem_map.mp hz
  rfl
omit [Tbs] in
theorem count_bls (k : Bool) : ∀ bs : List Bool, ((bs.map V.bl).countP fun z => eqV z (.bl k)) = bs.count k
  | [] => rfl
  | b :: bs => by
    rw [List.map_cons, List.countP_cons, List.count_cons, count_bls k bs]
    rfl
theorem se_cntB {i : Nat} (hi : Γ[i]? = some (.ow .fr)) (h : SE K E Γ te .fr g) : SE K E Γ (tBM K "list" (rCntF K) (tVar i) (tCons te tNil)) .fr (gCntB i g) := fun F0 H0 ρ σ F H fps Q rel q => by
  obtain ⟨v, hv, st, rv⟩ := rel.get hi (fun z => nomatch z)
  refine ⟨v, hv, ?_⟩
  unfold gCntB at q
  cases hd : ρ.getD i .non with
  | lst ds =>
    rw [hd] at q rv
    obtain ⟨l, vs, f1, rfl, hl, al, ef⟩ := Rv.ow_lst rv
    refine ⟨.inl ⟨rfl, vs, SqL.of hl⟩, ?_⟩
    refine h F0 H0 ρ σ F H fps _ rel ((RP.bind q).imp (fun d q1 y F1 H1 fp1 x1 rv1 f1 => ?_) fun _ z => z)
    cases d with
    | bl k =>
      cases ha : allBl ds with
      | none => simp only [ha] at q1; exact (show False from q1).elim
      | some bs =>
        simp only [ha] at q1
        have q4 : VP K H0 F H .fr (.int (bs.count k : Nat)) Q := q1
        have ed := allBl_eq ha
        subst ed
        obtain ⟨fz, e1⟩ := al.fr
        subst e1
        have ev := bls_of (H := H) fz
        subst ev
        have ey : y = .bl k := (Bo.fz (H := H) rv1.1).blOf
        subst ey
        refine ⟨l, bs.map V.bl, .bl k, rfl, rfl, SqL.of (x1.h.at_ hl), rfl, flat_bls bs, ?_⟩
        rw [count_bls]
        exact q4 _ F1 H1 [] x1 ⟨.int _, rfl⟩ Fresh.nil
    | _ => exact (show False from q1).elim
  | _ => rw [hd] at q; exact (show False from q).elim
theorem se_idxB {i : Nat} (hi : Γ[i]? = some (.ow .fr)) (h : SE K E Γ te .fr g) : SE K E Γ (tBM K "list" (rIndex K) (tVar i) (tCons te tNil)) .fr (gIdxB i g) := fun F0 H0 ρ σ F H fps Q rel q => by
  obtain ⟨v, hv, st, rv⟩ := rel.get hi (fun z => nomatch z)
  refine ⟨v, hv, ?_⟩
  unfold gIdxB at q
  cases hd : ρ.getD i .non with
  | lst ds =>
    rw [hd] at q rv
    obtain ⟨l, vs, f1, rfl, hl, al, ef⟩ := Rv.ow_lst rv
    refine ⟨.inl ⟨rfl, vs, SqL.of hl⟩, ?_⟩
    refine h F0 H0 ρ σ F H fps _ rel ((RP.bind q).imp (fun d q1 y F1 H1 fp1 x1 rv1 f1 => ?_) fun _ z => z)
    cases d with
    | bl k =>
      cases hj : (allBl ds).bind (bIx k) with
      | none => simp only [hj] at q1; exact (show False from q1).elim
      | some j =>
        simp only [hj] at q1
        have q4 : VP K H0 F H .fr (.int (j : Nat)) Q := q1
        obtain ⟨bs, ha, hb⟩ := Option.bind_eq_some_iff.mp hj
        have ed := allBl_eq ha
        subst ed
        obtain ⟨fz, e1⟩ := al.fr
        subst e1
        have ev := bls_of (H := H) fz
        subst ev
        have ey : y = .bl k := (Bo.fz (H := H) rv1.1).blOf
        subst ey
        obtain ⟨r1, r2⟩ := bIx_at hb
        refine ⟨l, bs.map V.bl, .bl k, j, .bl k, rfl, rfl, SqL.of (x1.h.at_ hl), rfl, flat_bls bs, ?_, ?_, ?_, q4 _ F1 H1 [] x1 ⟨.int _, rfl⟩ Fresh.nil⟩
        · rw [List.getElem?_map, r1]; rfl
        · exact beq_self_eq_true k
        · intro m z' hm hz
          rw [List.getElem?_map] at hz
          obtain ⟨n, hn, rfl⟩ := Option.map_eq_some_iff.mp hz
          exact beq_eq_false_iff_ne.mpr fun w => r2 m hm (by rw [hn, w])
    | _ => exact (show False from q1).elim
  | _ => rw [hd] at q; exact (show False from q).elim
/-- x.count(b), x an own list of truths -/
theorem de_cntB (i : Nat) {x : Str} (U : Uni K E k X) (h : DE K E X Γ e te .fr g) (hi : Γ[i]? = some (.ow .fr) := by rfl) (hN : X.N[i]? = some x := by rfl) (hv : Vis X.env.scope x := by first | exact Or.inl rfl | exact Or.inr (Or.inl rfl) | exact Or.inr (Or.inr rfl))
    (hd : (x == ("__debug__" : Str)) = false := by decide) (hcd : (x == ("__classdict__" : Str)) = false := by decide)
    (pe : PE X (.Name x p1) (tVar i) → PA X [e] (tCons te tNil) → PE X (.Call (.Attribute (.Name x p1) "count" p2) [e] [] p3) (tBM X.K "list" (rCntF X.K) (tVar i) (tCons te tNil)) := by exact fun h1 h2 => pe_bm PySem.F.plainAttrs_list PySem.F.slot_list_count PySem.F.type_list_count mt_countF h1 h2)
    (he : starEach [e] X.env = (false, eval e X.env) :: starEach [] X.env := by rfl) :
    DE K E X Γ (.Call (.Attribute (.Name x p1) "count" p2) [e] [] p3) (tBM K "list" (rCntF K) (tVar i) (tCons te tNil)) .fr (gCntB i g) := by
  have e0 := U.K
  subst e0
  exact ⟨pe (pe_var hN hv hd hcd) (pa_cons h.pe pa_nil he), se_cntB hi h.se⟩
/-- x.index(b), x an own list of truths -/
theorem de_idxB (i : Nat) {x : Str} (U : Uni K E k X) (h : DE K E X Γ e te .fr g) (hi : Γ[i]? = some (.ow .fr) := by rfl) (hN : X.N[i]? = some x := by rfl) (hv : Vis X.env.scope x := by first | exact Or.inl rfl | exact Or.inr (Or.inl rfl) | exact Or.inr (Or.inr rfl))
    (hd : (x == ("__debug__" : Str)) = false := by decide) (hcd : (x == ("__classdict__" : Str)) = false := by decide)
    (pe : PE X (.Name x p1) (tVar i) → PA X [e] (tCons te tNil) → PE X (.Call (.Attribute (.Name x p1) "index" p2) [e] [] p3) (tBM X.K "list" (rIndex X.K) (tVar i) (tCons te tNil)) := by exact fun h1 h2 => pe_bm PySem.F.plainAttrs_list PySem.F.slot_list_index PySem.F.type_list_index mt_index h1 h2)
    (he : starEach [e] X.env = (false, eval e X.env) :: starEach [] X.env := by rfl) :
    DE K E X Γ (.Call (.Attribute (.Name x p1) "index" p2) [e] [] p3) (tBM K "list" (rIndex K) (tVar i) (tCons te tNil)) .fr (gIdxB i g) := by
  have e0 := U.K
  subst e0
  exact ⟨pe (pe_var hN hv hd hcd) (pa_cons h.pe pa_nil he), se_idxB hi h.se⟩
end
end
end DL
namespace L2
open PySem PySem.Spec PyProof.Rows
theorem refsVE_tail : ∀ l : List Value, PySem.W.excTail PySem.HandSPX.veTail l = true → PySem.HandSPX.refsVE l = true := by
  intro l
  induction l with
  | nil => intro e; exact e
  | cons a r ih =>
    intro e
    rcases PySem.W.excTail_cases (a :: r) e with ⟨c, r', q, h⟩ | q
    · obtain ⟨rfl, rfl⟩ := List.cons.inj q
      exact ih h
    · rw [q]
      rfl
theorem oexC_of {K : Frag} {C : Addr} (q : PySem.W.excInitIn K C [.type "ValueError", .type "Exception", .type "BaseException", .type "object"] "ValueError.__new__" = true) (hd : hasDictIn K C = true)
    (sa : findIn K (.ref C) "__setattr__" = some (some (.builtin "object.__setattr__"))) (exC : PySem.W.subIn K (.ref C) (.type "BaseException") = some true) (tyC : PySem.W.typeIn K (.ref C) = some (.type "type")) (kC : keepIn K (.ref C) = true) : OexC K C := by
  refine ⟨?_, sa, exC, tyC, kC⟩
  unfold PySem.W.excInitIn at q
  split at q
  · rename_i dd cd sl ho
    split at q
    · rename_i C' bm k0 k1 k2 k3 n k5 hm hs
      simp only [Bool.and_eq_true, beq_iff_eq, Bool.not_eq_true'] at q
      obtain ⟨⟨⟨rfl, rfl⟩, hdel⟩, ht⟩ := q
      obtain ⟨cd', hc', hdd⟩ := PySem.W.any_some hd
      obtain ⟨nm, bs, mro, ns, qn, hdc, sn, sub, ab, col, del⟩ := cd
      dsimp only at hm hdel
      subst hm hdel
      have hsl : sl = #[k0, k1, k2, k3, some (.builtin "ValueError.__new__"), k5] := by
        obtain ⟨l⟩ := sl
        simp only at hs
        rw [hs]
      subst hsl
      have e : cd' = ⟨nm, bs, .ref C' :: bm, ns, qn, hdc, sn, sub, ab, col, false⟩ := by
        unfold PySem.W.clsIn at hc'
        rw [ho] at hc'
        exact (Option.some.inj hc').symm
      rw [e] at hdd
      have hdd : hdc = true := hdd
      subst hdd
      exact ⟨nm, qn, ns, bs, bm, sn, sub, ab, col, dd, k0, k1, k2, k3, k5, ho, refsVE_tail bm ht⟩
    · cases q
  · cases q
section
variable {X : Cx} {e : Expr} {es : List Expr} {ta : TA} {p1 p2 pos : Pos}
/-- C.__init__(self, ..), C an own class that has ValueError's -/
theorem pe_oinit {pl : Sem Bool} {x : Str} {C : Addr} {mc : Value} (hg : Gl X x) (hm : X.mg x = some (.ref C)) (r : ClX.CRead X.K C mc) (vV : PySem.W.findCls X.K (.ref C) mc "__init__" = some (.val (.builtin "ValueError.__init__"))) (ha : PA X (e :: es) ta)
    (hc : eval (.Call (.Attribute (.Name x p1) "__init__" p2) (e :: es) [] pos) X.env = (do
      let ov ← eval (.Name x p1) X.env; standAt p2.atName; let (f, first) ← holding [ov] (getMethod ov "__init__" pl)
      callWith pos f first (backTo pos (starEach (e :: es) X.env)) (backToKw pos (keywordEach [] X.env)))) (hdb : (x == ("__debug__" : Str)) = false := by decide)
    (he : starEach (e :: es) X.env = (false, eval e X.env) :: starEach es X.env := by rfl) (hpl : (backTo pos (starEach es X.env)).any (·.1) = false := by rfl) :
    PE X (.Call (.Attribute (.Name x p1) "__init__" p2) (e :: es) [] pos) (tVeI X.K ta) := by
  refine ⟨fun pins s σ H Q I h => ?_⟩
  refine PySem.W.methodCall_KW (pl := pl) (thn ((pe_glob (v := .ref C) hg hm rfl hdb).run pins s σ H (fun v H1 => v = .ref C ∧ H1 = H) I ⟨rfl, rfl⟩) fun u s1 ⟨v, H1, I1, rx, ev, eH⟩ => ?_) hc
  subst ev eH
  cases rx
  refine PySem.W.method_cls I1.kIn r.ga (PySem.W.cls_value I1.kIn r.rd vV rfl ?_)
  refine PyProof.Rows.callWith_method1 (thn (ha.run pos pins _ σ _ _ (I1.tok _) h) fun us s2 ⟨vs, H2, I2, r2, a, D, ws, ev, hl, T, ea, q⟩ => ?_) he hpl
  subst ev
  cases r2 with
  | @cons _ u0 _ ur ra rw' =>
    obtain rfl : u0 = Value.ref a := ra
    have hlen : ur.length ≤ sizeLine := by
      rw [← Paired.length rw', sizeLine_eq]
      omega
    exact oinit_ok T I2 ea hlen fun s' J => ⟨.non, H2, J, rfl, q⟩
end
end L2
namespace DL
open PySem L2
variable [Tbs]
/-- what __init__(self, row) of such a class promises -/
def spRow (K : Frag) : Sp := fun vs H Q _ => ∃ (a C : Addr) (v : V), vs = [.ref a, v] ∧ OexC K C ∧ findIn K (.ref C) "row" = some none ∧ H a = some (exo a C none) ∧ ∀ dx, H dx = none → dx ≠ a → Q .non (upd (upd H dx (exd dx [("row", v)])) a (exo a C (some dx)))
section
variable {P : Program} {w : World} {K : Frag} {mg : Str → Option Value} {base : Heap} {a CP : Addr} {fd : FuncData} {qual cx : Str} {st : Stmt} {p1 p2 p3 p4 p5 p6 p7 p8 p9 : Pos} {mc : Value}
omit [Tbs] in
theorem init_row (F : Fun K "__init__" qual st a fd) (S : FnScope ["self", "row"] ["self", "row"] (defScope st))
    (hb : defBody st = [.Expr (.Call (.Attribute (.Name cx p5) "__init__" p6) [.Name "self" p7, .Name "row" p9] [] p8) p8, .Assign [.Attribute (.Name "self" p1) "row" p2] (.Name "row" p3) p4])
    (hC : mg cx = some (.ref CP)) (r : ClX.CRead K CP mc) (c : PySem.W.findCls K (.ref CP) mc "__init__" = some (.val (.builtin "ValueError.__init__")))
    (hg : (defScope st).names.lookup cx = some .globalImplicit := by rfl) (hdb : (cx == ("__debug__" : Str)) = false := by decide)
    (hs : ∀ env : Env, swapsWith (.Name "row" p3) (some (.Attribute (.Name "self" p1) "row" p2)) p4.line env = pure false := by intro _; rfl)
    (ht : ∀ env : Env, eval (.Call (.Attribute (.Name cx p5) "__init__" p6) [.Name "self" p7, .Name "row" p9] [] p8) env = (do
      let ov ← eval (.Name cx p5) env; standAt p6.atName; let (f, first) ← holding [ov] (getMethod ov "__init__" (plainOf (.Name cx p5) env))
      callWith p8 f first (backTo p8 (starEach [.Name "self" p7, .Name "row" p9] env)) (backToKw p8 (keywordEach [] env))) := by intro _; rfl)
    (hv : Vis (defScope st) "self" := by first | exact Or.inl rfl | exact Or.inr (Or.inl rfl)) (hv2 : Vis (defScope st) "row" := by first | exact Or.inl rfl | exact Or.inr (Or.inl rfl)) :
    FnOk P w K mg base (L2.CX P w) 1 a fd ["self", "row"] (spRow K) := by
  refine F.okX S (fun vs H Q E ⟨x, C, v, e, _⟩ => by rw [e]; rfl) fun cdv A outer s H vs Q E hr ⟨x, C, v, e, h1, h2, h3, q⟩ => ?_
  subst e
  refine ⟨_, by rw [hb]; exact pss_cons (ps_expr (pe_oinit (pl := plainOf (.Name cx p5) _) (X := cxOf (L2.CX P w) P w K mg base ["self", "row"] qual (defScope st) a cdv A outer s H E) hg hC r c (pa_cons (pe_var (i := 0) rfl hv (by decide) (by decide)) (pa_cons (pe_var (i := 1) rfl hv2 (by decide) (by decide)) pa_nil)) (ht _) hdb rfl rfl)) (pss_one (ps_ost (pe_var (i := 0) rfl hv (by decide) (by decide)) (pe_var (i := 1) rfl hv2 (by decide) (by decide)) (hs _))), ?_⟩
  refine ⟨_, rfl, _, rfl, x, C, [v], rfl, by simp, h1, h3, ?_⟩
  exact ⟨_, rfl, _, rfl, x, C, rfl, h1, h2, .inl ⟨h3, fun dx n1 n2 => q dx n1 n2⟩⟩
end
/-- an own exception class that keeps a row -/
structure RowX (P : Program) (w : World) (K : Frag) (mg : Str → Option Value) (base : Heap) (x : Str) (C : Addr) : Prop where
  ex : OexC K C
  no : findIn K (.ref C) "row" = some none
  g : mg x = some (.ref C)
  f : ∃ (fI : Addr) (fd : FuncData) (ps : List Str), findIn K (.ref C) "__init__" = some (some (.ref fI)) ∧ PySem.W.typeIn K (.ref fI) = some (.type "function") ∧ FnOk P w K mg base (L2.CX P w) 1 fI fd ps (spRow K) ∧ Binds K fd ps []
def gRaiseR (C : Addr) (g : List D → R D) : List D → R Fl := fun ρ => g ρ >>= fun d => .exc ⟨C, [d]⟩
section
variable {K : Frag} {E : XK} {X : Cx} {Γ n b c : List M} {r m : M} {k : Nat} {pos p p2 p3 : Pos} {e : Expr} {te : TE} {g : List D → R D}
/-- raise C(e) -/
theorem ds_raiseR {C : Addr} {x : Str} (U : Uni K E k X) (O : RowX X.prog X.w K X.mg X.base x C) (he : DE K E X Γ e te .fr g) (hg : Gl X x := by rfl) (hdb : (x == ("__debug__" : Str)) = false := by decide) (hk : 2 ≤ k := by decide)
    (hst : starEach [e] X.env = (false, eval e X.env) :: starEach [] X.env := by rfl) (hpl : (backTo p3 (starEach ([] : List Expr) X.env)).any (·.1) = false := by rfl) :
    DS K E X Γ (.Raise (some (.Call (.Name x p) [e] [] p3)) none pos) (fun _ σ H => tMkO C (spRow K) [] (tCons te tNil) σ H (fun cls d H' => E cls d H')) n b c r (gRaiseR C g) := by
  have e0 := U.K
  subst e0
  obtain ⟨k', rfl⟩ : ∃ k', k = k' + 1 := ⟨k - 1, by omega⟩
  obtain ⟨fI, fd, ps, f1, f2, f3, f4⟩ := O.f
  refine ⟨ps_raise (W := fun cls d _ H => E cls d H) (t := fun σ H Q => tMkO C (spRow X.K) [] (tCons te tNil) σ H Q) U.calm U.tk (pmk_oex (k := k') O.ex f1 f2 (f3.mono (by omega)) ?_ f4 .nil (fun _ _ _ _ _ _ _ z => ?_) hg O.g (pa_cons he.pe pa_nil hst) hdb hst hpl), fun F0 H0 ρ σ F H fps N rel q => ?_⟩
  · exact U.room
  · obtain ⟨_, _, _, _, _, _, _, _, _, _, _, _, h⟩ := z
    exact h.elim
  · refine he.se F0 H0 ρ σ F H fps _ rel ((RP.bind q).imp (fun d q1 v F1 H1 fp x rv f1 => ?_) fun _ z => z.on rel.x0)
    have q1 : XP X.K E F0 H0 ⟨C, [d]⟩ := q1
    refine ⟨by show 1 ≤ 1000; decide, fun a na => ⟨a, C, v, rfl, O.ex, O.no, upd_same, fun dx nd ne => ⟨rfl, dx, [("row", v)], upd_same, by rw [upd_ne ne, upd_same], ?_, ?_⟩⟩⟩
    · rw [upd_ne ne] at nd
      exact nd
    · rw [upd_ne ne] at nd
      have e : upd (L2.del (upd (upd (upd H1 a (exo a C none)) dx (exd dx [("row", v)])) a (exo a C (some dx))) a) dx (.xd [("row", v)]) = upd H1 dx (.xd [("row", v)]) := by
        funext z
        by_cases h1 : z = dx
        · rw [h1, upd_same, upd_same]
        · rw [upd_ne h1, upd_ne h1]
          by_cases h2 : z = a
          · rw [h2, L2.del_same, na]
          · rw [L2.del_ne h2, upd_ne h2, upd_ne h1, upd_ne h2]
      rw [e]
      have xl : Ext F1 H1 (upd F1 dx (.xd [("row", v)])) (upd H1 dx (.xd [("row", v)])) := Ext.laid x.fh nd
      exact q1 _ _ _ (rel.x0.trans (x.trans xl)) (.inr ⟨(fun z => nomatch z), dx, v, d, rfl, rfl, upd_same, rv.1.mono xl.f⟩)
def gPop (i : Nat) : List D → R Fl := fun ρ => match ρ.getD i .non with
  | .lst ds => if 0 < ds.length then .ok (.nx (ρ.set i (.lst ds.dropLast))) else .bad
  | _ => .bad
theorem ss_pop {i : Nat} (hi : Γ[i]? = some (.ow .fr)) : SS K E Γ Γ b c r (tDrop (tBM0 K "list" rPop (tVar i))) (gPop i) := fun F0 H0 ρ σ F H fps N rel q => by
  obtain ⟨v, hv, st, rv⟩ := rel.get hi (fun z => nomatch z)
  refine ⟨v, hv, ?_⟩
  unfold gPop at q
  cases hd : ρ.getD i .non with
  | lst ds =>
    rw [hd] at q rv
    obtain ⟨h0, q2⟩ := RP.ite q
    obtain ⟨l, vs, f1, rfl, hl, al, ef⟩ := Rv.ow_lst rv
    have q4 : FP K F0 H0 F Γ b c r N (.nx (ρ.set i (.lst ds.dropLast))) := q2
    obtain ⟨fz, e1⟩ := al.fr
    subst e1
    have ln := fz.length
    refine ⟨.inl ⟨rfl, vs, SqL.of hl⟩, ?_⟩
    have hlm : l ∈ fps i := by rw [ef]; exact List.mem_cons_self
    have hy : vs[vs.length - 1]? = some (vs[vs.length - 1]'(by omega)) := List.getElem?_eq_getElem (by omega)
    refine ⟨l, vs, _, rfl, rfl, hl, hy, ?_⟩
    have fz2 : FzL K F vs.dropLast ds.dropLast := by
      rw [List.dropLast_eq_take, List.dropLast_eq_take, ln]
      exact fz.take _
    refine q4 σ F _ (fun j => if j = i then [l] else fps j) (Same.refl F) (rel.mut hi hv st hlm ⟨l, vs.dropLast, [], rfl, upd_same, fz2.al, rfl⟩ (by simp) (fun a ha => ?_) fun jj a hjj ha hz => ?_)
    · have e : a = l := by simpa using ha
      subst e
      exact rel.ow i a hlm
    · have e : a = l := by simpa using hz
      subst e
      exact hjj (rel.dj jj i a ha hlm)
  | _ => rw [hd] at q; exact (show False from q).elim
/-- x.pop(), x an own list -/
theorem ds_pop (i : Nat) {x : Str} {p1 p2 p3 : Pos} (U : Uni K E k X) (hi : Γ[i]? = some (.ow .fr) := by rfl) (hN : X.N[i]? = some x := by rfl) (hv : Vis X.env.scope x := by first | exact Or.inl rfl | exact Or.inr (Or.inl rfl) | exact Or.inr (Or.inr rfl))
    (hd : (x == ("__debug__" : Str)) = false := by decide) (hcd : (x == ("__classdict__" : Str)) = false := by decide)
    (pe : PE X (.Name x p1) (tVar i) → PE X (.Call (.Attribute (.Name x p1) "pop" p2) [] [] p3) (tBM0 X.K "list" rPop (tVar i)) := by exact fun h1 => pe_bm0 PySem.F.plainAttrs_list PySem.F.slot_list_pop PySem.F.type_list_pop mt_pop h1)
    (hs : swapsWith (.Call (.Attribute (.Name x p1) "pop" p2) [] [] p3) none pos.line X.env = pure false := by rfl) :
    DS K E X Γ (.Expr (.Call (.Attribute (.Name x p1) "pop" p2) [] [] p3) pos) (tDrop (tBM0 K "list" rPop (tVar i))) Γ b c r (gPop i) := by
  have e0 := U.K
  subst e0
  exact ⟨ps_expr (pe (pe_var hN hv hd hcd)) hs, ss_pop hi⟩
end
end DL
namespace L2
open PySem PySem.Spec PyProof.Rows
/-- isinstance(e, c), e a kept error with a dict -/
def rIsKD (K : Frag) : List V → Hp → VK → Prop := fun xs H Q => ∃ (a C dx : Addr) (fs : List (Str × V)) (c : V) (cv : Value) (b : Bool), xs = [.ref a, c] ∧ H a = some (erO a (.ref C) (some dx)) ∧ H dx = some (.xd fs) ∧ ExcC K C ∧ (∀ u, RelV c u → u = cv) ∧ PySem.W.kitOne K (.ref C) cv = some b ∧ Q (.bl b) H
def rIsKA (K : Frag) : List V → Hp → VK → Prop := fun xs H Q => rIsK K xs H Q ∨ rIsKD K xs H Q
theorem call_isKA {X : Cx} : CallR X (.builtin "isinstance") (rIsKA X.K) := by
  intro pins s σ H xs us Q I r h
  rcases h with h | h
  · exact call_isK pins s σ H xs us Q I r h
  obtain ⟨a, C, dx, fs, c, cv, b, rfl, ha, hdx, ec, hcv, hk, q⟩ := h
  cases r with
  | cons rx rr =>
    cases rr with
    | cons rt rr =>
      cases rr
      cases rx
      cases hcv _ rt
      obtain ⟨⟨oe, vs, hoe, hz, hv⟩, _, _⟩ := I.hok a _ ha
      have hx : ObjOk X.prog X.w H s.heap dx (.xd fs) := I.hok dx _ hdx
      obtain ⟨mA, hns, _⟩ := hx
      obtain ⟨od, ho, _⟩ := lookIn_ns hns
      have J : PySem.W.InstAt s.heap a oe C (some od) := by
        obtain ⟨oc, oo, oda, osl⟩ := oe
        obtain ⟨h1, h2⟩ := hz
        dsimp only at h1 h2 hv
        subst h1 h2 hv
        exact ⟨hoe, rfl, rfl, ho⟩
      have hcl : (PySem.W.clsIn X.K C).isSome = true := by
        obtain ⟨cd, hc, _⟩ := PySem.W.any_some ec.hd
        rw [hc]; rfl
      exact PySem.W.kia_one (PySem.W.kitx_exc hcl ec.hg ec.hk ec.hs ec.ha ec.hn ec.ht ec.hm) I.kIn J hk (fun z => nomatch z) fun tk => ⟨.bl b, H, I.kept (t' := tk) fun _ _ z => z, rfl, q⟩
/-- e.f, e a kept error with a dict -/
def tKx (K : Frag) (f : Str) (te : TE) : TE := fun σ H Q => te σ H fun x H1 => ∃ (a C dx : Addr) (fs : List (Str × V)) (v : V), x = .ref a ∧ H1 a = some (erO a (.ref C) (some dx)) ∧ H1 dx = some (.xd fs) ∧ ExcC K C ∧ findIn K (.ref C) f = some none ∧ fs.lookup f = some v ∧ Q v H1
theorem pe_kx {X : Cx} {e : Expr} {te : TE} {pos : Pos} {f : Str} (he : PE X e te) (hb : attributeBase e f X.env (eval e X.env) = eval e X.env := by rfl) : PE X (.Attribute e f pos) (tKx X.K f te) := by
  refine ⟨fun pins s σ H Q I h => ?_⟩
  refine attr_of hb (thn (he.run pins s σ H _ I h) fun u s1 ⟨x, H1, I1, rx, a, C, dx, fs, v, ex, ha, hdx, T, hno, l, q⟩ => ?_)
  subst ex
  obtain rfl : u = Value.ref a := rx
  obtain ⟨⟨oe, vs, hoe, hz, hv⟩, _, _⟩ := I1.hok a _ ha
  have hx : ObjOk X.prog X.w H1 s1.heap dx (.xd fs) := I1.hok dx _ hdx
  obtain ⟨mA, hns, hr⟩ := hx
  obtain ⟨od, ho, hl⟩ := lookIn_ns hns
  obtain ⟨u, hu, ru⟩ := RelO.some_of (v := v) (o := mA f) (by rw [← l]; exact hr f)
  have J : PySem.W.InstAt s1.heap a oe C (some od) := by
    obtain ⟨oc, oo, oda, osl⟩ := oe
    obtain ⟨h1, h2⟩ := hz
    dsimp only at h1 h2 hv
    subst h1 h2 hv
    exact ⟨hoe, rfl, rfl, ho⟩
  exact HandSPX.exc_get I1.kIn J T.hg T.hk T.hs (PySem.W.findObj_own T.hd hno rfl (by rw [hl, hu])) (handed_of ru) ⟨v, H1, I1.tok _, ru, q⟩
end L2
namespace DL
open PySem L2
variable [Tbs]
def gTryKR (y : Nat) (g : List D → R Fl) (cs : List Addr) : List D → R Fl := fun ρ => match g ρ with
  | .ok fl => .ok fl
  | .exc x => if x.cls ∈ cs ∧ x.ds.length ≤ 1 then .ok (.nx (ρ.set y (.ex x.cls x.ds))) else .bad
  | .bad => .bad
section
variable {K : Frag} {E : XK} {X : Cx} {Γ b c : List M} {r m : M} {k i y : Nat} {s : Stmt} {pos pn ph : Pos} {cx nx : Str}
/-- try: s / except C as n: y = n, the error with its row -/
theorem ds_tryKR (y i : Nat) {P : Addr} {cs : List Addr} {yn : Str} {tb : (St → XK) → TS} {gb : List D → R Fl} {p2 p3 p4 : Pos}
    (U : Uni K E k X) (hb : DBx K X Γ s tb b c r gb) (hP : X.mg cx = some (.ref P)) (hx : ∀ C ∈ cs, PySem.W.exmOne K (.ref C) (.ref P) = some true)
    (hy : Γ[y]? = some .fr := by rfl) (hi : Γ[i]? = some .un := by rfl) (hNy : X.N[y]? = some yn := by rfl) (hNi : X.N[i]? = some nx := by rfl) (hln : X.env.kindOf nx = some .local := by rfl)
    (hly : Loc X.env.scope yn := by first | exact Or.inl rfl | exact Or.inr rfl) (hfn : X.fn yn = true ∨ X.env.scope.names.lookup yn = some .local := by first | exact .inl rfl | exact .inr rfl)
    (hvn : Vis X.env.scope nx := by first | exact Or.inl rfl | exact Or.inr (Or.inl rfl) | exact Or.inr (Or.inr rfl)) (hd : (nx == ("__debug__" : Str)) = false := by decide) (hcd : (nx == ("__classdict__" : Str)) = false := by decide)
    (hsw : swapsWith (.Name nx p3) (some (.Name yn p2)) p4.line X.env = pure false := by rfl)
    (hs : X.stack = X.env :: X.outer := by rfl) (hf : X.env.frame = some X.env.locals := by rfl) (hgc : Gl X cx := by rfl) (hdc : (cx == ("__debug__" : Str)) = false := by decide) :
    DS K E X Γ (.Try [s] [.ExceptHandler (some (.Name cx pn)) (some nx) [.Assign [.Name yn p2] (.Name nx p3) p4] ph] [] [] pos)
      (fun D σ H => tb (WE (wKeep K (.ref P) i (fun _ _ _ => tAsg (tVar i) (gName y)) (fun cls d _ H => E cls d H) D)) D σ H) Γ b c r (gTryKR y gb cs) := by
  have e0 := U.K
  subst e0
  refine ⟨ps_try_keep (tb := fun W => tb (WE W)) (ts := fun _ _ _ => tAsg (tVar i) (gName y)) (Wout := fun cls d _ H => E cls d H) hs hf U.nd hNi hln ⟨hgc, hdc, .inl hP⟩ U.tk (fun W pn xe tk po => hb.ps W pn xe tk po) (fun a cls d pn => ?_), fun F0 H0 ρ σ F H fps N rel q => ?_⟩
  · exact pss_one (ps_set (X := X.suite a pn) U.nd hNy hly (pe_var hNi hvn hd hcd) hsw hfn)
  · refine hb.ss _ F0 H0 ρ σ F H fps _ rel ?_
    unfold gTryKR at q
    cases hfr : gb ρ with
    | ok fl =>
      rw [hfr] at q
      exact q
    | exc x =>
      rw [hfr] at q
      intro F' H' dx ext eok
      obtain ⟨xc, xd⟩ := x
      by_cases hm : xc ∈ cs ∧ xd.length ≤ 1
      · have q2 : FP X.K F0 H0 F Γ b c r N (.nx (ρ.set y (.ex xc xd))) := by
          have := q
          simp only [hm, and_self, if_true] at this
          exact this
        refine ⟨true, hx xc hm.1, (fun z => nomatch z), fun _ a na => ?_⟩
        have hil : i < σ.length := by have := (List.getElem?_eq_some_iff.mp hi).1; rw [rel.lg] at this; exact this
        refine ⟨.ref a, by rw [List.getElem?_set_self hil], ?_⟩
        have rel1 := (rel.ext ext).free (i := i) (z := some (.ref a)) hi
        have xl : Ext F' H' (upd F' a (erO a (.ref xc) dx)) (upd H' a (erO a (.ref xc) dx)) := Ext.laid rel1.fh na
        have fz : Fz X.K (upd F' a (erO a (.ref xc) dx)) (.ref a) (.ex xc xd) := by
          rcases eok with ⟨h1, h2⟩ | ⟨h1, a2, v, d, h2, h3, h4, h5⟩
          · have h2 : xd = [] := h2
            subst h1 h2
            exact .ex (by rw [upd_same]; rfl)
          · have h3 : xd = [d] := h3
            subst h2 h3
            have ne : a2 ≠ a := fun z => by
              have q := rel1.fh.at_ h4
              rw [z, na] at q
              cases q
            exact .exr (by rw [upd_same]; rfl) (by rw [upd_ne ne]; exact h4) (h5.mono xl.f)
        have rel2 := rel1.store (m := .fr) (v := .ref a) (d := .ex xc xd) xl (by have := (List.getElem?_eq_some_iff.mp hy).1; exact this) rfl ⟨fz, rfl⟩ Fresh.nil
        rw [set_self hy] at rel2
        exact q2 _ _ _ _ (ext.f.trans xl.f) (rel2.free (i := i) (z := none) hi)
      · simp only [hm, if_false] at q
        exact (show False from q).elim
    | bad => rw [hfr] at q; exact q
def dIsKA (tab : List (Addr × Bool)) : D → R D
  | .ex C _ => oR ((tab.lookup C).map .bl)
  | _ => .bad
end
section
variable {K : Frag} {E : XK} {X : Cx} {Γ : List M} {a e : Expr} {ta te : TE} {g ga : List D → R D} {p p1 p2 p3 pos : Pos} {k : Nat}
theorem se_isKA {cV : V} {cv : Value} {tab : List (Addr × Bool)} (hv : ∀ u, RelV cV u → u = cv) (ht : IsK K cv tab) (h : SE K E Γ te .fr g) : SE K E Γ (tCB (rIsKA K) (tCons te (tCons (tC cV) tNil))) .fr (g1 (dIsKA tab) g) := fun F0 H0 ρ σ F H fps Q r q => by
  refine h F0 H0 ρ σ F H fps _ r ((RP.bind q).imp (fun d hd v F1 H1 fp1 x1 rv f1 => ?_) fun _ z => z)
  show rIsKA K [v, cV] H1 Q
  cases d with
  | ex C ds =>
    obtain ⟨d, hl, hq⟩ := oR_ok (show RP (oR _) _ _ from hd)
    obtain ⟨b, hb, rfl⟩ := Option.map_eq_some_iff.mp hl
    obtain ⟨q1, q2⟩ := ht (C, b) (lookup_memF hb)
    have fz : Fz K F1 v (.ex C ds) := rv.1
    generalize hdd : D.ex C ds = dd at fz
    cases fz with
    | @ex a C2 h1 =>
      cases hdd
      exact .inl ⟨a, C, cV, cv, b, rfl, x1.fh.at_ h1, q1, hv, q2, hq (.bl b) F1 H1 [] x1 ⟨.bl b, rfl⟩ Fresh.nil⟩
    | @exr a C2 dx v d h1 h2 h3 =>
      cases hdd
      exact .inr ⟨a, C, dx, _, cV, cv, b, rfl, x1.fh.at_ h1, x1.fh.at_ h2, q1, hv, q2, hq (.bl b) F1 H1 [] x1 ⟨.bl b, rfl⟩ Fresh.nil⟩
    | _ => cases hdd
  | _ => exact (show False from hd).elim
theorem de_isKA {C0 : Addr} {tab : List (Addr × Bool)} {x : Str} (U : Uni K E k X) (ht : IsK K (.ref C0) tab) (hC : X.mg x = some (.ref C0)) (h : DE K E X Γ a ta .fr ga) (hg : Gl X "isinstance" := by rfl) (hg2 : Gl X x := by rfl) (hd : (x == ("__debug__" : Str)) = false := by decide)
    (he : starEach [a, (.Name x p2 : Expr)] X.env = (false, eval a X.env) :: starEach [(.Name x p2 : Expr)] X.env := by rfl) (he2 : starEach [(.Name x p2 : Expr)] X.env = (false, eval (.Name x p2) X.env) :: starEach [] X.env := by rfl) (hpl : (backTo pos (starEach [(.Name x p2 : Expr)] X.env)).any (·.1) = false := by rfl) :
    DE K E X Γ (.Call (.Name "isinstance" p) [a, .Name x p2] [] pos) (tCB (rIsKA K) (tCons ta (tCons (tC (.ref C0)) tNil))) .fr (g1 (dIsKA tab) ga) := by
  have e0 := U.K
  subst e0
  exact ⟨pe_callB call_isKA hg U.bn.isinstance (by decide +kernel) (pa_cons h.pe (pa_cons (pe_glob (v := .ref C0) hg2 hC rfl hd) pa_nil he2) he) (by decide) (by decide) he hpl, se_isKA (fun u r => by cases r; rfl) ht h.se⟩
theorem de_isKAb (T : String) {tab : List (Addr × Bool)} {x : Str} (U : Uni K E k X) (ht : IsK K (.type T) tab) (hC : X.mg x = none) (hb : bootBuiltins x = some (.type T)) (h : DE K E X Γ a ta .fr ga) (hg : Gl X "isinstance" := by rfl) (hg2 : Gl X x := by rfl) (hd : (x == ("__debug__" : Str)) = false := by decide) (hn2 : x ≠ "__name__" := by decide)
    (he : starEach [a, (.Name x p2 : Expr)] X.env = (false, eval a X.env) :: starEach [(.Name x p2 : Expr)] X.env := by rfl) (he2 : starEach [(.Name x p2 : Expr)] X.env = (false, eval (.Name x p2) X.env) :: starEach [] X.env := by rfl) (hpl : (backTo pos (starEach [(.Name x p2 : Expr)] X.env)).any (·.1) = false := by rfl) :
    DE K E X Γ (.Call (.Name "isinstance" p) [a, .Name x p2] [] pos) (tCB (rIsKA K) (tCons ta (tCons (tC (.ty T)) tNil))) .fr (g1 (dIsKA tab) ga) := by
  have e0 := U.K
  subst e0
  exact ⟨pe_callB call_isKA hg U.bn.isinstance (by decide +kernel) (pa_cons h.pe (pa_cons (pe_bltn (v := .ty T) hg2 hC hb rfl hn2 hd) pa_nil he2) he) (by decide) (by decide) he hpl, se_isKA (fun u r => r) ht h.se⟩
/-- the classes whose errors' rows are read -/
def KxC (K : Frag) (cs : List Addr) : Prop := ∀ C ∈ cs, ExcC K C ∧ findIn K (.ref C) "row" = some none
def dRow (cs : List Addr) : D → R D
  | .ex C [d] => if C ∈ cs then .ok d else .bad
  | _ => .bad
/-- e.row -/
theorem de_row {cs : List Addr} (U : Uni K E k X) (hC : KxC K cs) (h : DE K E X Γ a ta .fr ga) (hb : attributeBase a "row" X.env (eval a X.env) = eval a X.env := by rfl) : DE K E X Γ (.Attribute a "row" pos) (tKx K "row" ta) .fr (g1 (dRow cs) ga) := by
  have e0 := U.K
  subst e0
  refine ⟨pe_kx h.pe hb, fun F0 H0 ρ σ F H fps Q r q => ?_⟩
  refine h.se F0 H0 ρ σ F H fps _ r ((RP.bind q).imp (fun d hd v F1 H1 fp1 x1 rv f1 => ?_) fun _ z => z)
  cases d with
  | ex C ds =>
    have fz : Fz X.K F1 v (.ex C ds) := rv.1
    generalize hdd : D.ex C ds = dd at fz
    cases fz with
    | @ex a C2 h1 =>
      cases hdd
      exact (show False from hd).elim
    | @exr a C2 dx v d h1 h2 h3 =>
      cases hdd
      obtain ⟨cm, q2⟩ := RP.ite (show RP (if C ∈ cs then R.ok d else R.bad) _ _ from hd)
      obtain ⟨c1, c2⟩ := hC C cm
      exact ⟨a, C, dx, _, v, rfl, x1.fh.at_ h1, x1.fh.at_ h2, c1, c2, by rw [List.lookup_cons, beq_self_eq_true], (show VP X.K H0 F H .fr d Q from q2) v F1 H1 [] x1 ⟨h3, rfl⟩ Fresh.nil⟩
    | _ => cases hdd
  | _ => exact (show False from hd).elim
end
end DL
namespace DL
open PySem L2
variable [Tbs]
def sIx (k : Str) : List Str → Option Nat
  | [] => none
  | b :: bs => if (b == k) = true then some 0 else (sIx k bs).map (· + 1)
omit [Tbs] in
theorem sIx_at {k : Str} : ∀ {bs : List Str} {j : Nat}, sIx k bs = some j → ∃ z, bs[j]? = some z ∧ (z == k) = true ∧ ∀ (m : Nat) (y : Str), m < j → bs[m]? = some y → (y == k) = false
  | [], j, h => nomatch h
  | b :: bs, j, h => by
    have h : (if (b == k) = true then some 0 else (sIx k bs).map (· + 1)) = some j := h
    by_cases e : (b == k) = true
    · rw [if_pos e] at h
      cases h
      exact ⟨b, rfl, e, fun m _ hm => absurd hm (Nat.not_lt_zero m)⟩
    · rw [if_neg e] at h
      obtain ⟨i, hi, rfl⟩ := Option.map_eq_some_iff.mp h
      obtain ⟨z, r1, r2, r3⟩ := sIx_at hi
      refine ⟨z, by simpa using r1, r2, fun m y hm hy => ?_⟩
      cases m with
      | zero =>
        have : b = y := by simpa using hy
        rw [← this]
        exact Bool.eq_false_iff.mpr e
      | succ m => exact r3 m y (by omega) (by simpa using hy)
def dIdxS (ds : List D) : D → R D
  | .str s => (match (tsD ds).bind (sIx s) with
    | some j => .ok (.int (j : Nat))
    | none => .bad)
  | _ => .bad
def gIdxS (go ga : List D → R D) : List D → R D := fun ρ => go ρ >>= fun d => match d with
  | .lst ds => ga ρ >>= fun e => dIdxS ds e
  | _ => .bad
section
variable {K : Frag} {E : XK} {X : Cx} {Γ : List M} {o e : Expr} {to te : TE} {m m2 : M} {go ga : List D → R D} {p2 p3 : Pos} {k : Nat}
/-- o.index(e) -/
theorem de_idxS (U : Uni K E k X) (ho : DE K E X Γ o to m go) (he : DE K E X Γ e te m2 ga)
    (pe : PE X o to → PA X [e] (tCons te tNil) → PE X (.Call (.Attribute o "index" p2) [e] [] p3) (tBM X.K "list" (rIndex X.K) to (tCons te tNil)) := by exact fun h1 h2 => pe_bm PySem.F.plainAttrs_list PySem.F.slot_list_index PySem.F.type_list_index mt_index h1 h2)
    (hs : starEach [e] X.env = (false, eval e X.env) :: starEach [] X.env := by rfl) :
    DE K E X Γ (.Call (.Attribute o "index" p2) [e] [] p3) (tBM K "list" (rIndex K) to (tCons te tNil)) .fr (gIdxS go ga) := by
  have e0 := U.K
  subst e0
  refine ⟨pe ho.pe (pa_cons he.pe pa_nil hs), fun F0 H0 ρ σ F H fps Q r q => ?_⟩
  refine ho.se.pk F0 H0 ρ σ F H fps _ r ((RP.bind q).imp (fun d q1 v F1 H1 fp x rv f => ?_) fun _ z => z)
  cases d with
  | lst ds =>
    obtain ⟨l, vs, rfl, h1, h2⟩ := rv.1.listOf x.fh
    refine ⟨.inl ⟨rfl, vs, h1⟩, ?_⟩
    refine he.se.pk F0 H0 ρ σ F1 H1 fps _ (r.ext x) ((RP.bind (show RP (ga ρ >>= fun e => dIdxS ds e) _ _ from q1)).imp (fun d2 q2 w F2 H2 fp2 x2 rv2 f2 => ?_) fun _ z => z.on x)
    cases d2 with
    | str s =>
      have q3 : RP (match (tsD ds).bind (sIx s) with
        | some j => R.ok (D.int (j : Nat))
        | none => .bad) (fun d => VP X.K H0 F H .fr d Q) _ := q2
      cases hj : (tsD ds).bind (sIx s) with
      | none => rw [hj] at q3; exact (show False from q3).elim
      | some j =>
        rw [hj] at q3
        obtain ⟨ys, ha, hb⟩ := Option.bind_eq_some_iff.mp hj
        obtain rfl := tsD_eq ha
        obtain rfl := h2.textsOf
        obtain ⟨z, r1, r2, r3⟩ := sIx_at hb
        refine ⟨l, ys.map V.str, .str s, j, .str z, rfl, by rw [rv2.1.strOf], x2.h.seq h1, rfl, ?_, ?_, r2, ?_, VP.old (VP.on (show VP X.K H0 F H .fr (.int (j : Nat)) Q from q3) (x.trans x2)) x2.fh (.int _)⟩
        · refine List.all_eq_true.mpr fun z hz => ?_
          obtain ⟨n, _, rfl⟩ := List.mem_map.mp hz
          rfl
        · rw [List.getElem?_map, r1]; rfl
        · intro m z' hm hz
          rw [List.getElem?_map] at hz
          obtain ⟨n, hn, rfl⟩ := Option.map_eq_some_iff.mp hz
          exact r3 m n hm hn
    | _ => exact (show False from q2).elim
  | _ => exact (show False from q1).elim
end
end DL
namespace LW
open PySem L2 DL
def topS (i : Nat) : Stmt := PySem.Challenge.pw_pointpress_k08_where_it_fails.main.body.getD i (.Pass ⟨0, 0, 0, 0⟩)
def clsS (i j : Nat) : Stmt := match topS i with
  | .ClassDef (body := b) .. => b.getD j (.Pass ⟨0, 0, 0, 0⟩)
  | s => s
abbrev s_number_by : Stmt := topS 10
abbrev N_number_by : List Str := ["word", "sign"]
theorem sc_number_by : FnScope N_number_by ["word"] (defScope s_number_by) := ⟨rfl, rfl, rfl, by decide +kernel, rfl, by decide +kernel, by decide +kernel⟩
def g_number_by : List D → R Fl :=
  (gSeq (gIte (gOr (gNot (gB (gChain oLe oLe (gc (.int 1)) (gAll dLen (gsC (gv 0) gsN)) (gc (.int 9))))) (gNot (gB (gAll dAll (gsC (gLc (gIter (gv 0)) (gtN 1) gtt (g2 (dInS false) (gv 1) (gc (.str (Str.ofString "0123456789"))))) gsN)))))
  (gRet (gc .non))
  gNx)
  (gRet (gIf (gB (g2 dEq (gAll dStrI (gsC (gAll dIntT (gsC (gv 0) gsN)) gsN)) (gv 0))) (gAll dIntT (gsC (gv 0) gsN)) (gc .non))))
def f_number_by : List D → R D := runF 2 g_number_by
theorem f_number_by_run (d0 : D) : f_number_by [d0] = (g_number_by [d0, .non] >>= finF) := rfl
theorem D_number_by [Tbs] {P : Program} {w : World} {K : Frag} {mg : Str → Option Value} {base : Heap} {a : Addr} {fd : FuncData} (B : Bn mg) (h_FIGURES : Cst K mg "FIGURES" (.str (Str.ofString "0123456789")) (.str (Str.ofString "0123456789"))) (h_MOST_FIGURES : Cst K mg "MOST_FIGURES" (.int 9) (.int 9)) (F : Fun K "number_by" "number_by" s_number_by a fd) :
    FnOk P w K mg base (L2.CX P w) 1 a fd ["word"] (spD K [.fr] M.fr f_number_by) := by
  obtain ⟨_, h1_FIGURES, h2_FIGURES, h3_FIGURES⟩ := h_FIGURES
  obtain ⟨_, h1_MOST_FIGURES, h2_MOST_FIGURES, h3_MOST_FIGURES⟩ := h_MOST_FIGURES
  exact fn_body (N := N_number_by) (k := 0) (n := []) (b := []) (c := []) g_number_by rfl B F sc_number_by rfl rfl fun cdv A outer s H E U => ⟨_, (dss_cons (n := [M.fr, M.un]) (ds_if (DW.dt (dw_or (dt_not (dt_lele de_int (de_len U (de_v 0)) (de_glob h1_MOST_FIGURES h2_MOST_FIGURES h3_MOST_FIGURES))) (dw_or1 (dt_not (dt_val (de_all U (de_lc (own := [("sign", 1)]) (Γ' := [M.fr, M.fr]) U (di_any U (de_v 0)) (blkOk_by (own := [("sign", 1)]) (N := N_number_by) (sc := defScope s_number_by) (by decide +kernel)) (fun _ _ _ _ _ U => (dg_name 1 U)) (fun _ _ _ _ _ U => dts_nil) (fun _ _ _ _ _ U => (de_inS (de_v 1) (de_glob h1_FIGURES h2_FIGURES h3_FIGURES))))))))))
  (dss_one (ds_ret de_non))
  dss_nil)
  (dss_one (ds_ret (de_if (dt_eq U (de_strI U (de_intT U (de_v 0)) U.bn.str) (de_v 0)) (de_intT U (de_v 0)) de_non))))⟩
abbrev s_numbers_by : Stmt := topS 11
abbrev N_numbers_by : List Str := ["words", "many", "low", "high", "found", "word", "number"]
theorem sc_numbers_by : FnScope N_numbers_by ["words", "many", "low", "high"] (defScope s_numbers_by) := ⟨rfl, rfl, rfl, by decide +kernel, rfl, by decide +kernel, by decide +kernel⟩
def g_numbers_by : List D → R Fl :=
  (gSeq (gIte (gB (g2 dNe (gAll dLen (gsC (gv 0) gsN)) (gv 1)))
  (gRet (gc .non))
  gNx)
  (gSeq (gSet 4 (gAll dLst gsN))
  (gSeq (gFor (gIter (gv 0)) (gtN 5)
  (gSeq (gSet 6 (gAll f_number_by (gsC (gv 5) gsN)))
  (gSeq (gIte (gOr (gB (g2 dIsN (gv 6) (gc .non))) (gNot (gB (gChain oLe oLe (gv 2) (gv 6) (gv 3)))))
  (gRet (gc .non))
  gNx)
  (gApp 4 (gv 6)))))
  (gRet (gAll (dTuple true) (gsC (gv 4) gsN))))))
def f_numbers_by : List D → R D := runF 7 g_numbers_by
theorem f_numbers_by_run (d0 d1 d2 d3 : D) : f_numbers_by [d0, d1, d2, d3] = (g_numbers_by [d0, d1, d2, d3, .non, .non, .non] >>= finF) := rfl
theorem D_numbers_by [Tbs] {P : Program} {w : World} {K : Frag} {mg : Str → Option Value} {base : Heap} {a : Addr} {fd : FuncData} (B : Bn mg) (h_number_by : FnD P w K mg base 1 "number_by" [.fr] M.fr f_number_by) (F : Fun K "numbers_by" "numbers_by" s_numbers_by a fd) :
    FnOk P w K mg base (L2.CX P w) 2 a fd ["words", "many", "low", "high"] (spD K [.fr, .fr, .fr, .fr] M.fr f_numbers_by) := by
  exact fn_body (N := N_numbers_by) (k := 1) (n := []) (b := []) (c := []) g_numbers_by rfl B F sc_numbers_by rfl rfl fun cdv A outer s H E U => ⟨_, (dss_cons (n := [M.fr, M.fr, M.fr, M.fr, M.un, M.un, M.un]) (ds_if (dt_ne U (de_len U (de_v 0)) (de_v 1))
  (dss_one (ds_ret de_non))
  dss_nil)
  (dss_cons (n := [M.fr, M.fr, M.fr, M.fr, (M.ow M.fr), M.un, M.un]) (ds_set 4 U (de_lst (m := M.fr) du_nil))
  (dss_cons (n := [M.fr, M.fr, M.fr, M.fr, (M.ow M.fr), M.un, M.un]) (ds_for (Γ := [M.fr, M.fr, M.fr, M.fr, (M.ow M.fr), M.un, M.un]) U (di_any U (de_v 0)) (dg_name 5 U)
  (DSs.post (dss_cons (n := [M.fr, M.fr, M.fr, M.fr, (M.ow M.fr), M.fr, M.fr]) (ds_set 6 U (de_call U h_number_by (da_f (de_v 5) da_nil)))
  (dss_cons (n := [M.fr, M.fr, M.fr, M.fr, (M.ow M.fr), M.fr, M.fr]) (ds_if (DW.dt (dw_or (dt_isN (de_v 6) de_non) (dw_or1 (dt_not (dt_lele (de_v 2) (de_v 6) (de_v 3))))))
  (dss_one (ds_ret de_non))
  dss_nil)
  (dss_one (ds_app 4 U (de_v 6))))) (.un 5 rfl (.un 6 rfl .refl))))
  (dss_one (ds_ret (de_tupleP U (de_vp 4)))))))⟩
abbrev s_head_by : Stmt := topS 12
abbrev N_head_by : List Str := ["words", "found"]
theorem sc_head_by : FnScope N_head_by ["words"] (defScope s_head_by) := ⟨rfl, rfl, rfl, by decide +kernel, rfl, by decide +kernel, by decide +kernel⟩
def g_head_by : List D → R Fl :=
  (gSeq (gSet 1 (gAll f_numbers_by (gsC (gSl false (gv 0) (goS (gc (.int 1))) goN) (gsC (gc (.int 4)) (gsC (gc (.int 1)) (gsC (gc (.int 40)) gsN))))))
  (gSeq (gIte (gOr (gB (g2 dNe (g2 dIx (gv 0) (gc (.int 0))) (gc (.str (Str.ofString "picture"))))) (gOr (gB (g2 dIsN (gv 1) (gc .non))) (gOr (gB (g2 dGt (g2 dIx (gv 1) (gc (.int 2))) (gc (.int 8)))) (gB (g2 dNotIn (g2 dIx (gv 1) (gc (.int 3))) (gAll dTup (gsC (gc (.int 1)) (gsC (gc (.int 3)) gsN))))))))
  (gRet (gc .non))
  gNx)
  (gRet (gv 1))))
def f_head_by : List D → R D := runF 2 g_head_by
theorem f_head_by_run (d0 : D) : f_head_by [d0] = (g_head_by [d0, .non] >>= finF) := rfl
theorem D_head_by [Tbs] {P : Program} {w : World} {K : Frag} {mg : Str → Option Value} {base : Heap} {a : Addr} {fd : FuncData} (B : Bn mg) (h_MOST_DEPTH : Cst K mg "MOST_DEPTH" (.int 8) (.int 8)) (h_MOST_SIDE : Cst K mg "MOST_SIDE" (.int 40) (.int 40)) (h_numbers_by : FnD P w K mg base 2 "numbers_by" [.fr, .fr, .fr, .fr] M.fr f_numbers_by) (F : Fun K "head_by" "head_by" s_head_by a fd) :
    FnOk P w K mg base (L2.CX P w) 3 a fd ["words"] (spD K [.fr] M.fr f_head_by) := by
  obtain ⟨_, h1_MOST_DEPTH, h2_MOST_DEPTH, h3_MOST_DEPTH⟩ := h_MOST_DEPTH
  obtain ⟨_, h1_MOST_SIDE, h2_MOST_SIDE, h3_MOST_SIDE⟩ := h_MOST_SIDE
  exact fn_body (N := N_head_by) (k := 2) (n := []) (b := []) (c := []) g_head_by rfl B F sc_head_by rfl rfl fun cdv A outer s H E U => ⟨_, (dss_cons (n := [M.fr, M.fr]) (ds_set 1 U (de_call U h_numbers_by (da_f (DE.frz (de_sl U (de_v 0) (do_some de_int) do_none)) (da_f de_int (da_f de_int (da_f (de_glob h1_MOST_SIDE h2_MOST_SIDE h3_MOST_SIDE) da_nil))))))
  (dss_cons (n := [M.fr, M.fr]) (ds_if (DW.dt (dw_or (dt_ne U (de_ix U (de_v 0) de_int) de_str) (dw_or (dt_isN (de_v 1) de_non) (dw_or (dt_gt (de_ix U (de_v 1) de_int) (de_glob h1_MOST_DEPTH h2_MOST_DEPTH h3_MOST_DEPTH)) (dw_or1 (dt_nin U (de_ix U (de_v 1) de_int) (de_tup (du_cons de_int (du_cons de_int du_nil)))))))))
  (dss_one (ds_ret de_non))
  dss_nil)
  (dss_one (ds_ret (de_v 1)))))⟩
abbrev s_told_lines : Stmt := topS 13
abbrev N_told_lines : List Str := ["text", "lines", "found", "number", "line", "words", "word"]
theorem sc_told_lines : FnScope N_told_lines ["text"] (defScope s_told_lines) := ⟨rfl, rfl, rfl, by decide +kernel, rfl, by decide +kernel, by decide +kernel⟩
def g_told_lines : List D → R Fl :=
  (gSeq (gSet 1 (gT2 dSplit (gv 0) (gc (.str (Str.ofString "\n")))))
  (gSeq (gIte (gB (g2 dEq (g2 dIx (gv 1) (g1 dNeg (gc (.int 1)))) (gc (.str (Str.ofString "")))))
  (gPop 1)
  gNx)
  (gSeq (gSet 2 (gAll dLst gsN))
  (gSeq (gFor (gJ dEnum (gv 1)) (gtT (gtsC (gtN 3) (gtsC (gtN 4) gtsN)))
  (gSeq (gSet 5 (gLc (gIter (gT2 dSplit (gv 4) (gc (.str (Str.ofString " "))))) (gtN 6) (gB (g2 dNe (gv 6) (gc (.str (Str.ofString ""))))) (gv 6)))
  (gIte (gAnd (gTru (gv 5)) (gNot (gB (gT2 dStw (g2 dIx (gv 5) (gc (.int 0))) (gc (.str (Str.ofString "#")))))))
  (gApp 2 (gAll dTup (gsC (gv 3) (gsC (gv 5) gsN))))
  gNx)))
  (gRet (gAll dTup (gsC (gv 2) (gsC (gAll dLen (gsC (gv 1) gsN)) gsN))))))))
def f_told_lines : List D → R D := runF 7 g_told_lines
theorem f_told_lines_run (d0 : D) : f_told_lines [d0] = (g_told_lines [d0, .non, .non, .non, .non, .non, .non] >>= finF) := rfl
theorem D_told_lines [Tbs] {P : Program} {w : World} {K : Frag} {mg : Str → Option Value} {base : Heap} {a : Addr} {fd : FuncData} (B : Bn mg) (F : Fun K "told_lines" "told_lines" s_told_lines a fd) :
    FnOk P w K mg base (L2.CX P w) 1 a fd ["text"] (spD K [.fr] M.fr f_told_lines) := by
  exact fn_body (N := N_told_lines) (k := 0) (n := []) (b := []) (c := []) g_told_lines rfl B F sc_told_lines rfl rfl fun cdv A outer s H E U => ⟨_, (dss_cons (n := [M.fr, (M.ow M.fr), M.un, M.un, M.un, M.un, M.un]) (ds_set 1 U (de_split (de_v 0) de_str))
  (dss_cons (n := [M.fr, (M.ow M.fr), M.un, M.un, M.un, M.un, M.un]) (ds_if (dt_eq U (de_ixO 1 U (de_neg de_int)) de_str)
  (dss_one (ds_pop 1 U))
  dss_nil)
  (dss_cons (n := [M.fr, (M.ow M.fr), (M.ow M.fr), M.un, M.un, M.un, M.un]) (ds_set 2 U (de_lst (m := M.fr) du_nil))
  (dss_cons (n := [M.fr, M.fr, (M.ow M.fr), M.un, M.un, M.un, M.un]) (DS.pre (ds_for (Γ := [M.fr, M.fr, (M.ow M.fr), M.un, M.un, M.un, M.un]) U (di_enum U (de_v 1)) (dg_tup U (dgs_cons (dg_name 3 U) (dgs_cons (dg_name 4 U) dgs_nil)) (hlen := (gts_lenC (gts_lenC gts_len0))))
  (DSs.post (dss_cons (n := [M.fr, M.fr, (M.ow M.fr), M.fr, M.fr, M.fr, M.un]) (DS.post (ds_setLc 5 (own := [("word", 6)]) (Γ' := [M.fr, M.fr, (M.ow M.fr), M.fr, M.fr, M.un, M.fr]) U (di_any U (DE.frz (de_split (de_v 4) de_str))) (blkOk_by (own := [("word", 6)]) (N := N_told_lines) (sc := defScope s_told_lines) (by decide +kernel)) (fun _ _ _ _ _ U => (dg_name 6 U)) (fun _ _ _ _ _ U => dts_one (dt_ne U (de_v 6) de_str)) (fun _ _ _ _ _ U => (de_v 6))) (.frz 5 rfl rfl .refl))
  (dss_one (ds_if (DW.dt (dw_and (dt_tru U (de_v 5)) (dw_and1 (dt_not (dt_val (de_stw (de_ix U (de_v 5) de_int) de_str))))))
  (dss_one (ds_app 2 U (de_tup (du_cons (de_v 3) (du_cons (de_v 5) du_nil)))))
  dss_nil))) (.un 3 rfl (.un 4 rfl (.un 5 rfl .refl))))) (.frz 1 rfl rfl .refl))
  (dss_one (DS.pre (ds_ret (de_tup (du_cons (de_v 2) (du_cons (de_len U (de_v 1)) du_nil)))) (.frz 2 rfl rfl .refl)))))))⟩
abbrev s_read : Stmt := topS 14
abbrev N_read : List Str := ["text", "head", "rows", "planes", "lines", "many", "number", "words", "row", "place"]
theorem sc_read : FnScope N_read ["text"] (defScope s_read) := ⟨rfl, rfl, rfl, by decide +kernel, rfl, by decide +kernel, by decide +kernel⟩
def g_read (cx : Nat → Addr) : List D → R Fl :=
  (gSeq (gUnp (gAll f_told_lines (gsC (gv 0) gsN)) (gtT (gtsC (gtN 4) (gtsC (gtN 5) gtsN))))
  (gSeq (gSet 1 (gc .non))
  (gSeq (gSet 2 (gAll dLst gsN))
  (gSeq (gFor (gIter (gv 4)) (gtT (gtsC (gtN 6) (gtsC (gtN 7) gtsN)))
  (gSeq (gIte (gB (g2 dIsN (gv 1) (gc .non)))
  (gSeq (gSet 1 (gAll f_head_by (gsC (gv 7) gsN)))
  (gSeq (gIte (gB (g2 dIsN (gv 1) (gc .non)))
  (gRaiseR (cx 1) (gv 6))
  gNx)
  (fun ρ => .ok (.ct ρ))))
  gNx)
  (gSeq (gSet 8 (gAll f_numbers_by (gsC (gv 7) (gsC (g2 dIx (gv 1) (gc (.int 0))) (gsC (gc (.int 0)) (gsC (g2 dSub (g2 dShl (gc (.int 1)) (g2 dIx (gv 1) (gc (.int 2)))) (gc (.int 1))) gsN))))))
  (gSeq (gIte (gOr (gB (g2 dIsN (gv 8) (gc .non))) (gB (g2 dEq (gAll dLen (gsC (gv 2) gsN)) (g2 dMul (g2 dIx (gv 1) (gc (.int 1))) (g2 dIx (gv 1) (gc (.int 3)))))))
  (gRaiseR (cx 1) (gv 6))
  gNx)
  (gApp 2 (gv 8))))))
  (gSeq (gIte (gOr (gB (g2 dIsN (gv 1) (gc .non))) (gB (g2 dLt (gAll dLen (gsC (gv 2) gsN)) (g2 dMul (g2 dIx (gv 1) (gc (.int 1))) (g2 dIx (gv 1) (gc (.int 3)))))))
  (gRaiseR (cx 1) (gv 5))
  gNx)
  (gSeq (gSet 3 (gLc (gI dRng3 (gsC (gc (.int 0)) (gsC (gAll dLen (gsC (gv 2) gsN)) (gsC (g2 dIx (gv 1) (gc (.int 1))) gsN)))) (gtN 9) gtt (gAll (dTuple false) (gsC (gSl true (gv 2) (goS (gv 9)) (goS (g2 dAdd (gv 9) (g2 dIx (gv 1) (gc (.int 1)))))) gsN))))
  (gRet (g2 dAdd (gSl false (gv 1) goN (goS (gc (.int 3)))) (gAll dTup (gsC (gAll (dTuple false) (gsC (gv 3) gsN)) gsN))))))))))
def f_read (cx : Nat → Addr) : List D → R D := runF 10 (g_read cx)
theorem f_read_run (cx : Nat → Addr) (d0 : D) : f_read cx [d0] = (g_read cx [d0, .non, .non, .non, .non, .non, .non, .non, .non, .non] >>= finF) := rfl
theorem D_read [Tbs] {cx : Nat → Addr} {P : Program} {w : World} {K : Frag} {mg : Str → Option Value} {base : Heap} {a : Addr} {fd : FuncData} (B : Bn mg) (R_NoPicture : RowX P w K mg base "NoPicture" (cx 1)) (h_numbers_by : FnD P w K mg base 2 "numbers_by" [.fr, .fr, .fr, .fr] M.fr f_numbers_by) (h_head_by : FnD P w K mg base 3 "head_by" [.fr] M.fr f_head_by) (h_told_lines : FnD P w K mg base 1 "told_lines" [.fr] M.fr f_told_lines) (F : Fun K "read" "read" s_read a fd) :
    FnOk P w K mg base (L2.CX P w) 4 a fd ["text"] (spD K [.fr] M.fr (f_read cx)) := by
  exact fn_body (N := N_read) (k := 3) (n := []) (b := []) (c := []) (g_read cx) rfl B F sc_read rfl rfl fun cdv A outer s H E U => ⟨_, (dss_cons (n := [M.fr, M.un, M.un, M.un, M.fr, M.fr, M.un, M.un, M.un, M.un]) (ds_unp U (de_call U h_told_lines (da_f (de_v 0) da_nil)) (dg_tup U (dgs_cons (dg_name 4 U) (dgs_cons (dg_name 5 U) dgs_nil)) (hlen := (gts_lenC (gts_lenC gts_len0)))))
  (dss_cons (n := [M.fr, M.fr, M.un, M.un, M.fr, M.fr, M.un, M.un, M.un, M.un]) (ds_set 1 U de_non)
  (dss_cons (n := [M.fr, M.fr, (M.ow M.fr), M.un, M.fr, M.fr, M.un, M.un, M.un, M.un]) (ds_set 2 U (de_lst (m := M.fr) du_nil))
  (dss_cons (n := [M.fr, M.fr, (M.ow M.fr), M.un, M.fr, M.fr, M.un, M.un, M.un, M.un]) (ds_for (Γ := [M.fr, M.fr, (M.ow M.fr), M.un, M.fr, M.fr, M.un, M.un, M.un, M.un]) U (di_any U (de_v 4)) (dg_tup U (dgs_cons (dg_name 6 U) (dgs_cons (dg_name 7 U) dgs_nil)) (hlen := (gts_lenC (gts_lenC gts_len0))))
  (DSs.post (dss_cons (n := [M.fr, M.fr, (M.ow M.fr), M.un, M.fr, M.fr, M.fr, M.fr, M.un, M.un]) (ds_if (dt_isN (de_v 1) de_non)
  (dss_cons (n := [M.fr, M.fr, (M.ow M.fr), M.un, M.fr, M.fr, M.fr, M.fr, M.un, M.un]) (ds_set 1 U (de_call U h_head_by (da_f (de_v 7) da_nil)))
  (dss_cons (n := [M.fr, M.fr, (M.ow M.fr), M.un, M.fr, M.fr, M.fr, M.fr, M.un, M.un]) (ds_if (dt_isN (de_v 1) de_non)
  (dss_one (ds_raiseR U R_NoPicture (de_v 6)))
  dss_nil)
  (dss_one (DS.pre ds_continue (.un 6 rfl (.un 7 rfl .refl))))))
  dss_nil)
  (dss_cons (n := [M.fr, M.fr, (M.ow M.fr), M.un, M.fr, M.fr, M.fr, M.fr, M.fr, M.un]) (ds_set 8 U (de_call U h_numbers_by (da_f (de_v 7) (da_f (de_ix U (de_v 1) de_int) (da_f de_int (da_f (de_sub (de_shl de_int (de_ix U (de_v 1) de_int)) de_int) da_nil))))))
  (dss_cons (n := [M.fr, M.fr, (M.ow M.fr), M.un, M.fr, M.fr, M.fr, M.fr, M.fr, M.un]) (ds_if (DW.dt (dw_or (dt_isN (de_v 8) de_non) (dw_or1 (dt_eq U (de_len U (de_vp 2)) (de_mul (de_ix U (de_v 1) de_int) (de_ix U (de_v 1) de_int))))))
  (dss_one (ds_raiseR U R_NoPicture (de_v 6)))
  dss_nil)
  (dss_one (ds_app 2 U (de_v 8)))))) (.un 6 rfl (.un 7 rfl (.un 8 rfl .refl)))))
  (dss_cons (n := [M.fr, M.fr, (M.ow M.fr), M.un, M.fr, M.fr, M.un, M.un, M.un, M.un]) (ds_if (DW.dt (dw_or (dt_isN (de_v 1) de_non) (dw_or1 (dt_lt (de_len U (de_vp 2)) (de_mul (de_ix U (de_v 1) de_int) (de_ix U (de_v 1) de_int))))))
  (dss_one (ds_raiseR U R_NoPicture (de_v 5)))
  dss_nil)
  (dss_cons (n := [M.fr, M.fr, (M.ow M.fr), M.fr, M.fr, M.fr, M.un, M.un, M.un, M.un]) (DS.post (ds_setLc 3 (own := [("place", 9)]) (Γ' := [M.fr, M.fr, (M.ow M.fr), M.un, M.fr, M.fr, M.un, M.un, M.un, M.fr]) U (di_range3 U (da_p de_int (da_p (de_len U (de_vp 2)) (da_p (de_ix U (de_v 1) de_int) da_nil)))) (blkOk_by (own := [("place", 9)]) (N := N_read) (sc := defScope s_read) (by decide +kernel)) (fun _ _ _ _ _ U => (dg_name 9 U)) (fun _ _ _ _ _ U => dts_nil) (fun _ _ _ _ _ U => (de_tuple U (DE.frz (de_slP U (de_vp 2) (do_some (de_v 9)) (do_some (de_add U (de_v 9) (de_ix U (de_v 1) de_int)))))))) (.frz 3 rfl rfl .refl))
  (dss_one (ds_ret (DE.frz (de_add U (de_sl U (de_v 1) do_none (do_some de_int)) (de_tup (du_cons (de_tuple U (de_v 3)) du_nil))))))))))))⟩
abbrev s__law_cell_at : Stmt := topS 16
abbrev N__law_cell_at : List Str := ["_law_script", "_law_k"]
theorem sc__law_cell_at : FnScope N__law_cell_at ["_law_script", "_law_k"] (defScope s__law_cell_at) := ⟨rfl, rfl, rfl, by decide +kernel, rfl, by decide +kernel, by decide +kernel⟩
def g__law_cell_at : List D → R Fl :=
  (gSeq (gIte (gB (g2 dLt (gv 1) (gAll dLen (gsC (gv 0) gsN))))
  (gRet (g2 dIx (gv 0) (gv 1)))
  gNx)
  (gRet (gc (.int 0))))
def f__law_cell_at : List D → R D := runF 2 g__law_cell_at
theorem f__law_cell_at_run (d0 d1 : D) : f__law_cell_at [d0, d1] = (g__law_cell_at [d0, d1] >>= finF) := rfl
theorem D__law_cell_at [Tbs] {P : Program} {w : World} {K : Frag} {mg : Str → Option Value} {base : Heap} {a : Addr} {fd : FuncData} (B : Bn mg) (F : Fun K "_law_cell_at" "_law_cell_at" s__law_cell_at a fd) :
    FnOk P w K mg base (L2.CX P w) 1 a fd ["_law_script", "_law_k"] (spD K [.fr, .fr] M.fr f__law_cell_at) := by
  exact fn_body (N := N__law_cell_at) (k := 0) (n := []) (b := []) (c := []) g__law_cell_at rfl B F sc__law_cell_at rfl rfl fun cdv A outer s H E U => ⟨_, (dss_cons (n := [M.fr, M.fr]) (ds_if (dt_lt (de_v 1) (de_len U (de_v 0)))
  (dss_one (ds_ret (de_ix U (de_v 0) (de_v 1))))
  dss_nil)
  (dss_one (ds_ret de_int)))⟩
abbrev s__law_whole : Stmt := topS 17
abbrev N__law_whole : List Str := ["_law_found"]
theorem sc__law_whole : FnScope N__law_whole ["_law_found"] (defScope s__law_whole) := ⟨rfl, rfl, rfl, by decide +kernel, rfl, by decide +kernel, by decide +kernel⟩
def g__law_whole : List D → R Fl :=
  (gRet (toBl (gAnd (gB (g1 (dIsi "int") (gv 0))) (gB (toBl (gNot (gB (g1 (dIsi "bool") (gv 0)))))))))
def f__law_whole : List D → R D := runF 1 g__law_whole
theorem f__law_whole_run (d0 : D) : f__law_whole [d0] = (g__law_whole [d0] >>= finF) := rfl
theorem D__law_whole [Tbs] {P : Program} {w : World} {K : Frag} {mg : Str → Option Value} {base : Heap} {a : Addr} {fd : FuncData} (B : Bn mg) (F : Fun K "_law_whole" "_law_whole" s__law_whole a fd) :
    FnOk P w K mg base (L2.CX P w) 1 a fd ["_law_found"] (spD K [.fr] M.fr f__law_whole) := by
  exact fn_body (N := N__law_whole) (k := 0) (n := []) (b := []) (c := []) g__law_whole rfl B F sc__law_whole rfl rfl fun cdv A outer s H E U => ⟨_, (dss_one (ds_ret (de_and (de_isi "int" U (de_v 0) U.bn.int (by decide +kernel)) (de_one (de_not (de_isi "bool" U (de_v 0) U.bn.bool (by decide +kernel)))))))⟩
abbrev s__law_mixed : Stmt := topS 18
abbrev N__law_mixed : List Str := ["_law_cell", "_law_k", "_law_many", "_law_some", "_law_made"]
theorem sc__law_mixed : FnScope N__law_mixed ["_law_cell", "_law_k", "_law_many"] (defScope s__law_mixed) := ⟨rfl, rfl, rfl, by decide +kernel, rfl, by decide +kernel, by decide +kernel⟩
def g__law_mixed : List D → R Fl :=
  (gSeq (gSet 3 (gAll dLst (gsC (gc (.int 99991)) (gsC (gc (.int 99989)) (gsC (gc (.int 99971)) (gsC (gc (.int 99961)) (gsC (gc (.int 99929)) (gsC (gc (.int 99923)) (gsC (gc (.int 99907)) (gsC (gc (.int 99901)) (gsC (gc (.int 99881)) (gsC (gc (.int 99877)) (gsC (gc (.int 99871)) gsN)))))))))))))
  (gSeq (gSet 4 (g2 dMod (g2 dMul (g2 dAdd (gv 0) (g2 dMul (gc (.int 7)) (gv 1))) (gc (.int 48271))) (g2 dIx (gv 3) (g2 dMod (gv 1) (gc (.int 11))))))
  (gRet (g2 dMod (g2 dMod (g2 dAdd (g2 dAdd (g2 dMul (g2 dMul (gv 4) (gv 4)) (gc (.int 7))) (gv 4)) (gv 1)) (gc (.int 1000003))) (gv 2)))))
def f__law_mixed : List D → R D := runF 5 g__law_mixed
theorem f__law_mixed_run (d0 d1 d2 : D) : f__law_mixed [d0, d1, d2] = (g__law_mixed [d0, d1, d2, .non, .non] >>= finF) := rfl
theorem D__law_mixed [Tbs] {P : Program} {w : World} {K : Frag} {mg : Str → Option Value} {base : Heap} {a : Addr} {fd : FuncData} (B : Bn mg) (F : Fun K "_law_mixed" "_law_mixed" s__law_mixed a fd) :
    FnOk P w K mg base (L2.CX P w) 1 a fd ["_law_cell", "_law_k", "_law_many"] (spD K [.fr, .fr, .fr] M.fr f__law_mixed) := by
  exact fn_body (N := N__law_mixed) (k := 0) (n := []) (b := []) (c := []) g__law_mixed rfl B F sc__law_mixed rfl rfl fun cdv A outer s H E U => ⟨_, (dss_cons (n := [M.fr, M.fr, M.fr, M.fr, M.un]) (ds_set 3 U (DE.frz (de_lst (du_cons de_int (du_cons de_int (du_cons de_int (du_cons de_int (du_cons de_int (du_cons de_int (du_cons de_int (du_cons de_int (du_cons de_int (du_cons de_int (du_cons de_int du_nil))))))))))))))
  (dss_cons (n := [M.fr, M.fr, M.fr, M.fr, M.fr]) (ds_set 4 U (de_mod (de_mul (de_add U (de_v 0) (de_mul de_int (de_v 1))) de_int) (de_ix U (de_v 3) (de_mod (de_v 1) de_int))))
  (dss_one (ds_ret (de_mod (de_mod (de_add U (de_add U (de_mul (de_mul (de_v 4) (de_v 4)) de_int) (de_v 4)) (de_v 1)) de_int) (de_v 2))))))⟩
abbrev s__law_power : Stmt := topS 19
abbrev N__law_power : List Str := ["_law_many", "_law_power_here", "_law_turn"]
theorem sc__law_power : FnScope N__law_power ["_law_many"] (defScope s__law_power) := ⟨rfl, rfl, rfl, by decide +kernel, rfl, by decide +kernel, by decide +kernel⟩
def g__law_power : List D → R Fl :=
  (gSeq (gSet 1 (gc (.int 1)))
  (gSeq (gFor (gI dRng1 (gsC (gv 0) gsN)) (gtN 2)
  (gSet 1 (g2 dAdd (gv 1) (gv 1))))
  (gRet (gv 1))))
def f__law_power : List D → R D := runF 3 g__law_power
theorem f__law_power_run (d0 : D) : f__law_power [d0] = (g__law_power [d0, .non, .non] >>= finF) := rfl
theorem D__law_power [Tbs] {P : Program} {w : World} {K : Frag} {mg : Str → Option Value} {base : Heap} {a : Addr} {fd : FuncData} (B : Bn mg) (F : Fun K "_law_power" "_law_power" s__law_power a fd) :
    FnOk P w K mg base (L2.CX P w) 1 a fd ["_law_many"] (spD K [.fr] M.fr f__law_power) := by
  exact fn_body (N := N__law_power) (k := 0) (n := []) (b := []) (c := []) g__law_power rfl B F sc__law_power rfl rfl fun cdv A outer s H E U => ⟨_, (dss_cons (n := [M.fr, M.fr, M.un]) (ds_set 1 U de_int)
  (dss_cons (n := [M.fr, M.fr, M.un]) (ds_for (Γ := [M.fr, M.fr, M.un]) U (di_range1 U (da_p (de_v 0) da_nil)) (dg_name 2 U)
  (DSs.post (dss_one (ds_set 1 U (DE.frz (de_add U (de_v 1) (de_v 1))))) (.un 2 rfl .refl)))
  (dss_one (ds_ret (de_v 1)))))⟩
abbrev s__law_point : Stmt := topS 20
abbrev N__law_point : List Str := ["_law_cell", "_law_kind", "_law_row", "_law_column", "_law_most", "_law_slope"]
theorem sc__law_point : FnScope N__law_point ["_law_cell", "_law_kind", "_law_row", "_law_column", "_law_most"] (defScope s__law_point) := ⟨rfl, rfl, rfl, by decide +kernel, rfl, by decide +kernel, by decide +kernel⟩
def g__law_point : List D → R Fl :=
  (gSeq (gIte (gB (g2 dEq (gv 1) (gc (.int 0))))
  (gRet (gAll f__law_mixed (gsC (gv 0) (gsC (g2 dAdd (gv 2) (g2 dMul (gc (.int 3)) (gv 3))) (gsC (g2 dAdd (gv 4) (gc (.int 1))) gsN)))))
  gNx)
  (gSeq (gIte (gB (g2 dEq (gv 1) (gc (.int 1))))
  (gSeq (gSet 5 (g2 dAdd (g2 dMul (gv 2) (gAll f__law_mixed (gsC (gv 0) (gsC (gc (.int 1)) (gsC (gc (.int 4)) gsN))))) (g2 dMul (gv 3) (gAll f__law_mixed (gsC (gv 0) (gsC (gc (.int 2)) (gsC (gc (.int 4)) gsN)))))))
  (gRet (g2 dMod (g2 dAdd (gv 5) (gAll f__law_mixed (gsC (gv 0) (gsC (gc (.int 3)) (gsC (g2 dAdd (gv 4) (gc (.int 1))) gsN))))) (g2 dAdd (gv 4) (gc (.int 1))))))
  gNx)
  (gSeq (gIte (gB (g2 dEq (gv 1) (gc (.int 2))))
  (gRet (g2 dMod (g2 dIx (gAll dLst (gsC (gc (.int 0)) (gsC (gv 4) (gsC (g2 dDiv (gv 4) (gc (.int 2))) (gsC (gc (.int 1)) gsN))))) (gAll f__law_mixed (gsC (gv 0) (gsC (g2 dAdd (g2 dDiv (gv 2) (gc (.int 3))) (g2 dMul (gc (.int 2)) (g2 dDiv (gv 3) (gc (.int 4))))) (gsC (gc (.int 4)) gsN))))) (g2 dAdd (gv 4) (gc (.int 1)))))
  gNx)
  (gRet (gAll dMin (gsC (gv 4) (gsC (gAll dMax (gsC (gc (.int 0)) (gsC (g2 dSub (g2 dAdd (g2 dDiv (gv 4) (gc (.int 2))) (gAll f__law_mixed (gsC (gv 0) (gsC (g2 dAdd (gv 2) (g2 dMul (gc (.int 5)) (gv 3))) (gsC (gc (.int 5)) gsN))))) (gc (.int 2))) gsN))) gsN)))))))
def f__law_point : List D → R D := runF 6 g__law_point
theorem f__law_point_run (d0 d1 d2 d3 d4 : D) : f__law_point [d0, d1, d2, d3, d4] = (g__law_point [d0, d1, d2, d3, d4, .non] >>= finF) := rfl
theorem D__law_point [Tbs] {P : Program} {w : World} {K : Frag} {mg : Str → Option Value} {base : Heap} {a : Addr} {fd : FuncData} (B : Bn mg) (h__law_mixed : FnD P w K mg base 1 "_law_mixed" [.fr, .fr, .fr] M.fr f__law_mixed) (F : Fun K "_law_point" "_law_point" s__law_point a fd) :
    FnOk P w K mg base (L2.CX P w) 2 a fd ["_law_cell", "_law_kind", "_law_row", "_law_column", "_law_most"] (spD K [.fr, .fr, .fr, .fr, .fr] M.fr f__law_point) := by
  exact fn_body (N := N__law_point) (k := 1) (n := []) (b := []) (c := []) g__law_point rfl B F sc__law_point rfl rfl fun cdv A outer s H E U => ⟨_, (dss_cons (n := [M.fr, M.fr, M.fr, M.fr, M.fr, M.un]) (ds_if (dt_eq U (de_v 1) de_int)
  (dss_one (ds_ret (de_call U h__law_mixed (da_f (de_v 0) (da_f (DE.frz (de_add U (de_v 2) (de_mul de_int (de_v 3)))) (da_f (DE.frz (de_add U (de_v 4) de_int)) da_nil))))))
  dss_nil)
  (dss_cons (n := [M.fr, M.fr, M.fr, M.fr, M.fr, M.un]) (ds_if (dt_eq U (de_v 1) de_int)
  (dss_cons (n := [M.fr, M.fr, M.fr, M.fr, M.fr, M.fr]) (ds_set 5 U (DE.frz (de_add U (de_mul (de_v 2) (de_call U h__law_mixed (da_f (de_v 0) (da_f de_int (da_f de_int da_nil))))) (de_mul (de_v 3) (de_call U h__law_mixed (da_f (de_v 0) (da_f de_int (da_f de_int da_nil))))))))
  (dss_one (ds_ret (de_mod (de_add U (de_v 5) (de_call U h__law_mixed (da_f (de_v 0) (da_f de_int (da_f (DE.frz (de_add U (de_v 4) de_int)) da_nil))))) (de_add U (de_v 4) de_int)))))
  dss_nil)
  (dss_cons (n := [M.fr, M.fr, M.fr, M.fr, M.fr, M.un]) (ds_if (dt_eq U (de_v 1) de_int)
  (dss_one (ds_ret (de_mod (de_ix U (DE.frz (de_lst (du_cons de_int (du_cons (de_v 4) (du_cons (de_div (de_v 4) de_int) (du_cons de_int du_nil)))))) (de_call U h__law_mixed (da_f (de_v 0) (da_f (DE.frz (de_add U (de_div (de_v 2) de_int) (de_mul de_int (de_div (de_v 3) de_int)))) (da_f de_int da_nil))))) (de_add U (de_v 4) de_int))))
  dss_nil)
  (dss_one (ds_ret (de_min2 U (de_v 4) (de_max2 U de_int (de_sub (de_add U (de_div (de_v 4) de_int) (de_call U h__law_mixed (da_f (de_v 0) (da_f (DE.frz (de_add U (de_v 2) (de_mul de_int (de_v 3)))) (da_f de_int da_nil))))) de_int))))))))⟩
abbrev s__law_picture : Stmt := topS 21
abbrev N__law_picture : List Str := ["_law_script", "_law_first", "_law_cell", "_law_wide", "_law_high", "_law_depth", "_law_most", "_law_cells", "_law_planes", "_law_number_here", "_law_kind", "_law_rows", "_law_row", "_law_seeds", "_law_column"]
theorem sc__law_picture : FnScope N__law_picture ["_law_script", "_law_first"] (defScope s__law_picture) := ⟨rfl, rfl, rfl, by decide +kernel, rfl, by decide +kernel, by decide +kernel⟩
def g__law_picture : List D → R Fl :=
  (gSeq (gSet 2 (gAll f__law_cell_at (gsC (gv 0) (gsC (gv 1) gsN))))
  (gSeq (gSet 3 (g2 dAdd (gc (.int 1)) (gAll f__law_mixed (gsC (gv 2) (gsC (gc (.int 1)) (gsC (gc (.int 9)) gsN))))))
  (gSeq (gSet 4 (g2 dAdd (gc (.int 1)) (gAll f__law_mixed (gsC (gv 2) (gsC (gc (.int 2)) (gsC (gc (.int 7)) gsN))))))
  (gSeq (gIte (gB (g2 dEq (gAll f__law_mixed (gsC (gv 2) (gsC (gc (.int 3)) (gsC (gc (.int 16)) gsN)))) (gc (.int 1))))
  (gUnp (g2 dIx (gAll dLst (gsC (gAll dTup (gsC (gc (.int 40)) (gsC (gc (.int 1)) gsN))) (gsC (gAll dTup (gsC (gc (.int 1)) (gsC (gc (.int 40)) gsN))) (gsC (gAll dTup (gsC (gc (.int 33)) (gsC (gc (.int 2)) gsN))) (gsC (gAll dTup (gsC (gc (.int 40)) (gsC (gc (.int 2)) gsN))) gsN))))) (gAll f__law_mixed (gsC (gv 2) (gsC (gc (.int 4)) (gsC (gc (.int 4)) gsN))))) (gtT (gtsC (gtN 3) (gtsC (gtN 4) gtsN))))
  gNx)
  (gSeq (gSet 5 (g2 dAdd (gc (.int 1)) (gAll f__law_mixed (gsC (gv 2) (gsC (gc (.int 5)) (gsC (gc (.int 8)) gsN))))))
  (gSeq (gSet 6 (g2 dSub (gAll f__law_power (gsC (gv 5) gsN)) (gc (.int 1))))
  (gSeq (gSet 7 (g2 dAdd (gSl false (gv 0) (goS (g2 dAdd (gv 1) (gc (.int 1)))) goN) (gAll dLst (gsC (gv 2) gsN))))
  (gSeq (gSet 8 (gAll dLst gsN))
  (gSeq (gFor (gI dRng1 (gsC (g2 dIx (gAll dLst (gsC (gc (.int 1)) (gsC (gc (.int 3)) gsN))) (gAll f__law_mixed (gsC (gv 2) (gsC (gc (.int 6)) (gsC (gc (.int 2)) gsN))))) gsN)) (gtN 9)
  (gSeq (gSet 10 (gAll f__law_mixed (gsC (gv 2) (gsC (g2 dAdd (gc (.int 7)) (gv 9)) (gsC (gc (.int 4)) gsN)))))
  (gSeq (gSet 11 (gAll dLst gsN))
  (gSeq (gFor (gI dRng1 (gsC (gv 4) gsN)) (gtN 12)
  (gSeq (gSet 13 (gLc (gI dRng1 (gsC (gv 3) gsN)) (gtN 14) gtt (g2 dAdd (g2 dIx (gv 7) (g2 dMod (g2 dAdd (g2 dMul (gv 12) (gv 3)) (gv 14)) (gAll dLen (gsC (gv 7) gsN)))) (g2 dMul (gc (.int 7)) (gv 9)))))
  (gApp 11 (gAll (dTuple false) (gsC (gLc (gI dRng1 (gsC (gv 3) gsN)) (gtN 14) gtt (gAll f__law_point (gsC (g2 dIx (gv 13) (gv 14)) (gsC (gv 10) (gsC (gv 12) (gsC (gv 14) (gsC (gv 6) gsN))))))) gsN)))))
  (gApp 8 (gAll (dTuple true) (gsC (gv 11) gsN)))))))
  (gRet (gAll dTup (gsC (gv 3) (gsC (gv 4) (gsC (gv 5) (gsC (gAll (dTuple true) (gsC (gv 8) gsN)) gsN)))))))))))))))
def f__law_picture : List D → R D := runF 15 g__law_picture
theorem f__law_picture_run (d0 d1 : D) : f__law_picture [d0, d1] = (g__law_picture [d0, d1, .non, .non, .non, .non, .non, .non, .non, .non, .non, .non, .non, .non, .non] >>= finF) := rfl
theorem D__law_picture [Tbs] {P : Program} {w : World} {K : Frag} {mg : Str → Option Value} {base : Heap} {a : Addr} {fd : FuncData} (B : Bn mg) (h__law_cell_at : FnD P w K mg base 1 "_law_cell_at" [.fr, .fr] M.fr f__law_cell_at) (h__law_mixed : FnD P w K mg base 1 "_law_mixed" [.fr, .fr, .fr] M.fr f__law_mixed) (h__law_power : FnD P w K mg base 1 "_law_power" [.fr] M.fr f__law_power) (h__law_point : FnD P w K mg base 2 "_law_point" [.fr, .fr, .fr, .fr, .fr] M.fr f__law_point) (F : Fun K "_law_picture" "_law_picture" s__law_picture a fd) :
    FnOk P w K mg base (L2.CX P w) 3 a fd ["_law_script", "_law_first"] (spD K [.fr, .fr] M.fr f__law_picture) := by
  exact fn_body (N := N__law_picture) (k := 2) (n := []) (b := []) (c := []) g__law_picture rfl B F sc__law_picture rfl rfl fun cdv A outer s H E U => ⟨_, (dss_cons (n := [M.fr, M.fr, M.fr, M.un, M.un, M.un, M.un, M.un, M.un, M.un, M.un, M.un, M.un, M.un, M.un]) (ds_set 2 U (de_call U h__law_cell_at (da_f (de_v 0) (da_f (de_v 1) da_nil))))
  (dss_cons (n := [M.fr, M.fr, M.fr, M.fr, M.un, M.un, M.un, M.un, M.un, M.un, M.un, M.un, M.un, M.un, M.un]) (ds_set 3 U (DE.frz (de_add U de_int (de_call U h__law_mixed (da_f (de_v 2) (da_f de_int (da_f de_int da_nil)))))))
  (dss_cons (n := [M.fr, M.fr, M.fr, M.fr, M.fr, M.un, M.un, M.un, M.un, M.un, M.un, M.un, M.un, M.un, M.un]) (ds_set 4 U (DE.frz (de_add U de_int (de_call U h__law_mixed (da_f (de_v 2) (da_f de_int (da_f de_int da_nil)))))))
  (dss_cons (n := [M.fr, M.fr, M.fr, M.fr, M.fr, M.un, M.un, M.un, M.un, M.un, M.un, M.un, M.un, M.un, M.un]) (ds_if (dt_eq U (de_call U h__law_mixed (da_f (de_v 2) (da_f de_int (da_f de_int da_nil)))) de_int)
  (dss_one (ds_unp U (de_ix U (DE.frz (de_lst (du_cons (de_tup (du_cons de_int (du_cons de_int du_nil))) (du_cons (de_tup (du_cons de_int (du_cons de_int du_nil))) (du_cons (de_tup (du_cons de_int (du_cons de_int du_nil))) (du_cons (de_tup (du_cons de_int (du_cons de_int du_nil))) du_nil)))))) (de_call U h__law_mixed (da_f (de_v 2) (da_f de_int (da_f de_int da_nil))))) (dg_tup U (dgs_cons (dg_name 3 U) (dgs_cons (dg_name 4 U) dgs_nil)) (hlen := (gts_lenC (gts_lenC gts_len0))))))
  dss_nil)
  (dss_cons (n := [M.fr, M.fr, M.fr, M.fr, M.fr, M.fr, M.un, M.un, M.un, M.un, M.un, M.un, M.un, M.un, M.un]) (ds_set 5 U (DE.frz (de_add U de_int (de_call U h__law_mixed (da_f (de_v 2) (da_f de_int (da_f de_int da_nil)))))))
  (dss_cons (n := [M.fr, M.fr, M.fr, M.fr, M.fr, M.fr, M.fr, M.un, M.un, M.un, M.un, M.un, M.un, M.un, M.un]) (ds_set 6 U (de_sub (de_call U h__law_power (da_f (de_v 5) da_nil)) de_int))
  (dss_cons (n := [M.fr, M.fr, M.fr, M.fr, M.fr, M.fr, M.fr, M.fr, M.un, M.un, M.un, M.un, M.un, M.un, M.un]) (ds_set 7 U (DE.frz (de_add U (de_sl U (de_v 0) (do_some (de_add U (de_v 1) de_int)) do_none) (de_lst (du_cons (de_v 2) du_nil)))))
  (dss_cons (n := [M.fr, M.fr, M.fr, M.fr, M.fr, M.fr, M.fr, M.fr, (M.ow M.fr), M.un, M.un, M.un, M.un, M.un, M.un]) (ds_set 8 U (de_lst (m := M.fr) du_nil))
  (dss_cons (n := [M.fr, M.fr, M.fr, M.fr, M.fr, M.fr, M.fr, M.fr, (M.ow M.fr), M.un, M.un, M.un, M.un, M.un, M.un]) (ds_for (Γ := [M.fr, M.fr, M.fr, M.fr, M.fr, M.fr, M.fr, M.fr, (M.ow M.fr), M.un, M.un, M.un, M.un, M.un, M.un]) U (di_range1 U (da_p (de_ix U (DE.frz (de_lst (du_cons de_int (du_cons de_int du_nil)))) (de_call U h__law_mixed (da_f (de_v 2) (da_f de_int (da_f de_int da_nil))))) da_nil)) (dg_name 9 U)
  (DSs.post (dss_cons (n := [M.fr, M.fr, M.fr, M.fr, M.fr, M.fr, M.fr, M.fr, (M.ow M.fr), M.fr, M.fr, M.un, M.un, M.un, M.un]) (ds_set 10 U (de_call U h__law_mixed (da_f (de_v 2) (da_f (DE.frz (de_add U de_int (de_v 9))) (da_f de_int da_nil)))))
  (dss_cons (n := [M.fr, M.fr, M.fr, M.fr, M.fr, M.fr, M.fr, M.fr, (M.ow M.fr), M.fr, M.fr, (M.ow M.fr), M.un, M.un, M.un]) (ds_set 11 U (de_lst (m := M.fr) du_nil))
  (dss_cons (n := [M.fr, M.fr, M.fr, M.fr, M.fr, M.fr, M.fr, M.fr, (M.ow M.fr), M.fr, M.fr, (M.ow M.fr), M.un, M.un, M.un]) (ds_for (Γ := [M.fr, M.fr, M.fr, M.fr, M.fr, M.fr, M.fr, M.fr, (M.ow M.fr), M.fr, M.fr, (M.ow M.fr), M.un, M.un, M.un]) U (di_range1 U (da_p (de_v 4) da_nil)) (dg_name 12 U)
  (DSs.post (dss_cons (n := [M.fr, M.fr, M.fr, M.fr, M.fr, M.fr, M.fr, M.fr, (M.ow M.fr), M.fr, M.fr, (M.ow M.fr), M.fr, M.fr, M.un]) (ds_set 13 U (DE.frz (de_lc (own := [("_law_column", 14)]) (Γ' := [M.fr, M.fr, M.fr, M.fr, M.fr, M.fr, M.fr, M.fr, (M.ow M.fr), M.fr, M.fr, (M.ow M.fr), M.fr, M.un, M.fr]) U (di_range1 U (da_p (de_v 3) da_nil)) (blkOk_by (own := [("_law_column", 14)]) (N := N__law_picture) (sc := defScope s__law_picture) (by decide +kernel)) (fun _ _ _ _ _ U => (dg_name 14 U)) (fun _ _ _ _ _ U => dts_nil) (fun _ _ _ _ _ U => (DE.frz (de_add U (de_ix U (de_v 7) (de_mod (de_add U (de_mul (de_v 12) (de_v 3)) (de_v 14)) (de_len U (de_v 7)))) (de_mul de_int (de_v 9))))))))
  (dss_one (ds_app 11 U (de_tuple U (DE.frz (de_lc (own := [("_law_column", 14)]) (Γ' := [M.fr, M.fr, M.fr, M.fr, M.fr, M.fr, M.fr, M.fr, (M.ow M.fr), M.fr, M.fr, (M.ow M.fr), M.fr, M.fr, M.fr]) U (di_range1 U (da_p (de_v 3) da_nil)) (blkOk_by (own := [("_law_column", 14)]) (N := N__law_picture) (sc := defScope s__law_picture) (by decide +kernel)) (fun _ _ _ _ _ U => (dg_name 14 U)) (fun _ _ _ _ _ U => dts_nil) (fun _ _ _ _ _ U => (de_call U h__law_point (da_f (de_ix U (de_v 13) (de_v 14)) (da_f (de_v 10) (da_f (de_v 12) (da_f (de_v 14) (da_f (de_v 6) da_nil))))))))))))) (.un 12 rfl (.un 13 rfl .refl))))
  (dss_one (ds_app 8 U (de_tupleP U (de_vp 11))))))) (.un 9 rfl (.un 10 rfl (.un 11 rfl .refl)))))
  (dss_one (ds_ret (de_tup (du_cons (de_v 3) (du_cons (de_v 4) (du_cons (de_v 5) (du_cons (de_tupleP U (de_vp 8)) du_nil))))))))))))))))⟩
abbrev s__law_lines : Stmt := topS 22
abbrev N__law_lines : List Str := ["_law_picture_here", "_law_textrows", "_law_plane", "_law_row", "_law_point_here"]
theorem sc__law_lines : FnScope N__law_lines ["_law_picture_here"] (defScope s__law_lines) := ⟨rfl, rfl, rfl, by decide +kernel, rfl, by decide +kernel, by decide +kernel⟩
def g__law_lines : List D → R Fl :=
  (gSeq (gSet 1 (gAll dLst (gsC (gJn (gc (.str (Str.ofString " "))) (gAll dLst (gsC (gc (.str (Str.ofString "picture"))) (gsC (gAll dStrI (gsC (g2 dIx (gv 0) (gc (.int 0))) gsN)) (gsC (gAll dStrI (gsC (g2 dIx (gv 0) (gc (.int 1))) gsN)) (gsC (gAll dStrI (gsC (g2 dIx (gv 0) (gc (.int 2))) gsN)) (gsC (gAll dStrI (gsC (gAll dLen (gsC (g2 dIx (gv 0) (gc (.int 3))) gsN)) gsN)) gsN))))))) gsN)))
  (gSeq (gFor (gIter (g2 dIx (gv 0) (gc (.int 3)))) (gtN 2)
  (gFor (gIter (gv 2)) (gtN 3)
  (gApp 1 (gJn (gc (.str (Str.ofString " "))) (gLc (gIter (gv 3)) (gtN 4) gtt (gAll dStrI (gsC (gv 4) gsN)))))))
  (gRet (gv 1))))
def f__law_lines : List D → R D := runF 5 g__law_lines
theorem f__law_lines_run (d0 : D) : f__law_lines [d0] = (g__law_lines [d0, .non, .non, .non, .non] >>= finF) := rfl
theorem D__law_lines [Tbs] {P : Program} {w : World} {K : Frag} {mg : Str → Option Value} {base : Heap} {a : Addr} {fd : FuncData} (B : Bn mg) (F : Fun K "_law_lines" "_law_lines" s__law_lines a fd) :
    FnOk P w K mg base (L2.CX P w) 1 a fd ["_law_picture_here"] (spD K [.fr] M.fr f__law_lines) := by
  exact fn_body (N := N__law_lines) (k := 0) (n := []) (b := []) (c := []) g__law_lines rfl B F sc__law_lines rfl rfl fun cdv A outer s H E U => ⟨_, (dss_cons (n := [M.fr, (M.ow M.fr), M.un, M.un, M.un]) (ds_set 1 U (de_lst (du_cons (de_join U de_str (de_lst (du_cons de_str (du_cons (de_strI U (de_ix U (de_v 0) de_int) U.bn.str) (du_cons (de_strI U (de_ix U (de_v 0) de_int) U.bn.str) (du_cons (de_strI U (de_ix U (de_v 0) de_int) U.bn.str) (du_cons (de_strI U (de_len U (de_ix U (de_v 0) de_int)) U.bn.str) du_nil))))))) du_nil)))
  (dss_cons (n := [M.fr, (M.ow M.fr), M.un, M.un, M.un]) (ds_for (Γ := [M.fr, (M.ow M.fr), M.un, M.un, M.un]) U (di_any U (de_ix U (de_v 0) de_int)) (dg_name 2 U)
  (DSs.post (dss_one (ds_for (Γ := [M.fr, (M.ow M.fr), M.fr, M.un, M.un]) U (di_any U (de_v 2)) (dg_name 3 U)
  (DSs.post (dss_one (ds_app 1 U (de_join U de_str (de_lc (own := [("_law_point_here", 4)]) (Γ' := [M.fr, (M.ow M.fr), M.fr, M.fr, M.fr]) U (di_any U (de_v 3)) (blkOk_by (own := [("_law_point_here", 4)]) (N := N__law_lines) (sc := defScope s__law_lines) (by decide +kernel)) (fun _ _ _ _ _ U => (dg_name 4 U)) (fun _ _ _ _ _ U => dts_nil) (fun _ _ _ _ _ U => (de_strI U (de_v 4) U.bn.str)))))) (.un 3 rfl .refl)))) (.un 2 rfl .refl)))
  (dss_one (DS.pre (ds_ret (de_v 1)) (.frz 1 rfl rfl .refl)))))⟩
abbrev s__law_loose : Stmt := topS 23
abbrev N__law_loose : List Str := ["_law_line", "_law_cell", "_law_built", "_law_word"]
theorem sc__law_loose : FnScope N__law_loose ["_law_line", "_law_cell"] (defScope s__law_loose) := ⟨rfl, rfl, rfl, by decide +kernel, rfl, by decide +kernel, by decide +kernel⟩
def g__law_loose : List D → R Fl :=
  (gSeq (gSet 2 (g2 dSMul (gc (.str (Str.ofString " "))) (g2 dIx (gAll dLst (gsC (gc (.int 0)) (gsC (gc (.int 0)) (gsC (gc (.int 1)) (gsC (gc (.int 3)) gsN))))) (gAll f__law_mixed (gsC (gv 1) (gsC (gc (.int 1)) (gsC (gc (.int 4)) gsN)))))))
  (gSeq (gFor (gIter (gT2 dSplit (gv 0) (gc (.str (Str.ofString " "))))) (gtN 3)
  (gSet 2 (g2 dAdd (g2 dAdd (gv 2) (gv 3)) (g2 dSMul (gc (.str (Str.ofString " "))) (g2 dIx (gAll dLst (gsC (gc (.int 1)) (gsC (gc (.int 1)) (gsC (gc (.int 2)) (gsC (gc (.int 3)) gsN))))) (gAll f__law_mixed (gsC (g2 dAdd (gv 1) (gAll dLen (gsC (gv 2) gsN))) (gsC (gc (.int 2)) (gsC (gc (.int 4)) gsN)))))))))
  (gSeq (gIte (gB (g2 dGt (gAll f__law_mixed (gsC (gv 1) (gsC (gc (.int 3)) (gsC (gc (.int 3)) gsN)))) (gc (.int 0))))
  (gSet 2 (gT2 dStrip (gv 2) (gc (.str (Str.ofString " ")))))
  gNx)
  (gSeq (gIte (gB (g2 dGt (gAll dLen (gsC (gv 2) gsN)) (gc (.int 380))))
  (gRet (gv 0))
  gNx)
  (gRet (gv 2))))))
def f__law_loose : List D → R D := runF 4 g__law_loose
theorem f__law_loose_run (d0 d1 : D) : f__law_loose [d0, d1] = (g__law_loose [d0, d1, .non, .non] >>= finF) := rfl
theorem D__law_loose [Tbs] {P : Program} {w : World} {K : Frag} {mg : Str → Option Value} {base : Heap} {a : Addr} {fd : FuncData} (B : Bn mg) (h__law_mixed : FnD P w K mg base 1 "_law_mixed" [.fr, .fr, .fr] M.fr f__law_mixed) (F : Fun K "_law_loose" "_law_loose" s__law_loose a fd) :
    FnOk P w K mg base (L2.CX P w) 2 a fd ["_law_line", "_law_cell"] (spD K [.fr, .fr] M.fr f__law_loose) := by
  exact fn_body (N := N__law_loose) (k := 1) (n := []) (b := []) (c := []) g__law_loose rfl B F sc__law_loose rfl rfl fun cdv A outer s H E U => ⟨_, (dss_cons (n := [M.fr, M.fr, M.fr, M.un]) (ds_set 2 U (de_smul de_str (de_ix U (DE.frz (de_lst (du_cons de_int (du_cons de_int (du_cons de_int (du_cons de_int du_nil)))))) (de_call U h__law_mixed (da_f (de_v 1) (da_f de_int (da_f de_int da_nil)))))))
  (dss_cons (n := [M.fr, M.fr, M.fr, M.un]) (ds_for (Γ := [M.fr, M.fr, M.fr, M.un]) U (di_any U (DE.frz (de_split (de_v 0) de_str))) (dg_name 3 U)
  (DSs.post (dss_one (ds_set 2 U (DE.frz (de_add U (de_add U (de_v 2) (de_v 3)) (de_smul de_str (de_ix U (DE.frz (de_lst (du_cons de_int (du_cons de_int (du_cons de_int (du_cons de_int du_nil)))))) (de_call U h__law_mixed (da_f (DE.frz (de_add U (de_v 1) (de_len U (de_v 2)))) (da_f de_int (da_f de_int da_nil)))))))))) (.un 3 rfl .refl)))
  (dss_cons (n := [M.fr, M.fr, M.fr, M.un]) (ds_if (dt_gt (de_call U h__law_mixed (da_f (de_v 1) (da_f de_int (da_f de_int da_nil)))) de_int)
  (dss_one (ds_set 2 U (de_stripC (de_v 2) de_str)))
  dss_nil)
  (dss_cons (n := [M.fr, M.fr, M.fr, M.un]) (ds_if (dt_gt (de_len U (de_v 2)) de_int)
  (dss_one (ds_ret (de_v 0)))
  dss_nil)
  (dss_one (ds_ret (de_v 2)))))))⟩
abbrev s__law_loose_lines : Stmt := topS 24
abbrev N__law_loose_lines : List Str := ["_law_textrows", "_law_cell", "_law_found", "_law_k"]
theorem sc__law_loose_lines : FnScope N__law_loose_lines ["_law_textrows", "_law_cell"] (defScope s__law_loose_lines) := ⟨rfl, rfl, rfl, by decide +kernel, rfl, by decide +kernel, by decide +kernel⟩
def g__law_loose_lines : List D → R Fl :=
  (gSeq (gSet 2 (gAll dLst gsN))
  (gSeq (gFor (gI dRng1 (gsC (gAll dLen (gsC (gv 0) gsN)) gsN)) (gtN 3)
  (gSeq (gIte (gB (g2 dEq (gAll f__law_mixed (gsC (g2 dAdd (gv 1) (gv 3)) (gsC (gc (.int 4)) (gsC (gc (.int 9)) gsN)))) (gc (.int 1))))
  (gApp 2 (g2 dIx (gAll dLst (gsC (gc (.str (Str.ofString ""))) (gsC (gc (.str (Str.ofString "  "))) (gsC (gc (.str (Str.ofString "#"))) (gsC (gc (.str (Str.ofString "# 1 2"))) (gsC (gc (.str (Str.ofString "  #picture"))) (gsC (gc (.str (Str.ofString "#9"))) gsN))))))) (gAll f__law_mixed (gsC (g2 dAdd (gv 1) (gv 3)) (gsC (gc (.int 5)) (gsC (gc (.int 6)) gsN))))))
  gNx)
  (gApp 2 (gAll f__law_loose (gsC (g2 dIx (gv 0) (gv 3)) (gsC (g2 dAdd (gv 1) (g2 dMul (gc (.int 3)) (gv 3))) gsN))))))
  (gRet (gv 2))))
def f__law_loose_lines : List D → R D := runF 4 g__law_loose_lines
theorem f__law_loose_lines_run (d0 d1 : D) : f__law_loose_lines [d0, d1] = (g__law_loose_lines [d0, d1, .non, .non] >>= finF) := rfl
theorem D__law_loose_lines [Tbs] {P : Program} {w : World} {K : Frag} {mg : Str → Option Value} {base : Heap} {a : Addr} {fd : FuncData} (B : Bn mg) (h__law_mixed : FnD P w K mg base 1 "_law_mixed" [.fr, .fr, .fr] M.fr f__law_mixed) (h__law_loose : FnD P w K mg base 2 "_law_loose" [.fr, .fr] M.fr f__law_loose) (F : Fun K "_law_loose_lines" "_law_loose_lines" s__law_loose_lines a fd) :
    FnOk P w K mg base (L2.CX P w) 3 a fd ["_law_textrows", "_law_cell"] (spD K [.fr, .fr] (M.ow M.fr) f__law_loose_lines) := by
  exact fn_body (N := N__law_loose_lines) (k := 2) (n := []) (b := []) (c := []) g__law_loose_lines rfl B F sc__law_loose_lines rfl rfl fun cdv A outer s H E U => ⟨_, (dss_cons (n := [M.fr, M.fr, (M.ow M.fr), M.un]) (ds_set 2 U (de_lst (m := M.fr) du_nil))
  (dss_cons (n := [M.fr, M.fr, (M.ow M.fr), M.un]) (ds_for (Γ := [M.fr, M.fr, (M.ow M.fr), M.un]) U (di_range1 U (da_p (de_len U (de_v 0)) da_nil)) (dg_name 3 U)
  (DSs.post (dss_cons (n := [M.fr, M.fr, (M.ow M.fr), M.fr]) (ds_if (dt_eq U (de_call U h__law_mixed (da_f (DE.frz (de_add U (de_v 1) (de_v 3))) (da_f de_int (da_f de_int da_nil)))) de_int)
  (dss_one (ds_app 2 U (de_ix U (DE.frz (de_lst (du_cons de_str (du_cons de_str (du_cons de_str (du_cons de_str (du_cons de_str (du_cons de_str du_nil)))))))) (de_call U h__law_mixed (da_f (DE.frz (de_add U (de_v 1) (de_v 3))) (da_f de_int (da_f de_int da_nil)))))))
  dss_nil)
  (dss_one (ds_app 2 U (de_call U h__law_loose (da_f (de_ix U (de_v 0) (de_v 3)) (da_f (DE.frz (de_add U (de_v 1) (de_mul de_int (de_v 3)))) da_nil)))))) (.un 3 rfl .refl)))
  (dss_one (ds_retM 2))))⟩
abbrev s__law_class : Stmt := topS 25
abbrev N__law_class : List Str := ["_law_e", "_law_kinds"]
theorem sc__law_class : FnScope N__law_class ["_law_e"] (defScope s__law_class) := ⟨rfl, rfl, rfl, by decide +kernel, rfl, by decide +kernel, by decide +kernel⟩
def g__law_class (cx : Nat → Addr) : List D → R Fl :=
  (gSeq (gSet 1 (gAll dLst (gsC (g1 (dIsKA [(cx 1, true)]) (gv 0)) (gsC (g1 (dIsKA [(cx 1, false)]) (gv 0)) (gsC (g1 (dIsKA [(cx 1, false)]) (gv 0)) gsN)))))
  (gSeq (gIte (gOr (gB (g2 dNe (gCntB 1 (gc (.bl true))) (gc (.int 1)))) (gNot (gB (g1 (dIsKA [(cx 1, true)]) (gv 0)))))
  (gRet (gc (.str (Str.ofString "other"))))
  gNx)
  (gRet (g2 dIx (gAll dLst (gsC (gc (.str (Str.ofString "picture"))) (gsC (gc (.str (Str.ofString "plan"))) (gsC (gc (.str (Str.ofString "file"))) gsN)))) (gIdxB 1 (gc (.bl true)))))))
def f__law_class (cx : Nat → Addr) : List D → R D := runF 2 (g__law_class cx)
theorem f__law_class_run (cx : Nat → Addr) (d0 : D) : f__law_class cx [d0] = (g__law_class cx [d0, .non] >>= finF) := rfl
theorem D__law_class [Tbs] {cx : Nat → Addr} {P : Program} {w : World} {K : Frag} {mg : Str → Option Value} {base : Heap} {a : Addr} {fd : FuncData} (B : Bn mg) (P_NoFile : mg "NoFile" = some (.ref (cx 3))) (P_NoPicture : mg "NoPicture" = some (.ref (cx 1))) (P_NoPlan : mg "NoPlan" = some (.ref (cx 2))) (Q_NoPicture : ExcC K (cx 1)) (k_NoPicture_NoFile : PySem.W.kitOne K (.ref (cx 1)) (.ref (cx 3)) = some false) (k_NoPicture_NoPicture : PySem.W.kitOne K (.ref (cx 1)) (.ref (cx 1)) = some true) (k_NoPicture_NoPlan : PySem.W.kitOne K (.ref (cx 1)) (.ref (cx 2)) = some false) (k_NoPicture_ValueError : PySem.W.kitOne K (.ref (cx 1)) (.type "ValueError") = some true) (z_ValueError : mg "ValueError" = none) (F : Fun K "_law_class" "_law_class" s__law_class a fd) :
    FnOk P w K mg base (L2.CX P w) 1 a fd ["_law_e"] (spD K [.fr] M.fr (f__law_class cx)) := by
  exact fn_body (N := N__law_class) (k := 0) (n := []) (b := []) (c := []) (g__law_class cx) rfl B F sc__law_class rfl rfl fun cdv A outer s H E U => ⟨_, (dss_cons (n := [M.fr, (M.ow M.fr)]) (ds_set 1 U (de_lst (du_cons (de_isKA (tab := [(cx 1, true)]) U (List.forall_mem_cons.mpr ⟨⟨Q_NoPicture, k_NoPicture_NoPicture⟩, (fun _ h => nomatch h)⟩) P_NoPicture (de_v 0)) (du_cons (de_isKA (tab := [(cx 1, false)]) U (List.forall_mem_cons.mpr ⟨⟨Q_NoPicture, k_NoPicture_NoPlan⟩, (fun _ h => nomatch h)⟩) P_NoPlan (de_v 0)) (du_cons (de_isKA (tab := [(cx 1, false)]) U (List.forall_mem_cons.mpr ⟨⟨Q_NoPicture, k_NoPicture_NoFile⟩, (fun _ h => nomatch h)⟩) P_NoFile (de_v 0)) du_nil)))))
  (dss_cons (n := [M.fr, (M.ow M.fr)]) (ds_if (DW.dt (dw_or (dt_ne U (de_cntB 1 U de_bl) de_int) (dw_or1 (dt_not (dt_val (de_isKAb "ValueError" (tab := [(cx 1, true)]) U (List.forall_mem_cons.mpr ⟨⟨Q_NoPicture, k_NoPicture_ValueError⟩, (fun _ h => nomatch h)⟩) z_ValueError (by decide +kernel) (de_v 0)))))))
  (dss_one (ds_ret de_str))
  dss_nil)
  (dss_one (ds_ret (de_ix U (DE.frz (de_lst (du_cons de_str (du_cons de_str (du_cons de_str du_nil))))) (de_idxB 1 U de_bl))))))⟩
abbrev s__law_number : Stmt := topS 26
abbrev N__law_number : List Str := ["_law_word", "_law_sign"]
theorem sc__law_number : FnScope N__law_number ["_law_word"] (defScope s__law_number) := ⟨rfl, rfl, rfl, by decide +kernel, rfl, by decide +kernel, by decide +kernel⟩
def g__law_number : List D → R Fl :=
  (gSeq (gIte (gOr (gB (g2 dEq (gv 0) (gc (.str (Str.ofString ""))))) (gOr (gB (g2 dGt (gAll dLen (gsC (gv 0) gsN)) (gc (.int 9)))) (gOr (gNot (gB (gAll dAll (gsC (gLc (gIter (gv 0)) (gtN 1) gtt (g2 (dInS false) (gv 1) (gc (.str (Str.ofString "0123456789"))))) gsN)))) (gB (g2 dNe (gAll dStrI (gsC (gAll dIntT (gsC (gv 0) gsN)) gsN)) (gv 0))))))
  (gRet (g1 dNeg (gc (.int 1))))
  gNx)
  (gRet (gAll dIntT (gsC (gv 0) gsN))))
def f__law_number : List D → R D := runF 2 g__law_number
theorem f__law_number_run (d0 : D) : f__law_number [d0] = (g__law_number [d0, .non] >>= finF) := rfl
theorem D__law_number [Tbs] {P : Program} {w : World} {K : Frag} {mg : Str → Option Value} {base : Heap} {a : Addr} {fd : FuncData} (B : Bn mg) (F : Fun K "_law_number" "_law_number" s__law_number a fd) :
    FnOk P w K mg base (L2.CX P w) 1 a fd ["_law_word"] (spD K [.fr] M.fr f__law_number) := by
  exact fn_body (N := N__law_number) (k := 0) (n := []) (b := []) (c := []) g__law_number rfl B F sc__law_number rfl rfl fun cdv A outer s H E U => ⟨_, (dss_cons (n := [M.fr, M.un]) (ds_if (DW.dt (dw_or (dt_eq U (de_v 0) de_str) (dw_or (dt_gt (de_len U (de_v 0)) de_int) (dw_or (dt_not (dt_val (de_all U (de_lc (own := [("_law_sign", 1)]) (Γ' := [M.fr, M.fr]) U (di_any U (de_v 0)) (blkOk_by (own := [("_law_sign", 1)]) (N := N__law_number) (sc := defScope s__law_number) (by decide +kernel)) (fun _ _ _ _ _ U => (dg_name 1 U)) (fun _ _ _ _ _ U => dts_nil) (fun _ _ _ _ _ U => (de_inS (de_v 1) de_str)))))) (dw_or1 (dt_ne U (de_strI U (de_intT U (de_v 0)) U.bn.str) (de_v 0)))))))
  (dss_one (ds_ret (de_neg de_int)))
  dss_nil)
  (dss_one (ds_ret (de_intT U (de_v 0)))))⟩
abbrev s__law_fault : Stmt := topS 27
abbrev N__law_fault : List Str := ["_law_text", "_law_textrows", "_law_left", "_law_size", "_law_number_here", "_law_words", "_law_told", "_law_word"]
theorem sc__law_fault : FnScope N__law_fault ["_law_text"] (defScope s__law_fault) := ⟨rfl, rfl, rfl, by decide +kernel, rfl, by decide +kernel, by decide +kernel⟩
def g__law_fault : List D → R Fl :=
  (gSeq (gSet 1 (gT2 dSplit (gv 0) (gc (.str (Str.ofString "\n")))))
  (gSeq (gIte (gB (g2 dEq (g2 dIx (gv 1) (g1 dNeg (gc (.int 1)))) (gc (.str (Str.ofString "")))))
  (gSet 1 (gSl false (gv 1) goN (goS (g1 dNeg (gc (.int 1))))))
  gNx)
  (gSeq (gSet 2 (g1 dNeg (gc (.int 1))))
  (gSeq (gSet 3 (gAll dTup (gsC (gc (.int 0)) (gsC (gc (.int 0)) gsN))))
  (gSeq (gFor (gI dRng1 (gsC (gAll dLen (gsC (gv 1) gsN)) gsN)) (gtN 4)
  (gSeq (gSet 5 (gLc (gIter (gT2 dSplit (g2 dIx (gv 1) (gv 4)) (gc (.str (Str.ofString " "))))) (gtN 7) (gB (g2 dNe (gv 7) (gc (.str (Str.ofString ""))))) (gv 7)))
  (gSeq (gIte (gOr (gB (g2 dEq (gv 5) (gAll dLst gsN))) (gB (g2 dEq (g2 dIx (g2 dIx (gv 5) (gc (.int 0))) (gc (.int 0))) (gc (.str (Str.ofString "#"))))))
  (fun ρ => .ok (.ct ρ))
  gNx)
  (gSeq (gSet 6 (gLc (gIter (gv 5)) (gtN 7) gtt (gAll f__law_number (gsC (gv 7) gsN))))
  (gIte (gB (g2 dLt (gv 2) (gc (.int 0))))
  (gSeq (gIte (gOr (gB (g2 dNe (g2 dIx (gv 5) (gc (.int 0))) (gc (.str (Str.ofString "picture"))))) (gOr (gB (g2 dNe (gAll dLen (gsC (gv 5) gsN)) (gc (.int 5)))) (gOr (gNot (gB (gChain oLe oLe (gc (.int 1)) (g2 dIx (gv 6) (gc (.int 1))) (gc (.int 40))))) (gNot (gB (gChain oLe oLe (gc (.int 1)) (g2 dIx (gv 6) (gc (.int 2))) (gc (.int 40))))))))
  (gRet (gv 4))
  gNx)
  (gSeq (gIte (gOr (gNot (gB (gChain oLe oLe (gc (.int 1)) (g2 dIx (gv 6) (gc (.int 3))) (gc (.int 8))))) (gB (g2 dNotIn (g2 dIx (gv 6) (gc (.int 4))) (gAll dLst (gsC (gc (.int 1)) (gsC (gc (.int 3)) gsN))))))
  (gRet (gv 4))
  gNx)
  (gSeq (gSet 2 (g2 dMul (g2 dIx (gv 6) (gc (.int 2))) (g2 dIx (gv 6) (gc (.int 4)))))
  (gSet 3 (gAll dTup (gsC (g2 dIx (gv 6) (gc (.int 1))) (gsC (gAll f__law_power (gsC (g2 dIx (gv 6) (gc (.int 3))) gsN)) gsN)))))))
  (gIte (gOr (gB (g2 dEq (gv 2) (gc (.int 0)))) (gOr (gB (g2 dNe (gAll dLen (gsC (gv 6) gsN)) (g2 dIx (gv 3) (gc (.int 0))))) (gOr (gB (g2 dLt (gAll dMin (gsC (gv 6) gsN)) (gc (.int 0)))) (gB (g2 dGe (gAll dMax (gsC (gv 6) gsN)) (g2 dIx (gv 3) (gc (.int 1))))))))
  (gRet (gv 4))
  (gSet 2 (g2 dSub (gv 2) (gc (.int 1))))))))))
  (gRet (g2 dIx (gAll dLst (gsC (gAll dLen (gsC (gv 1) gsN)) (gsC (gc .non) gsN))) (gAll dToInt (gsC (g2 dEq (gv 2) (gc (.int 0))) gsN)))))))))
def f__law_fault : List D → R D := runF 8 g__law_fault
theorem f__law_fault_run (d0 : D) : f__law_fault [d0] = (g__law_fault [d0, .non, .non, .non, .non, .non, .non, .non] >>= finF) := rfl
theorem D__law_fault [Tbs] {P : Program} {w : World} {K : Frag} {mg : Str → Option Value} {base : Heap} {a : Addr} {fd : FuncData} (B : Bn mg) (h__law_power : FnD P w K mg base 1 "_law_power" [.fr] M.fr f__law_power) (h__law_number : FnD P w K mg base 1 "_law_number" [.fr] M.fr f__law_number) (F : Fun K "_law_fault" "_law_fault" s__law_fault a fd) :
    FnOk P w K mg base (L2.CX P w) 2 a fd ["_law_text"] (spD K [.fr] M.fr f__law_fault) := by
  exact fn_body (N := N__law_fault) (k := 1) (n := []) (b := []) (c := []) g__law_fault rfl B F sc__law_fault rfl rfl fun cdv A outer s H E U => ⟨_, (dss_cons (n := [M.fr, M.fr, M.un, M.un, M.un, M.un, M.un, M.un]) (ds_set 1 U (DE.frz (de_split (de_v 0) de_str)))
  (dss_cons (n := [M.fr, M.fr, M.un, M.un, M.un, M.un, M.un, M.un]) (ds_if (dt_eq U (de_ix U (de_v 1) (de_neg de_int)) de_str)
  (dss_one (ds_set 1 U (DE.frz (de_sl U (de_v 1) do_none (do_some (de_neg de_int))))))
  dss_nil)
  (dss_cons (n := [M.fr, M.fr, M.fr, M.un, M.un, M.un, M.un, M.un]) (ds_set 2 U (de_neg de_int))
  (dss_cons (n := [M.fr, M.fr, M.fr, M.fr, M.un, M.un, M.un, M.un]) (ds_set 3 U (de_tup (du_cons de_int (du_cons de_int du_nil))))
  (dss_cons (n := [M.fr, M.fr, M.fr, M.fr, M.un, M.un, M.un, M.un]) (ds_for (Γ := [M.fr, M.fr, M.fr, M.fr, M.un, M.un, M.un, M.un]) U (di_range1 U (da_p (de_len U (de_v 1)) da_nil)) (dg_name 4 U)
  (DSs.post (dss_cons (n := [M.fr, M.fr, M.fr, M.fr, M.fr, M.fr, M.un, M.un]) (DS.post (ds_setLc 5 (own := [("_law_word", 7)]) (Γ' := [M.fr, M.fr, M.fr, M.fr, M.fr, M.un, M.un, M.fr]) U (di_any U (DE.frz (de_split (de_ix U (de_v 1) (de_v 4)) de_str))) (blkOk_by (own := [("_law_word", 7)]) (N := N__law_fault) (sc := defScope s__law_fault) (by decide +kernel)) (fun _ _ _ _ _ U => (dg_name 7 U)) (fun _ _ _ _ _ U => dts_one (dt_ne U (de_v 7) de_str)) (fun _ _ _ _ _ U => (de_v 7))) (.frz 5 rfl rfl .refl))
  (dss_cons (n := [M.fr, M.fr, M.fr, M.fr, M.fr, M.fr, M.un, M.un]) (ds_if (DW.dt (dw_or (dt_eq U (de_v 5) (de_lst (m := M.fr) du_nil)) (dw_or1 (dt_eq U (de_ix U (de_ix U (de_v 5) de_int) de_int) de_str))))
  (dss_one (DS.pre ds_continue (.un 4 rfl (.un 5 rfl .refl))))
  dss_nil)
  (dss_cons (n := [M.fr, M.fr, M.fr, M.fr, M.fr, M.fr, M.fr, M.un]) (DS.post (ds_setLc 6 (own := [("_law_word", 7)]) (Γ' := [M.fr, M.fr, M.fr, M.fr, M.fr, M.fr, M.un, M.fr]) U (di_any U (de_v 5)) (blkOk_by (own := [("_law_word", 7)]) (N := N__law_fault) (sc := defScope s__law_fault) (by decide +kernel)) (fun _ _ _ _ _ U => (dg_name 7 U)) (fun _ _ _ _ _ U => dts_nil) (fun _ _ _ _ _ U => (de_call U h__law_number (da_f (de_v 7) da_nil)))) (.frz 6 rfl rfl .refl))
  (dss_one (ds_if (dt_lt (de_v 2) de_int)
  (dss_cons (n := [M.fr, M.fr, M.fr, M.fr, M.fr, M.fr, M.fr, M.un]) (ds_if (DW.dt (dw_or (dt_ne U (de_ix U (de_v 5) de_int) de_str) (dw_or (dt_ne U (de_len U (de_v 5)) de_int) (dw_or (dt_not (dt_lele de_int (de_ix U (de_v 6) de_int) de_int)) (dw_or1 (dt_not (dt_lele de_int (de_ix U (de_v 6) de_int) de_int)))))))
  (dss_one (ds_ret (de_v 4)))
  dss_nil)
  (dss_cons (n := [M.fr, M.fr, M.fr, M.fr, M.fr, M.fr, M.fr, M.un]) (ds_if (DW.dt (dw_or (dt_not (dt_lele de_int (de_ix U (de_v 6) de_int) de_int)) (dw_or1 (dt_nin U (de_ix U (de_v 6) de_int) (de_lst (du_cons de_int (du_cons de_int du_nil)))))))
  (dss_one (ds_ret (de_v 4)))
  dss_nil)
  (dss_cons (n := [M.fr, M.fr, M.fr, M.fr, M.fr, M.fr, M.fr, M.un]) (ds_set 2 U (de_mul (de_ix U (de_v 6) de_int) (de_ix U (de_v 6) de_int)))
  (dss_one (ds_set 3 U (de_tup (du_cons (de_ix U (de_v 6) de_int) (du_cons (de_call U h__law_power (da_f (de_ix U (de_v 6) de_int) da_nil)) du_nil))))))))
  (dss_one (ds_if (DW.dt (dw_or (dt_eq U (de_v 2) de_int) (dw_or (dt_ne U (de_len U (de_v 6)) (de_ix U (de_v 3) de_int)) (dw_or (dt_lt (de_min1 U (de_v 6)) de_int) (dw_or1 (dt_ge (de_max1 U (de_v 6)) (de_ix U (de_v 3) de_int)))))))
  (dss_one (ds_ret (de_v 4)))
  (dss_one (ds_set 2 U (de_sub (de_v 2) de_int)))))))))) (.un 4 rfl (.un 5 rfl (.un 6 rfl .refl)))))
  (dss_one (ds_ret (de_ix U (DE.frz (de_lst (du_cons (de_len U (de_v 1)) (du_cons de_non du_nil)))) (de_toInt U (de_eq U (de_v 2) de_int))))))))))⟩
abbrev s__law_changed : Stmt := topS 28
abbrev N__law_changed : List Str := ["_law_line", "_law_cell", "_law_words", "_law_at", "_law_some", "_law_word", "_law_way", "_law_signs", "_law_spot"]
theorem sc__law_changed : FnScope N__law_changed ["_law_line", "_law_cell"] (defScope s__law_changed) := ⟨rfl, rfl, rfl, by decide +kernel, rfl, by decide +kernel, by decide +kernel⟩
def g__law_changed : List D → R Fl :=
  (gSeq (gSet 2 (gLc (gIter (gT2 dSplit (gv 0) (gc (.str (Str.ofString " "))))) (gtN 5) (gB (g2 dNe (gv 5) (gc (.str (Str.ofString ""))))) (gv 5)))
  (gSeq (gSet 3 (gAll f__law_mixed (gsC (gv 1) (gsC (gc (.int 1)) (gsC (g2 dAdd (gAll dLen (gsC (gv 2) gsN)) (gc (.int 1))) gsN)))))
  (gSeq (gSet 4 (gAll dLst (gsC (gc (.str (Str.ofString "0"))) (gsC (gc (.str (Str.ofString "1"))) (gsC (gc (.str (Str.ofString "2"))) (gsC (gc (.str (Str.ofString "3"))) (gsC (gc (.str (Str.ofString "4"))) (gsC (gc (.str (Str.ofString "7"))) (gsC (gc (.str (Str.ofString "8"))) (gsC (gc (.str (Str.ofString "9"))) (gsC (gc (.str (Str.ofString "15"))) (gsC (gc (.str (Str.ofString "16"))) (gsC (gc (.str (Str.ofString "31"))) (gsC (gc (.str (Str.ofString "39"))) (gsC (gc (.str (Str.ofString "40"))) (gsC (gc (.str (Str.ofString "41"))) (gsC (gc (.str (Str.ofString "127"))) (gsC (gc (.str (Str.ofString "128"))) gsN))))))))))))))))))
  (gSeq (gSet 4 (g2 dAdd (gv 4) (gAll dLst (gsC (gc (.str (Str.ofString "63"))) (gsC (gc (.str (Str.ofString "64"))) (gsC (gc (.str (Str.ofString "255"))) (gsC (gc (.str (Str.ofString "256"))) (gsC (gc (.str (Str.ofString "00"))) (gsC (gc (.str (Str.ofString "01"))) gsN)))))))))
  (gSeq (gSet 4 (g2 dAdd (gv 4) (gAll dLst (gsC (gc (.str (Str.ofString "007"))) (gsC (gc (.str (Str.ofString "-1"))) (gsC (gc (.str (Str.ofString "+1"))) (gsC (gc (.str (Str.ofString "1."))) (gsC (gc (.str (Str.ofString "x"))) (gsC (gc (.str (Str.ofString "picture"))) (gsC (gc (.str (Str.ofString "Picture"))) (gsC (gc (.str (Str.ofString "#"))) (gsC (gc (.str (Str.ofString "1000000000"))) (gsC (gc (.str (Str.ofString "9999"))) gsN)))))))))))))
  (gSeq (gSet 4 (g2 dAdd (g2 dAdd (gv 4) (gAll dLst (gsC (g2 dSMul (gc (.str (Str.ofString "1"))) (gc (.int 60))) (gsC (gc (.str (Str.ofString "1 1"))) (gsC (gc (.str (Str.ofString "0 0"))) gsN))))) (g2 dRep (gAll dLst (gsC (gc (.str (Str.ofString "00"))) (gsC (gc (.str (Str.ofString "01"))) (gsC (gc (.str (Str.ofString "007"))) (gsC (gc (.str (Str.ofString "00"))) gsN))))) (gc (.int 3)))))
  (gSeq (gSet 5 (g2 dIx (gv 4) (gAll f__law_mixed (gsC (gv 1) (gsC (gc (.int 2)) (gsC (gAll dLen (gsC (gv 4) gsN)) gsN))))))
  (gSeq (gSet 6 (gAll f__law_mixed (gsC (gv 1) (gsC (gc (.int 3)) (gsC (gc (.int 9)) gsN)))))
  (gSeq (gIte (gAnd (gB (g2 dEq (gSl false (gv 2) goN (goS (gc (.int 1)))) (gAll dLst (gsC (gc (.str (Str.ofString "picture"))) gsN)))) (gAnd (gB (g2 dIn (gv 6) (gAll dLst (gsC (gc (.int 1)) (gsC (gc (.int 2)) (gsC (gc (.int 3)) (gsC (gc (.int 4)) gsN))))))) (gB (g2 dEq (gAll dLen (gsC (gv 2) gsN)) (gc (.int 5))))))
  (gSeq (gSet 6 (gc (.int 3)))
  (gSeq (gSet 3 (g2 dAdd (gc (.int 1)) (gAll f__law_mixed (gsC (gv 1) (gsC (gc (.int 4)) (gsC (gc (.int 4)) gsN))))))
  (gSet 5 (g2 dIx (g2 dIx (gAll dLst (gsC (gAll dLst (gsC (gc (.str (Str.ofString "41"))) (gsC (gc (.str (Str.ofString "0"))) (gsC (gc (.str (Str.ofString "40"))) gsN)))) (gsC (gAll dLst (gsC (gc (.str (Str.ofString "41"))) (gsC (gc (.str (Str.ofString "0"))) (gsC (gc (.str (Str.ofString "1"))) gsN)))) (gsC (gAll dLst (gsC (gc (.str (Str.ofString "9"))) (gsC (gc (.str (Str.ofString "0"))) (gsC (gc (.str (Str.ofString "8"))) gsN)))) (gsC (gAll dLst (gsC (gc (.str (Str.ofString "2"))) (gsC (gc (.str (Str.ofString "4"))) (gsC (gc (.str (Str.ofString "0"))) gsN)))) gsN))))) (g2 dSub (gv 3) (gc (.int 1)))) (gAll f__law_mixed (gsC (gv 1) (gsC (gc (.int 5)) (gsC (gc (.int 3)) gsN))))))))
  gNx)
  (gSeq (gIte (gB (g2 dLt (gv 6) (gc (.int 2))))
  (gRet (gJn (gc (.str (Str.ofString " "))) (g2 dAdd (gSl false (gv 2) goN (goS (gv 3))) (gSl false (gv 2) (goS (g2 dAdd (gv 3) (gc (.int 1)))) goN))))
  gNx)
  (gSeq (gIte (gB (g2 dEq (gv 6) (gc (.int 2))))
  (gRet (gJn (gc (.str (Str.ofString " "))) (g2 dAdd (g2 dAdd (gSl false (gv 2) goN (goS (gv 3))) (gAll dLst (gsC (gv 5) gsN))) (gSl false (gv 2) (goS (gv 3)) goN))))
  gNx)
  (gSeq (gIte (gB (g2 dLt (gv 6) (gc (.int 6))))
  (gRet (gJn (gc (.str (Str.ofString " "))) (g2 dAdd (g2 dAdd (gSl false (gv 2) goN (goS (gv 3))) (gAll dLst (gsC (gv 5) gsN))) (gSl false (gv 2) (goS (g2 dAdd (gv 3) (gc (.int 1)))) goN))))
  gNx)
  (gSeq (gIte (gB (g2 dEq (gv 6) (gc (.int 6))))
  (gSeq (gSet 7 (gc (.str (Str.ofString " !\"#$&'()*+,-./0123456789:;<=>?@ABCDEFGHIJKLMNOPQRSTUVWXYZ[\\]^_`{|}~\n"))))
  (gSeq (gSet 8 (gAll f__law_mixed (gsC (gv 1) (gsC (gc (.int 4)) (gsC (g2 dAdd (gAll dLen (gsC (gv 0) gsN)) (gc (.int 1))) gsN)))))
  (gRet (g2 dAdd (g2 dAdd (gSl false (gv 0) goN (goS (gv 8))) (g2 dIx (gv 7) (gAll f__law_mixed (gsC (gv 1) (gsC (gc (.int 5)) (gsC (gAll dLen (gsC (gv 7) gsN)) gsN)))))) (gSl false (gv 0) (goS (g2 dAdd (gv 8) (g2 dMod (gv 1) (gc (.int 2))))) goN)))))
  gNx)
  (gRet (g2 dAdd (g2 dAdd (gv 0) (gc (.str (Str.ofString "\n")))) (g2 dIx (gAll dLst (gsC (gv 0) (gsC (gc (.str (Str.ofString "0"))) (gsC (gc (.str (Str.ofString "picture 1 1 1 1"))) (gsC (gc (.str (Str.ofString "1 1"))) gsN))))) (gAll f__law_mixed (gsC (gv 1) (gsC (gc (.int 6)) (gsC (gc (.int 4)) gsN))))))))))))))))))))
def f__law_changed : List D → R D := runF 9 g__law_changed
theorem f__law_changed_run (d0 d1 : D) : f__law_changed [d0, d1] = (g__law_changed [d0, d1, .non, .non, .non, .non, .non, .non, .non] >>= finF) := rfl
theorem D__law_changed [Tbs] {P : Program} {w : World} {K : Frag} {mg : Str → Option Value} {base : Heap} {a : Addr} {fd : FuncData} (B : Bn mg) (h__law_mixed : FnD P w K mg base 1 "_law_mixed" [.fr, .fr, .fr] M.fr f__law_mixed) (F : Fun K "_law_changed" "_law_changed" s__law_changed a fd) :
    FnOk P w K mg base (L2.CX P w) 2 a fd ["_law_line", "_law_cell"] (spD K [.fr, .fr] M.fr f__law_changed) := by
  exact fn_body (N := N__law_changed) (k := 1) (n := []) (b := []) (c := []) g__law_changed rfl B F sc__law_changed rfl rfl fun cdv A outer s H E U => ⟨_, (dss_cons (n := [M.fr, M.fr, M.fr, M.un, M.un, M.un, M.un, M.un, M.un]) (DS.post (ds_setLc 2 (own := [("_law_word", 5)]) (Γ' := [M.fr, M.fr, M.un, M.un, M.un, M.fr, M.un, M.un, M.un]) U (di_any U (DE.frz (de_split (de_v 0) de_str))) (blkOk_by (own := [("_law_word", 5)]) (N := N__law_changed) (sc := defScope s__law_changed) (by decide +kernel)) (fun _ _ _ _ _ U => (dg_name 5 U)) (fun _ _ _ _ _ U => dts_one (dt_ne U (de_v 5) de_str)) (fun _ _ _ _ _ U => (de_v 5))) (.frz 2 rfl rfl .refl))
  (dss_cons (n := [M.fr, M.fr, M.fr, M.fr, M.un, M.un, M.un, M.un, M.un]) (ds_set 3 U (de_call U h__law_mixed (da_f (de_v 1) (da_f de_int (da_f (DE.frz (de_add U (de_len U (de_v 2)) de_int)) da_nil)))))
  (dss_cons (n := [M.fr, M.fr, M.fr, M.fr, M.fr, M.un, M.un, M.un, M.un]) (ds_set 4 U (DE.frz (de_lst (du_cons de_str (du_cons de_str (du_cons de_str (du_cons de_str (du_cons de_str (du_cons de_str (du_cons de_str (du_cons de_str (du_cons de_str (du_cons de_str (du_cons de_str (du_cons de_str (du_cons de_str (du_cons de_str (du_cons de_str (du_cons de_str du_nil)))))))))))))))))))
  (dss_cons (n := [M.fr, M.fr, M.fr, M.fr, M.fr, M.un, M.un, M.un, M.un]) (ds_set 4 U (DE.frz (de_add U (de_v 4) (de_lst (du_cons de_str (du_cons de_str (du_cons de_str (du_cons de_str (du_cons de_str (du_cons de_str du_nil))))))))))
  (dss_cons (n := [M.fr, M.fr, M.fr, M.fr, M.fr, M.un, M.un, M.un, M.un]) (ds_set 4 U (DE.frz (de_add U (de_v 4) (de_lst (du_cons de_str (du_cons de_str (du_cons de_str (du_cons de_str (du_cons de_str (du_cons de_str (du_cons de_str (du_cons de_str (du_cons de_str (du_cons de_str du_nil))))))))))))))
  (dss_cons (n := [M.fr, M.fr, M.fr, M.fr, M.fr, M.un, M.un, M.un, M.un]) (ds_set 4 U (DE.frz (de_add U (de_add U (de_v 4) (de_lst (du_cons (de_smul de_str de_int) (du_cons de_str (du_cons de_str du_nil))))) (de_rep U (de_lst (du_cons de_str (du_cons de_str (du_cons de_str (du_cons de_str du_nil))))) de_int))))
  (dss_cons (n := [M.fr, M.fr, M.fr, M.fr, M.fr, M.fr, M.un, M.un, M.un]) (ds_set 5 U (de_ix U (de_v 4) (de_call U h__law_mixed (da_f (de_v 1) (da_f de_int (da_f (de_len U (de_v 4)) da_nil))))))
  (dss_cons (n := [M.fr, M.fr, M.fr, M.fr, M.fr, M.fr, M.fr, M.un, M.un]) (ds_set 6 U (de_call U h__law_mixed (da_f (de_v 1) (da_f de_int (da_f de_int da_nil)))))
  (dss_cons (n := [M.fr, M.fr, M.fr, M.fr, M.fr, M.fr, M.fr, M.un, M.un]) (ds_if (DW.dt (dw_and (dt_eq U (de_sl U (de_v 2) do_none (do_some de_int)) (de_lst (du_cons de_str du_nil))) (dw_and (dt_in U (de_v 6) (de_lst (du_cons de_int (du_cons de_int (du_cons de_int (du_cons de_int du_nil)))))) (dw_and1 (dt_eq U (de_len U (de_v 2)) de_int)))))
  (dss_cons (n := [M.fr, M.fr, M.fr, M.fr, M.fr, M.fr, M.fr, M.un, M.un]) (ds_set 6 U de_int)
  (dss_cons (n := [M.fr, M.fr, M.fr, M.fr, M.fr, M.fr, M.fr, M.un, M.un]) (ds_set 3 U (DE.frz (de_add U de_int (de_call U h__law_mixed (da_f (de_v 1) (da_f de_int (da_f de_int da_nil)))))))
  (dss_one (ds_set 5 U (de_ix U (de_ix U (DE.frz (de_lst (du_cons (DE.frz (de_lst (du_cons de_str (du_cons de_str (du_cons de_str du_nil))))) (du_cons (DE.frz (de_lst (du_cons de_str (du_cons de_str (du_cons de_str du_nil))))) (du_cons (DE.frz (de_lst (du_cons de_str (du_cons de_str (du_cons de_str du_nil))))) (du_cons (DE.frz (de_lst (du_cons de_str (du_cons de_str (du_cons de_str du_nil))))) du_nil)))))) (de_sub (de_v 3) de_int)) (de_call U h__law_mixed (da_f (de_v 1) (da_f de_int (da_f de_int da_nil)))))))))
  dss_nil)
  (dss_cons (n := [M.fr, M.fr, M.fr, M.fr, M.fr, M.fr, M.fr, M.un, M.un]) (ds_if (dt_lt (de_v 6) de_int)
  (dss_one (ds_ret (de_join U de_str (de_add U (de_sl U (de_v 2) do_none (do_some (de_v 3))) (de_sl U (de_v 2) (do_some (de_add U (de_v 3) de_int)) do_none)))))
  dss_nil)
  (dss_cons (n := [M.fr, M.fr, M.fr, M.fr, M.fr, M.fr, M.fr, M.un, M.un]) (ds_if (dt_eq U (de_v 6) de_int)
  (dss_one (ds_ret (de_join U de_str (de_add U (de_add U (de_sl U (de_v 2) do_none (do_some (de_v 3))) (de_lst (du_cons (de_v 5) du_nil))) (de_sl U (de_v 2) (do_some (de_v 3)) do_none)))))
  dss_nil)
  (dss_cons (n := [M.fr, M.fr, M.fr, M.fr, M.fr, M.fr, M.fr, M.un, M.un]) (ds_if (dt_lt (de_v 6) de_int)
  (dss_one (ds_ret (de_join U de_str (de_add U (de_add U (de_sl U (de_v 2) do_none (do_some (de_v 3))) (de_lst (du_cons (de_v 5) du_nil))) (de_sl U (de_v 2) (do_some (de_add U (de_v 3) de_int)) do_none)))))
  dss_nil)
  (dss_cons (n := [M.fr, M.fr, M.fr, M.fr, M.fr, M.fr, M.fr, M.un, M.un]) (ds_if (dt_eq U (de_v 6) de_int)
  (dss_cons (n := [M.fr, M.fr, M.fr, M.fr, M.fr, M.fr, M.fr, M.fr, M.un]) (ds_set 7 U de_str)
  (dss_cons (n := [M.fr, M.fr, M.fr, M.fr, M.fr, M.fr, M.fr, M.fr, M.fr]) (ds_set 8 U (de_call U h__law_mixed (da_f (de_v 1) (da_f de_int (da_f (DE.frz (de_add U (de_len U (de_v 0)) de_int)) da_nil)))))
  (dss_one (ds_ret (DE.frz (de_add U (de_add U (de_sl U (de_v 0) do_none (do_some (de_v 8))) (de_ix U (de_v 7) (de_call U h__law_mixed (da_f (de_v 1) (da_f de_int (da_f (de_len U (de_v 7)) da_nil)))))) (de_sl U (de_v 0) (do_some (de_add U (de_v 8) (de_mod (de_v 1) de_int))) do_none)))))))
  dss_nil)
  (dss_one (ds_ret (DE.frz (de_add U (de_add U (de_v 0) de_str) (de_ix U (DE.frz (de_lst (du_cons (de_v 0) (du_cons de_str (du_cons de_str (du_cons de_str du_nil)))))) (de_call U h__law_mixed (da_f (de_v 1) (da_f de_int (da_f de_int da_nil))))))))))))))))))))))⟩
abbrev s__law_read : Stmt := topS 29
abbrev N__law_read : List Str := ["_law_text", "_law_error", "_law_e"]
theorem sc__law_read : FnScope N__law_read ["_law_text"] (defScope s__law_read) := ⟨rfl, rfl, rfl, by decide +kernel, rfl, by decide +kernel, by decide +kernel⟩
def g__law_read (cx : Nat → Addr) : List D → R Fl :=
  (gSeq (gSet 1 (gc .non))
  (gSeq (gTryKR 1 (gDrop (gCallN (f_read cx) (gsC (gv 0) gsN))) [cx 1])
  (gSeq (gIte (gB (g2 dIsN (gv 1) (gc .non)))
  (gRet (gc .non))
  gNx)
  (gSeq (gIte (gOr (gB (g2 dNe (gAll (f__law_class cx) (gsC (gv 1) gsN)) (gc (.str (Str.ofString "picture"))))) (gNot (gB (gAll f__law_whole (gsC (g1 (dRow [cx 1]) (gv 1)) gsN)))))
  (gRet (gc (.str (Str.ofString "other"))))
  gNx)
  (gRet (g1 (dRow [cx 1]) (gv 1)))))))
def f__law_read (cx : Nat → Addr) : List D → R D := runF 3 (g__law_read cx)
theorem f__law_read_run (cx : Nat → Addr) (d0 : D) : f__law_read cx [d0] = (g__law_read cx [d0, .non, .non] >>= finF) := rfl
theorem D__law_read [Tbs] {cx : Nat → Addr} {P : Program} {w : World} {K : Frag} {mg : Str → Option Value} {base : Heap} {a : Addr} {fd : FuncData} (B : Bn mg) (P_PressError : mg "PressError" = some (.ref (cx 0))) (Q_NoPicture : ExcC K (cx 1)) (R_NoPicture : RowX P w K mg base "NoPicture" (cx 1)) (Y_NoPicture : ExcC K (cx 1) ∧ findIn K (.ref (cx 1)) "row" = some none) (m_NoPicture_PressError : PySem.W.exmOne K (.ref (cx 1)) (.ref (cx 0)) = some true) (h_read : FnD P w K mg base 4 "read" [.fr] M.fr (f_read cx)) (h__law_whole : FnD P w K mg base 1 "_law_whole" [.fr] M.fr f__law_whole) (h__law_class : FnD P w K mg base 1 "_law_class" [.fr] M.fr (f__law_class cx)) (F : Fun K "_law_read" "_law_read" s__law_read a fd) :
    FnOk P w K mg base (L2.CX P w) 5 a fd ["_law_text"] (spD K [.fr] M.fr (f__law_read cx)) := by
  exact fn_body (N := N__law_read) (k := 4) (n := []) (b := []) (c := []) (g__law_read cx) rfl B F sc__law_read rfl rfl fun cdv A outer s H E U => ⟨_, (dss_cons (n := [M.fr, M.fr, M.un]) (ds_set 1 U de_non)
  (dss_cons (n := [M.fr, M.fr, M.un]) (ds_tryKR (cs := [cx 1]) 1 2 U (dbx_expr (dcx_call U h_read fun pn xe => (da_f (de_v 0) da_nil))) P_PressError (List.forall_mem_cons.mpr ⟨m_NoPicture_PressError, (fun _ h => nomatch h)⟩))
  (dss_cons (n := [M.fr, M.fr, M.un]) (ds_if (dt_isN (de_v 1) de_non)
  (dss_one (ds_ret de_non))
  dss_nil)
  (dss_cons (n := [M.fr, M.fr, M.un]) (ds_if (DW.dt (dw_or (dt_ne U (de_call U h__law_class (da_f (de_v 1) da_nil)) de_str) (dw_or1 (dt_not (dt_val (de_call U h__law_whole (da_f (de_row (cs := [cx 1]) U (fun C h => by rw [List.mem_singleton.mp h]; exact Y_NoPicture) (de_v 1)) da_nil)))))))
  (dss_one (ds_ret de_str))
  dss_nil)
  (dss_one (ds_ret (de_row (cs := [cx 1]) U (fun C h => by rw [List.mem_singleton.mp h]; exact Y_NoPicture) (de_v 1))))))))⟩
abbrev s_law : Stmt := topS 30
abbrev N_law : List Str := ["_law_script", "_law_picture_here", "_law_cell", "_law_other", "_law_textrows", "_law_head", "_law_k", "_law_text", "_law_at", "_law_row"]
theorem sc_law : FnScope N_law ["_law_script"] (defScope s_law) := ⟨rfl, rfl, rfl, by decide +kernel, rfl, by decide +kernel, by decide +kernel⟩
def g_law (cx : Nat → Addr) : List D → R Fl :=
  (gSeq (gSet 1 (gAll f__law_picture (gsC (gv 0) (gsC (gc (.int 2)) gsN))))
  (gSeq (gSet 2 (gAll f__law_cell_at (gsC (gv 0) (gsC (gc (.int 0)) gsN))))
  (gSeq (gSet 3 (gAll f__law_cell_at (gsC (gv 0) (gsC (gc (.int 1)) gsN))))
  (gSeq (gSet 4 (gAll f__law_loose_lines (gsC (gAll f__law_lines (gsC (gv 1) gsN)) (gsC (gv 2) gsN))))
  (gSeq (gSet 5 (gIdxS (gLc (gIter (gv 4)) (gtN 9) gtt (g2 dIx (gT2 dSplit (gT2 dStrip (gv 9) (gc (.str (Str.ofString " ")))) (gc (.str (Str.ofString " ")))) (gc (.int 0)))) (gc (.str (Str.ofString "picture")))))
  (gSeq (gFor (gI dRng1 (gsC (g2 dIx (gAll dLst (gsC (gc (.int 0)) (gsC (gc (.int 1)) (gsC (gc (.int 1)) (gsC (gc (.int 1)) (gsC (gc (.int 1)) (gsC (gc (.int 1)) (gsC (gc (.int 2)) (gsC (gc (.int 2)) (gsC (gc (.int 1)) (gsC (gc (.int 1)) gsN))))))))))) (gAll f__law_mixed (gsC (gv 3) (gsC (gc (.int 8)) (gsC (gc (.int 10)) gsN))))) gsN)) (gtN 6)
  (gSeq (gSet 8 (gAll f__law_mixed (gsC (g2 dAdd (gv 3) (gv 6)) (gsC (gc (.int 9)) (gsC (gAll dLen (gsC (gv 4) gsN)) gsN)))))
  (gSeq (gIte (gB (g2 dEq (gAll f__law_mixed (gsC (g2 dAdd (gv 3) (gv 6)) (gsC (gc (.int 6)) (gsC (gc (.int 3)) gsN)))) (gc (.int 1))))
  (gSet 8 (gv 5))
  gNx)
  (gSetI 4 (gAll f__law_changed (gsC (g2 dIx (gv 4) (gv 8)) (gsC (g2 dAdd (g2 dDiv (gv 3) (gc (.int 3))) (g2 dMul (gc (.int 7)) (gv 6))) gsN))) (gv 8)))))
  (gSeq (gIte (gB (g2 dEq (gAll f__law_mixed (gsC (gv 3) (gsC (gc (.int 10)) (gsC (gc (.int 6)) gsN)))) (gc (.int 1))))
  (gSet 4 (gSl true (gv 4) goN (goS (gAll f__law_mixed (gsC (gv 3) (gsC (gc (.int 7)) (gsC (g2 dAdd (gAll dLen (gsC (gv 4) gsN)) (gc (.int 1))) gsN)))))))
  gNx)
  (gSeq (gSet 7 (g2 dAdd (gJn (gc (.str (Str.ofString "\n"))) (gv 4)) (g2 dSMul (gc (.str (Str.ofString "\n"))) (g2 dMod (gv 2) (gc (.int 3))))))
  (gRet (g2 dEq (gAll (f__law_read cx) (gsC (gv 7) gsN)) (gAll f__law_fault (gsC (gv 7) gsN))))))))))))
def f_law (cx : Nat → Addr) : List D → R D := runF 10 (g_law cx)
theorem f_law_run (cx : Nat → Addr) (d0 : D) : f_law cx [d0] = (g_law cx [d0, .non, .non, .non, .non, .non, .non, .non, .non, .non] >>= finF) := rfl
theorem D_law [Tbs] {cx : Nat → Addr} {P : Program} {w : World} {K : Frag} {mg : Str → Option Value} {base : Heap} {a : Addr} {fd : FuncData} (B : Bn mg) (h__law_cell_at : FnD P w K mg base 1 "_law_cell_at" [.fr, .fr] M.fr f__law_cell_at) (h__law_mixed : FnD P w K mg base 1 "_law_mixed" [.fr, .fr, .fr] M.fr f__law_mixed) (h__law_picture : FnD P w K mg base 3 "_law_picture" [.fr, .fr] M.fr f__law_picture) (h__law_lines : FnD P w K mg base 1 "_law_lines" [.fr] M.fr f__law_lines) (h__law_loose_lines : FnD P w K mg base 3 "_law_loose_lines" [.fr, .fr] (M.ow M.fr) f__law_loose_lines) (h__law_fault : FnD P w K mg base 2 "_law_fault" [.fr] M.fr f__law_fault) (h__law_changed : FnD P w K mg base 2 "_law_changed" [.fr, .fr] M.fr f__law_changed) (h__law_read : FnD P w K mg base 5 "_law_read" [.fr] M.fr (f__law_read cx)) (F : Fun K "law" "law" s_law a fd) :
    FnOk P w K mg base (L2.CX P w) 6 a fd ["_law_script"] (spD K [.fr] M.fr (f_law cx)) := by
  exact fn_body (N := N_law) (k := 5) (n := []) (b := []) (c := []) (g_law cx) rfl B F sc_law rfl rfl fun cdv A outer s H E U => ⟨_, (dss_cons (n := [M.fr, M.fr, M.un, M.un, M.un, M.un, M.un, M.un, M.un, M.un]) (ds_set 1 U (de_call U h__law_picture (da_f (de_v 0) (da_f de_int da_nil))))
  (dss_cons (n := [M.fr, M.fr, M.fr, M.un, M.un, M.un, M.un, M.un, M.un, M.un]) (ds_set 2 U (de_call U h__law_cell_at (da_f (de_v 0) (da_f de_int da_nil))))
  (dss_cons (n := [M.fr, M.fr, M.fr, M.fr, M.un, M.un, M.un, M.un, M.un, M.un]) (ds_set 3 U (de_call U h__law_cell_at (da_f (de_v 0) (da_f de_int da_nil))))
  (dss_cons (n := [M.fr, M.fr, M.fr, M.fr, (M.ow M.fr), M.un, M.un, M.un, M.un, M.un]) (ds_set 4 U (de_call U h__law_loose_lines (da_f (de_call U h__law_lines (da_f (de_v 1) da_nil)) (da_f (de_v 2) da_nil))))
  (dss_cons (n := [M.fr, M.fr, M.fr, M.fr, (M.ow M.fr), M.fr, M.un, M.un, M.un, M.un]) (ds_set 5 U (de_idxS U (DE.bor (Γ' := [M.fr, M.fr, M.fr, M.fr, M.bo, M.un, M.un, M.un, M.un, M.un]) (de_lc (own := [("_law_row", 9)]) (Γ' := [M.fr, M.fr, M.fr, M.fr, M.bo, M.un, M.un, M.un, M.un, M.bo]) U (di_any U (de_vb 4)) (blkOk_by (own := [("_law_row", 9)]) (N := N_law) (sc := defScope s_law) (by decide +kernel)) (fun _ _ _ _ _ U => (dg_name 9 U)) (fun _ _ _ _ _ U => dts_nil) (fun _ _ _ _ _ U => (de_ix U (DE.frz (de_split (de_stripC (de_vb 9) de_str) de_str)) de_int)))) de_str))
  (dss_cons (n := [M.fr, M.fr, M.fr, M.fr, (M.ow M.fr), M.fr, M.un, M.un, M.un, M.un]) (ds_for (Γ := [M.fr, M.fr, M.fr, M.fr, (M.ow M.fr), M.fr, M.un, M.un, M.un, M.un]) U (di_range1 U (da_p (de_ix U (DE.frz (de_lst (du_cons de_int (du_cons de_int (du_cons de_int (du_cons de_int (du_cons de_int (du_cons de_int (du_cons de_int (du_cons de_int (du_cons de_int (du_cons de_int du_nil)))))))))))) (de_call U h__law_mixed (da_f (de_v 3) (da_f de_int (da_f de_int da_nil))))) da_nil)) (dg_name 6 U)
  (DSs.post (dss_cons (n := [M.fr, M.fr, M.fr, M.fr, (M.ow M.fr), M.fr, M.fr, M.un, M.fr, M.un]) (ds_set 8 U (de_call U h__law_mixed (da_f (DE.frz (de_add U (de_v 3) (de_v 6))) (da_f de_int (da_f (de_len U (de_vp 4)) da_nil)))))
  (dss_cons (n := [M.fr, M.fr, M.fr, M.fr, (M.ow M.fr), M.fr, M.fr, M.un, M.fr, M.un]) (ds_if (dt_eq U (de_call U h__law_mixed (da_f (DE.frz (de_add U (de_v 3) (de_v 6))) (da_f de_int (da_f de_int da_nil)))) de_int)
  (dss_one (ds_set 8 U (de_v 5)))
  dss_nil)
  (dss_one (ds_setI 4 U (de_call U h__law_changed (da_f (de_ixO 4 U (de_v 8)) (da_f (DE.frz (de_add U (de_div (de_v 3) de_int) (de_mul de_int (de_v 6)))) da_nil))) (de_v 8))))) (.un 6 rfl (.un 8 rfl .refl))))
  (dss_cons (n := [M.fr, M.fr, M.fr, M.fr, (M.ow M.fr), M.fr, M.un, M.un, M.un, M.un]) (ds_if (dt_eq U (de_call U h__law_mixed (da_f (de_v 3) (da_f de_int (da_f de_int da_nil)))) de_int)
  (dss_one (ds_set 4 U (de_slP U (de_vp 4) do_none (do_some (de_call U h__law_mixed (da_f (de_v 3) (da_f de_int (da_f (DE.frz (de_add U (de_len U (de_vp 4)) de_int)) da_nil))))))))
  dss_nil)
  (dss_cons (n := [M.fr, M.fr, M.fr, M.fr, (M.ow M.fr), M.fr, M.un, M.fr, M.un, M.un]) (ds_set 7 U (DE.frz (de_add U (de_join U de_str (de_vp 4)) (de_smul de_str (de_mod (de_v 2) de_int)))))
  (dss_one (ds_ret (de_eq U (de_call U h__law_read (da_f (de_v 7) da_nil)) (de_call U h__law_fault (da_f (de_v 7) da_nil)))))))))))))⟩
abbrev s_NoPicture_init : Stmt := clsS 2 0
theorem sc_NoPicture_init : FnScope ["self", "row"] ["self", "row"] (defScope s_NoPicture_init) := ⟨rfl, rfl, rfl, by decide +kernel, rfl, by decide +kernel, by decide +kernel⟩
theorem D_NoPicture_init [Tbs] {P : Program} {w : World} {K : Frag} {mg : Str → Option Value} {base : Heap} {a CP : Addr} {mc : Value} {fd : FuncData} (F : Fun K "__init__" "NoPicture.__init__" s_NoPicture_init a fd) (hC : mg "PressError" = some (.ref CP)) (r : ClX.CRead K CP mc) (c : PySem.W.findCls K (.ref CP) mc "__init__" = some (.val (.builtin "ValueError.__init__"))) : FnOk P w K mg base (L2.CX P w) 1 a fd ["self", "row"] (spRow K) := init_row F sc_NoPicture_init rfl hC r c
end LW
namespace DL
open PySem L2
theorem dMul_l {i j : Int} (h : -(2 ^ 64) < i) (h' : i < 2 ^ 64) : dMul (.int i) (.int j) = .ok (.int (i * j)) := if_pos (.inl (.inl ⟨h, h'⟩))
theorem dMul_r {i j : Int} (h : -(2 ^ 64) < j) (h' : j < 2 ^ 64) : dMul (.int i) (.int j) = .ok (.int (i * j)) := if_pos (.inl (.inr ⟨h, h'⟩))
theorem log2_small {n : Nat} (h : n < 2 ^ 64) : n.log2 < 9000 := by
  by_cases z : n = 0
  · subst z; decide
  · have := (Nat.log2_lt z).mpr h
    omega
theorem dDiv_s {i j : Int} (h : 0 < j) (h' : j < 2 ^ 64) : dDiv (.int i) (.int j) = .ok (.int (i / j)) := if_pos ⟨h, log2_small (by omega)⟩
theorem dMod_s {i j : Int} (h : 0 < j) : dMod (.int i) (.int j) = .ok (.int (i % j)) := if_pos h
theorem dShl_s {i : Int} {j a : Nat} (h : i.natAbs < 2 ^ a) (ha : a + j ≤ 134217728) : dShl (.int i) (.int j) = .ok (.int (i * 2 ^ j)) := by
  have e : dShl (.int i) (.int j) = .ok (.int (i * 2 ^ (j : Int).toNat)) := if_pos (shl_ok h ha)
  rw [e, Int.toNat_natCast]
theorem dAdd_i (i j : Int) : dAdd (.int i) (.int j) = .ok (.int (i + j)) := rfl
theorem dSub_i (i j : Int) : dSub (.int i) (.int j) = .ok (.int (i - j)) := rfl
theorem dNeg_i (i : Int) : dNeg (.int i) = .ok (.int (-i)) := rfl
theorem dLt_i (i j : Int) : dLt (.int i) (.int j) = .ok (.bl (decide (i < j))) := rfl
theorem dLe_i (i j : Int) : dLe (.int i) (.int j) = .ok (.bl (decide (i ≤ j))) := rfl
theorem dGt_i (i j : Int) : dGt (.int i) (.int j) = .ok (.bl (decide (j < i))) := rfl
theorem dGe_i (i j : Int) : dGe (.int i) (.int j) = .ok (.bl (decide (j ≤ i))) := rfl
theorem dAnd_i (i j : Int) : dAnd (.int i) (.int j) = .ok (.int (Builtin.bitAnd i j)) := rfl
theorem dOr_i (i j : Int) : dOr (.int i) (.int j) = .ok (.int (Builtin.bitOr i j)) := rfl
theorem dXor_i (i j : Int) : dXor (.int i) (.int j) = .ok (.int (Builtin.bitXor i j)) := rfl
theorem eqOk_int (i : Int) : eqOk (.int i) = true := rfl
theorem dEq_i (i j : Int) : dEq (.int i) (.int j) = .ok (.bl (decide (i = j))) := by
  unfold dEq
  rw [eqOk_int, eqOk_int]
  show R.ok (D.bl (i == j)) = _
  rw [Bool.beq_eq_decide_eq]
theorem dNe_i (i j : Int) : dNe (.int i) (.int j) = .ok (.bl (!decide (i = j))) := by
  unfold dNe
  rw [eqOk_int, eqOk_int]
  show R.ok (D.bl (!(i == j))) = _
  rw [Bool.beq_eq_decide_eq]
theorem dIsi_ii (i : Int) : dIsi "int" (.int i) = .ok (.bl true) := by
  have h : kitB "int" "int" = some true := by decide +kernel
  unfold dIsi tyName
  simp only [h]
theorem dIsi_bi (i : Int) : dIsi "bool" (.int i) = .ok (.bl false) := by
  have h : kitB "int" "bool" = some false := by decide +kernel
  unfold dIsi tyName
  simp only [h]
theorem dIsi_tt (ds : List D) : dIsi "tuple" (.tup ds) = .ok (.bl true) := by
  have h : kitB "tuple" "tuple" = some true := by decide +kernel
  unfold dIsi tyName
  simp only [h]
theorem dMax_ii (i j : Int) : dMax [.int i, .int j] = .ok (.int (max i j)) := rfl
theorem dMin_ii (i j : Int) : dMin [.int i, .int j] = .ok (.int (min i j)) := rfl
theorem dInts_all (ns : List Int) : (ns.map D.int).all nlB = true := by
  rw [List.all_eq_true]
  intro d hd
  obtain ⟨n, _, rfl⟩ := List.mem_map.mp hd
  rfl
theorem dTuple_f (ds : List D) : dTuple false [.lst ds] = .ok (.tup ds) := by
  show (if false = true → ds.all nlB = true then R.ok (D.tup ds) else R.bad) = _
  rw [if_pos (show false = true → ds.all nlB = true from fun h => by cases h)]
theorem dAdd_ints {ns ms : List Int} (h : ns.length + ms.length ≤ sizeLine) : dAdd (.lst (ns.map .int)) (.lst (ms.map .int)) = .ok (.lst ((ns ++ ms).map .int)) := by
  rw [List.map_append]
  exact if_pos ⟨dInts_all ns, dInts_all ms, by rw [List.length_map, List.length_map]; exact h⟩
theorem dLst_s {ds : List D} (h : ds.length ≤ sizeLine) : dLst ds = .ok (.lst ds) := if_pos h
theorem dTup_s {ds : List D} (h : ds.length ≤ sizeLine) : dTup ds = .ok (.tup ds) := if_pos h
theorem atI_map {α β : Type} (f : α → β) (xs : List α) (i : Int) : atI (xs.map f) i = (atI xs i).map f := by
  unfold atI
  rw [List.length_map]
  cases ixN xs.length i with
  | none => rfl
  | some j => show (xs.map f)[j]? = xs[j]?.map f; rw [List.getElem?_map]
theorem atI_in {α : Type} {xs : List α} {i : Int} (h : 0 ≤ i) (h' : i < xs.length) : atI xs i = some (xs[i.toNat]'(by omega)) := by
  unfold atI ixN
  rw [if_pos h, if_pos h']
  show xs[i.toNat]? = _
  rw [List.getElem?_eq_getElem]
/-- it goes on, and P holds then -/
def Stp (b : List D → R Fl) (ρ : List D) (P : List D → Prop) : Prop := ∃ ρ', b ρ = .ok (.nx ρ') ∧ P ρ'
theorem Stp.seq {a b : List D → R Fl} {ρ ρ1 : List D} {P : List D → Prop} (h : a ρ = .ok (.nx ρ1)) (h2 : Stp b ρ1 P) : Stp (gSeq a b) ρ P := by
  obtain ⟨ρ', e, p⟩ := h2
  refine ⟨ρ', ?_, p⟩
  unfold gSeq
  rw [h]
  exact e
theorem Stp.bind {a b : List D → R Fl} {ρ : List D} {P Q : List D → Prop} (h : Stp a ρ Q) (h2 : ∀ ρ1, Q ρ1 → Stp b ρ1 P) : Stp (gSeq a b) ρ P := by
  obtain ⟨ρ1, e, q⟩ := h
  exact Stp.seq e (h2 ρ1 q)
theorem Stp.done {a : List D → R Fl} {ρ ρ1 : List D} {P : List D → Prop} (h : a ρ = .ok (.nx ρ1)) (p : P ρ1) : Stp a ρ P := ⟨ρ1, h, p⟩
theorem gSeq_nx {a b : List D → R Fl} {ρ ρ' : List D} (h : a ρ = .ok (.nx ρ')) : gSeq a b ρ = b ρ' := by
  unfold gSeq
  rw [h]
  rfl
theorem gSeq_ex {a b : List D → R Fl} {ρ : List D} {r : R D} {P : List D → Prop} (h : Stp a ρ P) (h2 : ∀ ρ', P ρ' → (b ρ' >>= finF) = r) : (gSeq a b ρ >>= finF) = r := by
  obtain ⟨ρ', e, p⟩ := h
  rw [gSeq_nx e]
  exact h2 ρ' p
theorem mapL_map {α : Type} {ed : α → D} {f : D → R (Option D)} {h : α → D} : ∀ {xs : List α}, (∀ x ∈ xs, f (ed x) = .ok (some (h x))) → mapL f (xs.map ed) = .ok (xs.map h)
  | [], _ => rfl
  | x :: xs, hx => by
    show (f (ed x) >>= _) = _
    rw [hx x List.mem_cons_self]
    show (mapL f (xs.map ed) >>= _) = _
    rw [mapL_map fun y hy => hx y (List.mem_cons_of_mem _ hy)]
    rfl
theorem mapL_filter {α : Type} {ed : α → D} {f : D → R (Option D)} {h : α → Option D} : ∀ {xs : List α}, (∀ x ∈ xs, f (ed x) = .ok (h x)) → mapL f (xs.map ed) = .ok (xs.filterMap h)
  | [], _ => rfl
  | x :: xs, hx => by
    show (f (ed x) >>= _) = _
    rw [hx x List.mem_cons_self]
    show (mapL f (xs.map ed) >>= _) = _
    rw [mapL_filter fun y hy => hx y (List.mem_cons_of_mem _ hy)]
    show R.ok _ = _
    rw [List.filterMap_cons]
    cases h x <;> rfl
mutual
inductive OkD : Nat → D → Prop
  | non {k : Nat} : OkD k .non
  | bl {k : Nat} (b : Bool) : OkD k (.bl b)
  | int {k : Nat} (i : Int) : OkD k (.int i)
  | str {k : Nat} {x : Str} : PyData.strOk x = true → OkD k (.str x)
  | tup {k : Nat} {ds : List D} : OkDs k ds → OkD (k + 1) (.tup ds)
  | lst {k : Nat} {ds : List D} : OkDs k ds → OkD (k + 1) (.lst ds)
inductive OkDs : Nat → List D → Prop
  | nil {k : Nat} : OkDs k []
  | cons {k : Nat} {d : D} {ds : List D} : OkD k d → OkDs k ds → OkDs k (d :: ds)
end
theorem OkDs.of {k : Nat} : ∀ {ds : List D}, (∀ d ∈ ds, OkD k d) → OkDs k ds
  | [], _ => .nil
  | d :: ds, h => .cons (h d List.mem_cons_self) (OkDs.of fun e he => h e (List.mem_cons_of_mem _ he))
mutual
theorem OkD.p : ∀ {k : Nat} {d : D}, OkD k d → pln d = true ∧ PyData.canLay0 (toP d) = true ∧ (toP d).depth ≤ k
  | _, _, .non => ⟨rfl, rfl, Nat.zero_le _⟩
  | _, _, .bl b => ⟨rfl, rfl, Nat.zero_le _⟩
  | _, _, .int i => ⟨rfl, rfl, Nat.zero_le _⟩
  | _, _, .str h => ⟨rfl, h, Nat.zero_le _⟩
  | _, _, .tup h => by
    obtain ⟨h1, h2, h3⟩ := OkDs.p h
    exact ⟨h1, h2, Nat.succ_le_succ h3⟩
  | _, _, .lst h => by
    obtain ⟨h1, h2, h3⟩ := OkDs.p h
    exact ⟨h1, h2, Nat.succ_le_succ h3⟩
theorem OkDs.p : ∀ {k : Nat} {ds : List D}, OkDs k ds → plns ds = true ∧ PyData.canLayAll0 (toPs ds) = true ∧ PyData.depthAll (toPs ds) ≤ k
  | _, _, .nil => ⟨rfl, rfl, Nat.zero_le _⟩
  | _, _, .cons h hs => by
    obtain ⟨h1, h2, h3⟩ := OkD.p h
    obtain ⟨g1, g2, g3⟩ := OkDs.p hs
    exact ⟨Bool.and_eq_true_iff.mpr ⟨h1, g1⟩, Bool.and_eq_true_iff.mpr ⟨h2, g2⟩, Nat.max_le.mpr ⟨h3, g3⟩⟩
end
theorem OkD.eqOk {d : D} (h : OkD 64 d) : eqOk d = true := by
  obtain ⟨h1, h2, h3⟩ := h.p
  unfold DL.eqOk SeqAt.shaped
  rw [h1, h2, decide_eq_true h3]
  rfl
mutual
theorem OkD.mono : ∀ {k l : Nat} {d : D}, OkD k d → k ≤ l → OkD l d
  | _, _, _, .non, _ => .non
  | _, _, _, .bl b, _ => .bl b
  | _, _, _, .int i, _ => .int i
  | _, _, _, .str h, _ => .str h
  | _, l + 1, _, .tup h, e => .tup (OkDs.mono h (Nat.le_of_succ_le_succ e))
  | _, l + 1, _, .lst h, e => .lst (OkDs.mono h (Nat.le_of_succ_le_succ e))
theorem OkDs.mono : ∀ {k l : Nat} {ds : List D}, OkDs k ds → k ≤ l → OkDs l ds
  | _, _, _, .nil, _ => .nil
  | _, _, _, .cons h hs, e => .cons (OkD.mono h e) (OkDs.mono hs e)
end
mutual
theorem eqv_self : ∀ {d : PyData}, PyData.canLay0 d = true → PyData.eqv d d = true
  | .none, _ => rfl
  | .bool b, _ => by cases b <;> rfl
  | .int i, _ => by show (i == i) = true; simp
  | .str x, _ => by show (x == x) = true; simp
  | .list xs, h => eqv_selfs (ds := xs) h
  | .tuple xs, h => eqv_selfs (ds := xs) h
  | .dict _, h => nomatch h
theorem eqv_selfs : ∀ {ds : List PyData}, PyData.canLayAll0 ds = true → PyData.eqvAll ds ds = true
  | [], _ => rfl
  | d :: ds, h => by
    obtain ⟨h1, h2⟩ := Bool.and_eq_true_iff.mp (show (PyData.canLay0 d && PyData.canLayAll0 ds) = true from h)
    show (PyData.eqv d d && PyData.eqvAll ds ds) = true
    rw [eqv_self h1, eqv_selfs h2]
    rfl
end
theorem dEq_self {d : D} (h : OkD 64 d) : dEq d d = .ok (.bl true) := by
  unfold dEq
  rw [h.eqOk, eqv_self h.p.2.1]
  rfl
theorem dNe_self {d : D} (h : OkD 64 d) : dNe d d = .ok (.bl false) := by
  unfold dNe
  rw [h.eqOk, eqv_self h.p.2.1]
  rfl
theorem dRng1_s {j : Int} (h : 0 ≤ j) (h' : j ≤ 16777216) : dRng1 [.int j] = .ok (intsFrom 0 1 j.toNat) := by
  have e : sizeLine = 16777216 := sizeLine_eq
  exact if_pos ⟨by omega, by omega⟩
theorem forL_idx {P : Nat → List D → Prop} {step : D → List D → R Fl} : ∀ {ds : List D} {i : Nat}, (∀ (j : Nat) (d : D), ds[j]? = some d → ∀ ρ, P (i + j) ρ → ∃ ρ', step d ρ = .ok (.nx ρ') ∧ P (i + j + 1) ρ') → ∀ ρ, P i ρ → ∃ ρ', forL step ds ρ = .ok (.nx ρ') ∧ P (i + ds.length) ρ'
  | [], _, _, ρ, h => ⟨ρ, rfl, h⟩
  | d :: ds, i, hs, ρ, h => by
    obtain ⟨ρ1, e1, h1⟩ := hs 0 d rfl ρ h
    obtain ⟨ρ2, e2, h2⟩ := forL_idx (ds := ds) (i := i + 1) (fun j d hd ρ hp => by
      have e : i + 1 + j = i + (j + 1) := by omega
      rw [e] at hp ⊢
      exact hs (j + 1) d hd ρ hp) ρ1 h1
    refine ⟨ρ2, ?_, ?_⟩
    · show (step d ρ >>= _) = _
      rw [e1]
      exact e2
    · have e : i + (d :: ds).length = i + 1 + ds.length := by rw [List.length_cons]; omega
      rw [e]
      exact h2
theorem gFor_idx {P : Nat → List D → Prop} {src : List D → R (List D)} {gt : D → List D → Option (List D)} {body : List D → R Fl} {ρ : List D} {ds : List D} (hs : src ρ = .ok ds) (hp : P 0 ρ)
    (h : ∀ (i : Nat) (d : D), ds[i]? = some d → ∀ ρ, P i ρ → ∃ ρ1, gt d ρ = some ρ1 ∧ Stp body ρ1 (P (i + 1))) : Stp (gFor src gt body) ρ (P ds.length) := by
  unfold Stp gFor
  rw [hs]
  obtain ⟨ρ', e, p⟩ := forL_idx (P := P) (step := fun d ρ => oR (gt d ρ) >>= body) (ds := ds) (i := 0) (fun j d hd ρ hp => by
    rw [Nat.zero_add] at hp ⊢
    obtain ⟨ρ1, h1, ρ', h2, h3⟩ := h j d hd ρ hp
    refine ⟨ρ', ?_, h3⟩
    rw [h1]
    exact h2) ρ hp
  rw [Nat.zero_add] at p
  exact ⟨ρ', e, p⟩
theorem intsFrom_at {lo c : Int} {n i : Nat} {d : D} (h : (intsFrom lo c n)[i]? = some d) : d = .int (lo + i * c) ∧ i < n := by
  have hi : i < n := by
    have := (List.getElem?_eq_some_iff.mp h).1
    rw [intsFrom_len] at this
    exact this
  rw [intsFrom_get hi] at h
  exact ⟨(Option.some.inj h).symm, hi⟩
/-- for i in range(n): the index is counted from 0 -/
theorem gFor_rng {P : Nat → List D → Prop} {src : List D → R (List D)} {gt : D → List D → Option (List D)} {body : List D → R Fl} {ρ : List D} {lo c : Int} {n : Nat} (hs : src ρ = .ok (intsFrom lo c n)) (hp : P 0 ρ)
    (h : ∀ (i : Nat), i < n → ∀ ρ, P i ρ → ∃ ρ1, gt (.int (lo + i * c)) ρ = some ρ1 ∧ Stp body ρ1 (P (i + 1))) : Stp (gFor src gt body) ρ (P n) := by
  have := gFor_idx (P := P) hs hp fun i d hd ρ hp => by
    obtain ⟨e, hi⟩ := intsFrom_at hd
    subst e
    exact h i hi ρ hp
  rw [intsFrom_len] at this
  exact this
theorem Stp.mono {b : List D → R Fl} {ρ : List D} {P Q : List D → Prop} (h : Stp b ρ P) (i : ∀ ρ', P ρ' → Q ρ') : Stp b ρ Q := by
  obtain ⟨ρ', e, p⟩ := h
  exact ⟨ρ', e, i ρ' p⟩
theorem Stp.ite {c : List D → R Bool} {a b : List D → R Fl} {ρ : List D} {P : List D → Prop} {k : Bool} (h : c ρ = .ok k) (h1 : k = true → Stp a ρ P) (h2 : k = false → Stp b ρ P) : Stp (gIte c a b) ρ P := by
  unfold Stp gIte
  rw [h]
  cases k with
  | true => exact h1 rfl
  | false => exact h2 rfl
theorem Stp.nx {ρ : List D} {P : List D → Prop} (p : P ρ) : Stp gNx ρ P := ⟨ρ, rfl, p⟩
theorem sIx_s {n d : Nat} {k : Int} (h : 0 ≤ k) : HT.sIx n d (some k) = min k.toNat n := by
  show (if k < 0 then _ else _) = _
  rw [if_neg (by omega)]
theorem cutD_to {α : Type} (xs : List α) {k : Int} (h : 0 ≤ k) : cutD xs none (some k) = xs.take k.toNat := by
  unfold cutD
  rw [sIx_s h, show HT.sIx xs.length 0 none = 0 from rfl, List.drop_zero, Nat.sub_zero, ← List.take_take, List.take_length]
theorem cutD_from {α : Type} (xs : List α) {k : Int} (h : 0 ≤ k) : cutD xs (some k) none = xs.drop k.toNat := by
  unfold cutD
  rw [sIx_s h, show HT.sIx xs.length xs.length none = xs.length from rfl]
  by_cases c : k.toNat ≤ xs.length
  · rw [Nat.min_eq_left c]
    exact List.take_of_length_le (by rw [List.length_drop]; omega)
  · rw [Nat.min_eq_right (by omega), Nat.sub_self, List.take_zero, List.drop_of_length_le (by omega)]
theorem cutD_at {α : Type} (xs : List α) {i j : Int} (h : 0 ≤ i) (h' : i ≤ j) : cutD xs (some i) (some j) = (xs.drop i.toNat).take (j.toNat - i.toNat) := by
  unfold cutD
  rw [sIx_s h, sIx_s (show 0 ≤ j by omega)]
  by_cases c : i.toNat ≤ xs.length
  · rw [Nat.min_eq_left c]
    by_cases c2 : j.toNat ≤ xs.length
    · rw [Nat.min_eq_left c2]
    · rw [Nat.min_eq_right (by omega), List.take_of_length_le (by rw [List.length_drop]; omega), List.take_of_length_le (by rw [List.length_drop]; omega)]
  · rw [Nat.min_eq_right (show xs.length ≤ i.toNat by omega), List.drop_of_length_le (Nat.le_refl _), List.drop_of_length_le (by omega), List.take_nil, List.take_nil]
theorem cutD_map {α β : Type} (f : α → β) (xs : List α) (lo hi : Option Int) : cutD (xs.map f) lo hi = (cutD xs lo hi).map f := by
  unfold cutD
  rw [List.length_map, ← List.map_drop, ← List.map_take]
theorem dSl_l {ds : List D} {lo hi : Option Int} : dSl false (.lst ds) lo hi = .ok (.lst (cutD ds lo hi)) := by
  show (if false = true → ds.all nlB = true then R.ok (D.lst (cutD ds lo hi)) else R.bad) = _
  rw [if_pos (show false = true → ds.all nlB = true from fun h => by cases h)]
theorem dRng3_s {i j c : Int} (h1 : 0 ≤ i) (h2 : i ≤ 16777216) (h3 : 0 ≤ j) (h4 : j ≤ 16777216) (h5 : 0 < c) (h6 : c ≤ 1000000) : dRng3 [.int i, .int j, .int c] = .ok (intsFrom i c (if i < j then ((j - i - 1) / c + 1).toNat else 0)) := by
  have e : sizeLine = 16777216 := sizeLine_eq
  have hd : 0 ≤ (j - i - 1) / c ∨ ¬ i < j := by
    by_cases q : i < j
    · exact .inl (Int.ediv_nonneg (by omega) (by omega))
    · exact .inr q
  have hd2 : i < j → (j - i - 1) / c ≤ j - i - 1 := fun q => Int.ediv_le_self _ (by omega)
  have hr : Builtin.Range.rangeSize i j c = if i < j then (j - i - 1) / c + 1 else 0 := by
    unfold Builtin.Range.rangeSize
    rw [if_pos (by omega)]
  have hz : (Builtin.Range.rangeSize i j c).toNat = if i < j then ((j - i - 1) / c + 1).toNat else 0 := by
    rw [hr]
    split <;> rfl
  show (if RgC i j c (Builtin.Range.rangeSize i j c).toNat ∧ (Builtin.Range.rangeSize i j c).toNat ≤ sizeLine then R.ok (intsFrom i c (Builtin.Range.rangeSize i j c).toNat) else .bad) = _
  rw [if_pos, hz]
  refine ⟨⟨by omega, by omega, ?_, ?_⟩, ?_⟩
  · unfold Builtin.Range.small
    rw [hr]
    have hb : (if i < j then (j - i - 1) / c + 1 else 0) ≤ 16777216 ∧ 0 ≤ (if i < j then (j - i - 1) / c + 1 else 0) := by split <;> omega
    generalize (if i < j then (j - i - 1) / c + 1 else 0) = z at hb
    simp only [Builtin.Range.rangeFitsLong, Bool.and_eq_true, Bool.or_eq_true, decide_eq_true_eq, beq_iff_eq, gt_iff_lt, h5, if_true]
    refine ⟨⟨⟨⟨?_, ?_⟩, ?_, ?_⟩, ?_, ?_⟩, ?_⟩ <;> omega
  · rw [hr]
    split <;> omega
  · rw [hz]
    split
    · have := hd2 (by assumption); omega
    · omega
theorem mapL_ex {α β : Type} {ed : α → D} {f : D → R (Option D)} {e : β → D} {Q : β → Prop} : ∀ {xs : List α}, (∀ x ∈ xs, ∃ y, Q y ∧ f (ed x) = .ok (some (e y))) → ∃ ys : List β, ys.length = xs.length ∧ (∀ y ∈ ys, Q y) ∧ mapL f (xs.map ed) = .ok (ys.map e)
  | [], _ => ⟨[], rfl, (fun _ h => nomatch h), rfl⟩
  | x :: xs, h => by
    obtain ⟨y, hy, e1⟩ := h x List.mem_cons_self
    obtain ⟨ys, h1, h2, h3⟩ := mapL_ex (xs := xs) fun z hz => h z (List.mem_cons_of_mem _ hz)
    refine ⟨y :: ys, by rw [List.length_cons, List.length_cons, h1], fun z hz => ?_, ?_⟩
    · rcases List.mem_cons.mp hz with q | q
      · rw [q]; exact hy
      · exact h2 z q
    · show (f (ed x) >>= _) = _
      rw [e1]
      show (mapL f (xs.map ed) >>= _) = _
      rw [h3]
      rfl
theorem dAugAdd_i (i j : Int) : dAugAdd (.int i) (.int j) = .ok (.int (i + j)) := rfl
theorem dAugSub_i (i j : Int) : dAugSub (.int i) (.int j) = .ok (.int (i - j)) := rfl
theorem dAugBitXor_i (i j : Int) : dAugBitXor (.int i) (.int j) = .ok (.int (Builtin.bitXor i j)) := rfl
theorem ix_int {xs : List Int} {i : Int} (h : 0 ≤ i) (h' : i < xs.length) : dIx (.lst (xs.map .int)) (.int i) = .ok (.int (xs.getD i.toNat 0)) := by
  show oR (atI (xs.map D.int) i) = _
  rw [atI_map, atI_in h h']
  show R.ok (D.int _) = _
  rw [List.getD_eq_getElem?_getD, List.getElem?_eq_getElem]
  rfl
theorem dTuple_tups {α : Type} {nl : Bool} (f : α → List D) (xs : List α) : dTuple nl [.lst (xs.map fun x => .tup (f x))] = .ok (.tup (xs.map fun x => .tup (f x))) := if_pos fun _ => by
  rw [List.all_eq_true]
  intro d hd
  obtain ⟨n, _, rfl⟩ := List.mem_map.mp hd
  rfl
end DL
namespace DL
open PySem L2
theorem dNe_p (i j : Int) : dNe (.int i) (.int j) = .ok (.bl (decide (i ≠ j))) := by rw [dNe_i, decide_not]
theorem rng1N {n : Nat} (h : n ≤ 16777216) : dRng1 [.int n] = .ok (intsFrom 0 1 n) := by rw [dRng1_s (by omega) (by omega), Int.toNat_natCast]
theorem dLst_0 : dLst [] = .ok (.lst []) := dLst_s (Nat.zero_le _)
theorem dTup_0 : dTup [] = .ok (.tup []) := dTup_s (Nat.zero_le _)
theorem dLst_1 (a0 : D) : dLst [a0] = .ok (.lst [a0]) := dLst_s (show 1 ≤ sizeLine by decide)
theorem dTup_1 (a0 : D) : dTup [a0] = .ok (.tup [a0]) := dTup_s (show 1 ≤ sizeLine by decide)
theorem dLst_2 (a0 a1 : D) : dLst [a0, a1] = .ok (.lst [a0, a1]) := dLst_s (show 2 ≤ sizeLine by decide)
theorem dTup_2 (a0 a1 : D) : dTup [a0, a1] = .ok (.tup [a0, a1]) := dTup_s (show 2 ≤ sizeLine by decide)
theorem dLst_3 (a0 a1 a2 : D) : dLst [a0, a1, a2] = .ok (.lst [a0, a1, a2]) := dLst_s (show 3 ≤ sizeLine by decide)
theorem dTup_3 (a0 a1 a2 : D) : dTup [a0, a1, a2] = .ok (.tup [a0, a1, a2]) := dTup_s (show 3 ≤ sizeLine by decide)
theorem dLst_4 (a0 a1 a2 a3 : D) : dLst [a0, a1, a2, a3] = .ok (.lst [a0, a1, a2, a3]) := dLst_s (show 4 ≤ sizeLine by decide)
theorem dTup_4 (a0 a1 a2 a3 : D) : dTup [a0, a1, a2, a3] = .ok (.tup [a0, a1, a2, a3]) := dTup_s (show 4 ≤ sizeLine by decide)
theorem dLst_5 (a0 a1 a2 a3 a4 : D) : dLst [a0, a1, a2, a3, a4] = .ok (.lst [a0, a1, a2, a3, a4]) := dLst_s (show 5 ≤ sizeLine by decide)
theorem dTup_5 (a0 a1 a2 a3 a4 : D) : dTup [a0, a1, a2, a3, a4] = .ok (.tup [a0, a1, a2, a3, a4]) := dTup_s (show 5 ≤ sizeLine by decide)
theorem dLst_6 (a0 a1 a2 a3 a4 a5 : D) : dLst [a0, a1, a2, a3, a4, a5] = .ok (.lst [a0, a1, a2, a3, a4, a5]) := dLst_s (show 6 ≤ sizeLine by decide)
theorem dTup_6 (a0 a1 a2 a3 a4 a5 : D) : dTup [a0, a1, a2, a3, a4, a5] = .ok (.tup [a0, a1, a2, a3, a4, a5]) := dTup_s (show 6 ≤ sizeLine by decide)
theorem dLst_7 (a0 a1 a2 a3 a4 a5 a6 : D) : dLst [a0, a1, a2, a3, a4, a5, a6] = .ok (.lst [a0, a1, a2, a3, a4, a5, a6]) := dLst_s (show 7 ≤ sizeLine by decide)
theorem dTup_7 (a0 a1 a2 a3 a4 a5 a6 : D) : dTup [a0, a1, a2, a3, a4, a5, a6] = .ok (.tup [a0, a1, a2, a3, a4, a5, a6]) := dTup_s (show 7 ≤ sizeLine by decide)
theorem dLst_8 (a0 a1 a2 a3 a4 a5 a6 a7 : D) : dLst [a0, a1, a2, a3, a4, a5, a6, a7] = .ok (.lst [a0, a1, a2, a3, a4, a5, a6, a7]) := dLst_s (show 8 ≤ sizeLine by decide)
theorem dTup_8 (a0 a1 a2 a3 a4 a5 a6 a7 : D) : dTup [a0, a1, a2, a3, a4, a5, a6, a7] = .ok (.tup [a0, a1, a2, a3, a4, a5, a6, a7]) := dTup_s (show 8 ≤ sizeLine by decide)
theorem dLst_9 (a0 a1 a2 a3 a4 a5 a6 a7 a8 : D) : dLst [a0, a1, a2, a3, a4, a5, a6, a7, a8] = .ok (.lst [a0, a1, a2, a3, a4, a5, a6, a7, a8]) := dLst_s (show 9 ≤ sizeLine by decide)
theorem dTup_9 (a0 a1 a2 a3 a4 a5 a6 a7 a8 : D) : dTup [a0, a1, a2, a3, a4, a5, a6, a7, a8] = .ok (.tup [a0, a1, a2, a3, a4, a5, a6, a7, a8]) := dTup_s (show 9 ≤ sizeLine by decide)
/-- it gives a value, and P of it -/
def Ok (r : R D) (P : D → Prop) : Prop := RP r P fun _ => False
theorem Ok.ex {r : R D} {P : D → Prop} (h : Ok r P) : ∃ d, r = .ok d ∧ P d := by
  cases r with
  | ok d => exact ⟨d, rfl, h⟩
  | exc _ => exact h.elim
  | bad => exact h.elim
theorem Ok.of {r : R D} {P : D → Prop} {d : D} (h : r = .ok d) (p : P d) : Ok r P := by subst h; exact p
theorem Ok.eq {r : R D} {d : D} (h : Ok r fun x => x = d) : r = .ok d := by
  obtain ⟨x, e, rfl⟩ := h.ex
  exact e
theorem Ok.mono {r : R D} {P Q : D → Prop} (h : Ok r P) (i : ∀ d, P d → Q d) : Ok r Q := RP.imp h i fun _ z => z
structure Kt where
  nx : List D → Prop
  rt : D → Prop
  bk : List D → Prop
  ct : List D → Prop
  ex : Ex → Prop
@[irreducible] def W (a : List D → R Fl) (ρ : List D) (k : Kt) : Prop :=
  match a ρ with
  | .ok (.nx ρ') => k.nx ρ'
  | .ok (.rt d) => k.rt d
  | .ok (.bk ρ') => k.bk ρ'
  | .ok (.ct ρ') => k.ct ρ'
  | .exc x => k.ex x
  | .bad => False
/-- a def's body -/
def kF (P : D → Prop) (X : Ex → Prop) : Kt := ⟨fun _ => P .non, P, fun _ => False, fun _ => False, X⟩
abbrev kO (P : D → Prop) : Kt := kF P fun _ => False
/-- a loop's body -/
def kL (k : Kt) (I : List D → Prop) : Kt := ⟨I, k.rt, k.nx, I, k.ex⟩
section
variable {a b A B body : List D → R Fl} {c : List D → R Bool} {ρ ρ' : List D} {k : Kt} {d : D} {X g : List D → R D} {src : List D → R (List D)} {gt : D → List D → Option (List D)}
theorem W.nx1 (h : a ρ = .ok (.nx ρ')) (h2 : k.nx ρ') : W a ρ k := by unfold W at *; rw [h]; exact h2
theorem W.step (h : a ρ = .ok (.nx ρ')) (h2 : W b ρ' k) : W (gSeq a b) ρ k := by unfold W at *; unfold gSeq; rw [h]; exact h2
theorem W.seq (h : W a ρ ⟨fun ρ' => W b ρ' k, k.rt, k.bk, k.ct, k.ex⟩) : W (gSeq a b) ρ k := by
  unfold W gSeq at *
  cases e : a ρ with
  | ok fl =>
    rw [e] at h
    cases fl with
    | nx ρ' => exact h
    | rt d => exact h
    | bk d => exact h
    | ct d => exact h
  | exc x => rw [e] at h; exact h
  | bad => rw [e] at h; exact h
theorem W.mono {k' : Kt} (h : W a ρ k) (h1 : ∀ ρ, k.nx ρ → k'.nx ρ) (h2 : ∀ d, k.rt d → k'.rt d) (h3 : ∀ ρ, k.bk ρ → k'.bk ρ) (h4 : ∀ ρ, k.ct ρ → k'.ct ρ) (h5 : ∀ x, k.ex x → k'.ex x) : W a ρ k' := by
  unfold W at *
  cases e : a ρ with
  | ok fl =>
    rw [e] at h
    cases fl with
    | nx ρ' => exact h1 _ h
    | rt d => exact h2 _ h
    | bk d => exact h3 _ h
    | ct d => exact h4 _ h
  | exc x => rw [e] at h; exact h5 _ h
  | bad => rw [e] at h; exact h
/-- a part that goes on, with what is known then -/
theorem W.bind {Q : List D → Prop} (h : Stp a ρ Q) (h2 : ∀ ρ', Q ρ' → W b ρ' k) : W (gSeq a b) ρ k := by
  obtain ⟨ρ', e, q⟩ := h
  exact W.step e (h2 ρ' q)
theorem W.rt1 (h : X ρ = .ok d) (h2 : k.rt d) : W (gRet X) ρ k := by unfold W gRet; rw [h]; exact h2
theorem W.rtS (h : X ρ = .ok d) (h2 : k.rt d) : W (gSeq (gRet X) b) ρ k := W.seq (W.rt1 h h2)
theorem W.nx (h : k.nx ρ) : W gNx ρ k := by unfold W; exact h
theorem W.nxS (h : W b ρ k) : W (gSeq gNx b) ρ k := W.seq (W.nx h)
theorem W.assoc {b' : List D → R Fl} (h : W (gSeq a (gSeq b b')) ρ k) : W (gSeq (gSeq a b) b') ρ k := by
  unfold W gSeq at *
  cases e : a ρ with
  | ok fl =>
    rw [e] at h
    cases fl with
    | nx ρ' => exact h
    | rt d => exact h
    | bk d => exact h
    | ct d => exact h
  | exc x => rw [e] at h; exact h
  | bad => rw [e] at h; exact h
theorem W.ite {p : Prop} [Decidable p] (h : c ρ = .ok (decide p)) (h1 : p → W A ρ k) (h2 : ¬ p → W B ρ k) : W (gIte c A B) ρ k := by
  unfold W at *
  unfold gIte
  rw [h]
  by_cases q : p
  · rw [decide_eq_true q]; exact h1 q
  · rw [decide_eq_false q]; exact h2 q
theorem gIteS_eq {p : Bool} (h : c ρ = .ok p) : gSeq (gIte c A B) b ρ = if p = true then gSeq A b ρ else gSeq B b ρ := by
  unfold gSeq gIte
  rw [h]
  cases p <;> rfl
theorem W.iteS {p : Prop} [Decidable p] (h : c ρ = .ok (decide p)) (h1 : p → W (gSeq A b) ρ k) (h2 : ¬ p → W (gSeq B b) ρ k) : W (gSeq (gIte c A B) b) ρ k := by
  unfold W at *
  rw [gIteS_eq h]
  by_cases q : p
  · rw [decide_eq_true q, if_pos rfl]; exact h1 q
  · rw [decide_eq_false q, if_neg Bool.false_ne_true]; exact h2 q
theorem W.iteT (h : c ρ = .ok true) (h1 : W A ρ k) : W (gIte c A B) ρ k := by unfold W at *; unfold gIte; rw [h]; exact h1
theorem W.iteF (h : c ρ = .ok false) (h1 : W B ρ k) : W (gIte c A B) ρ k := by unfold W at *; unfold gIte; rw [h]; exact h1
theorem W.iteST (h : c ρ = .ok true) (h1 : W (gSeq A b) ρ k) : W (gSeq (gIte c A B) b) ρ k := by unfold W at *; rw [gIteS_eq h, if_pos rfl]; exact h1
theorem W.iteSF (h : c ρ = .ok false) (h1 : W (gSeq B b) ρ k) : W (gSeq (gIte c A B) b) ρ k := by unfold W at *; rw [gIteS_eq h, if_neg Bool.false_ne_true]; exact h1
theorem W.ctS (h : k.ct ρ) : W (gSeq (fun ρ => .ok (.ct ρ)) b) ρ k := by unfold W; exact h
theorem forL_w {step : D → List D → R Fl} : ∀ {ds : List D} {i : Nat} (I : Nat → List D → Prop), (∀ (j : Nat) (d : D), ds[j]? = some d → ∀ ρ, I (i + j) ρ → W (step d) ρ (kL k (I (i + j + 1)))) → (∀ ρ, I (i + ds.length) ρ → k.nx ρ) → ∀ ρ, I i ρ → W (forL step ds) ρ k
  | [], _, I, _, h2, ρ, h => by unfold W; exact h2 ρ h
  | d :: ds, i, I, hs, h2, ρ, h => by
    have h1 := hs 0 d rfl ρ h
    have ih := forL_w (step := step) (ds := ds) (i := i + 1) I (fun j d hd ρ hp => by
      have e : i + 1 + j = i + (j + 1) := by omega
      rw [e] at hp ⊢
      exact hs (j + 1) d hd ρ hp) (fun ρ hp => h2 ρ (by
      have e : i + (d :: ds).length = i + 1 + ds.length := by rw [List.length_cons]; omega
      rw [e]
      exact hp))
    unfold W at h1
    unfold W
    show match (step d ρ >>= fun
      | .nx ρ' => forL step ds ρ'
      | .ct ρ' => forL step ds ρ'
      | .bk ρ' => .ok (.nx ρ')
      | .rt d => .ok (.rt d) : R Fl) with
      | .ok (.nx ρ') => k.nx ρ'
      | .ok (.rt d) => k.rt d
      | .ok (.bk ρ') => k.bk ρ'
      | .ok (.ct ρ') => k.ct ρ'
      | .exc x => k.ex x
      | .bad => False
    cases e : step d ρ with
    | ok fl =>
      rw [e] at h1
      cases fl with
      | nx ρ' => have q := ih ρ' h1; unfold W at q; exact q
      | rt d => exact h1
      | bk d => exact h1
      | ct ρ' => have q := ih ρ' h1; unfold W at q; exact q
    | exc x => rw [e] at h1; exact h1
    | bad => rw [e] at h1; exact h1
theorem W.for1 {ds : List D} (I : Nat → List D → Prop) (hs : src ρ = .ok ds) (h0 : I 0 ρ)
    (h : ∀ (i : Nat) (d : D), ds[i]? = some d → ∀ ρ, I i ρ → ∃ ρ1, gt d ρ = some ρ1 ∧ W body ρ1 (kL k (I (i + 1)))) (h2 : ∀ ρ, I ds.length ρ → k.nx ρ) : W (gFor src gt body) ρ k := by
  have := forL_w (k := k) (step := fun d ρ => oR (gt d ρ) >>= body) (ds := ds) (i := 0) I (fun j d hd ρ hp => by
    rw [Nat.zero_add] at hp ⊢
    obtain ⟨ρ1, e, w⟩ := h j d hd ρ hp
    unfold W
    show match (oR (gt d ρ) >>= body) with
      | .ok (.nx ρ') => _
      | .ok (.rt d) => _
      | .ok (.bk ρ') => _
      | .ok (.ct ρ') => _
      | .exc x => _
      | .bad => False
    rw [e]
    unfold W at w
    exact w) (by rw [Nat.zero_add]; exact h2) ρ h0
  unfold W at this
  unfold W gFor
  rw [hs]
  exact this
theorem W.for {ds : List D} (I : Nat → List D → Prop) (hs : src ρ = .ok ds) (h0 : I 0 ρ)
    (h : ∀ (i : Nat) (d : D), ds[i]? = some d → ∀ ρ, I i ρ → ∃ ρ1, gt d ρ = some ρ1 ∧ W body ρ1 (kL ⟨fun ρ' => W b ρ' k, k.rt, k.bk, k.ct, k.ex⟩ (I (i + 1)))) (h2 : ∀ ρ, I ds.length ρ → W b ρ k) : W (gSeq (gFor src gt body) b) ρ k :=
  W.seq (W.for1 I hs h0 h h2)
/-- over what a list of any kind stands for -/
theorem W.forM {α : Type} {ed : α → D} {xs : List α} (I : Nat → List D → Prop) (hs : src ρ = .ok (xs.map ed)) (h0 : I 0 ρ)
    (h : ∀ (i : Nat) (x : α), xs[i]? = some x → ∀ ρ, I i ρ → ∃ ρ1, gt (ed x) ρ = some ρ1 ∧ W body ρ1 (kL ⟨fun ρ' => W b ρ' k, k.rt, k.bk, k.ct, k.ex⟩ (I (i + 1)))) (h2 : ∀ ρ, I xs.length ρ → W b ρ k) : W (gSeq (gFor src gt body) b) ρ k :=
  W.for I hs h0 (fun i d hd ρ hp => by
    rw [List.getElem?_map] at hd
    cases q : xs[i]? with
    | none => rw [q] at hd; cases hd
    | some x => rw [q] at hd; cases hd; exact h i x q ρ hp) (by rw [List.length_map]; exact h2)
theorem W.forM1 {α : Type} {ed : α → D} {xs : List α} (I : Nat → List D → Prop) (hs : src ρ = .ok (xs.map ed)) (h0 : I 0 ρ)
    (h : ∀ (i : Nat) (x : α), xs[i]? = some x → ∀ ρ, I i ρ → ∃ ρ1, gt (ed x) ρ = some ρ1 ∧ W body ρ1 (kL k (I (i + 1)))) (h2 : ∀ ρ, I xs.length ρ → k.nx ρ) : W (gFor src gt body) ρ k :=
  W.for1 I hs h0 (fun i d hd ρ hp => by
    rw [List.getElem?_map] at hd
    cases q : xs[i]? with
    | none => rw [q] at hd; cases hd
    | some x => rw [q] at hd; cases hd; exact h i x q ρ hp) (by rw [List.length_map]; exact h2)
theorem W.forR {lo cc : Int} {n : Nat} (I : Nat → List D → Prop) (hs : src ρ = .ok (DL.intsFrom lo cc n)) (h0 : I 0 ρ)
    (h : ∀ (i : Nat), i < n → ∀ ρ, I i ρ → ∃ ρ1, gt (.int (lo + i * cc)) ρ = some ρ1 ∧ W body ρ1 (kL ⟨fun ρ' => W b ρ' k, k.rt, k.bk, k.ct, k.ex⟩ (I (i + 1)))) (h2 : ∀ ρ, I n ρ → W b ρ k) : W (gSeq (gFor src gt body) b) ρ k :=
  W.for I hs h0 (fun i d hd ρ hp => by
    obtain ⟨e, hi⟩ := intsFrom_at hd
    subst e
    exact h i hi ρ hp) (by rw [intsFrom_len]; exact h2)
/-- a def's run -/
theorem W.fnX {P : D → Prop} {Xx : Ex → Prop} (h : W g' ρ (kF P Xx)) : RP (g' ρ >>= finF) P Xx := by
  unfold W at h
  cases e : g' ρ with
  | ok fl =>
    rw [e] at h
    cases fl with
    | nx ρ' => exact h
    | rt d => exact h
    | bk d => exact h.elim
    | ct d => exact h.elim
  | exc x => rw [e] at h; exact h
  | bad => rw [e] at h; exact h
theorem W.fn {P : D → Prop} (h : W a ρ (kO P)) : Ok (a ρ >>= finF) P := W.fnX h
end
section
variable {ρ : List D} {src : List D → R (List D)} {gt : D → List D → Option (List D)} {ge : List D → R D} {tt : List D → R Bool}
theorem gLc_map {α : Type} {ed : α → D} {h : α → D} {xs : List α} (hs : src ρ = .ok (xs.map ed)) (hx : ∀ x ∈ xs, ∃ ρ', gt (ed x) ρ = some ρ' ∧ ge ρ' = .ok (h x)) : gLc src gt gtt ge ρ = .ok (.lst (xs.map h)) := by
  unfold gLc
  rw [hs]
  show (mapL _ _ >>= fun ys => R.ok (D.lst ys)) = _
  rw [mapL_map (h := h) (fun x hm => by
    obtain ⟨ρ', h1, h2⟩ := hx x hm
    rw [h1]
    show noX (ge ρ' >>= fun y => R.ok (some y)) = _
    rw [h2]
    rfl)]
  rfl
theorem gLc_rng {lo c : Int} {n : Nat} {h : Nat → D} (hs : src ρ = .ok (DL.intsFrom lo c n)) (hx : ∀ i, i < n → ∃ ρ', gt (.int (lo + i * c)) ρ = some ρ' ∧ ge ρ' = .ok (h i)) : gLc src gt gtt ge ρ = .ok (.lst ((List.range n).map h)) :=
  gLc_map (ed := fun (i : Nat) => D.int (lo + i * c)) hs fun i hi => hx i (List.mem_range.mp hi)
theorem filt_map {α : Type} {h : α → D} {p : α → Bool} : ∀ (xs : List α), (xs.filterMap fun x => if p x = true then some (h x) else none) = (xs.filter p).map h
  | [] => rfl
  | x :: xs => by
    rw [List.filterMap_cons, List.filter_cons]
    cases p x with
    | true => rw [if_pos rfl, if_pos rfl, List.map_cons, ← filt_map xs]
    | false => rw [if_neg Bool.false_ne_true, if_neg Bool.false_ne_true, ← filt_map xs]
theorem gLc_filt {α : Type} {ed : α → D} {h : α → D} {p : α → Bool} {xs : List α} (hs : src ρ = .ok (xs.map ed)) (hx : ∀ x ∈ xs, ∃ ρ', gt (ed x) ρ = some ρ' ∧ tt ρ' = .ok (p x) ∧ (p x = true → ge ρ' = .ok (h x))) : gLc src gt tt ge ρ = .ok (.lst ((xs.filter p).map h)) := by
  unfold gLc
  rw [hs]
  show (mapL _ _ >>= fun ys => R.ok (D.lst ys)) = _
  rw [mapL_filter (h := fun x => if p x = true then some (h x) else none) (fun x hm => by
    obtain ⟨ρ', h1, h2, h3⟩ := hx x hm
    rw [h1]
    show noX (tt ρ' >>= fun b => if b = true then ge ρ' >>= fun y => R.ok (some y) else R.ok none) = _
    rw [h2]
    cases q : p x with
    | true =>
      show noX (ge ρ' >>= fun y => R.ok (some y)) = _
      rw [h3 q]
      rfl
    | false => rfl)]
  show R.ok (D.lst (xs.filterMap _)) = _
  rw [filt_map]
theorem gAll1 {f : List D → R D} {g : List D → R D} {ρ : List D} {d : D} (h : g ρ = .ok d) : gAll f (gsC g gsN) ρ = f [d] := by
  show ((g ρ >>= fun d => gsN ρ >>= fun ds => R.ok (d :: ds)) >>= f) = _
  rw [h]
  rfl
theorem gAll2 {f : List D → R D} {g g' : List D → R D} {ρ : List D} {a b : D} (h : g ρ = .ok a) (h' : g' ρ = .ok b) : gAll f (gsC g (gsC g' gsN)) ρ = f [a, b] := by
  show ((g ρ >>= fun d => (g' ρ >>= fun d => gsN ρ >>= fun ds => R.ok (d :: ds)) >>= fun ds => R.ok (d :: ds)) >>= f) = _
  rw [h, h']
  rfl
theorem gApp_s {i : Nat} {g : List D → R D} {ρ ds : List D} {d : D} (h1 : ρ.getD i .non = .lst ds) (h2 : g ρ = .ok d) (h3 : ds.length < sizeLine) : gApp i g ρ = .ok (.nx (ρ.set i (.lst (ds ++ [d])))) := by
  unfold gApp
  rw [h1]
  show (g ρ >>= _) = _
  rw [h2]
  exact if_pos h3
theorem ixT_get {ds : List D} {i : Nat} {d : D} (h : ds[i]? = some d) : dIx (.tup ds) (.int (i : Int)) = .ok d := by
  have hl := (List.getElem?_eq_some_iff.mp h).1
  show oR (atI ds i) = _
  rw [atI_in (by omega) (by omega)]
  rw [List.getElem?_eq_getElem hl] at h
  cases h
  rfl
theorem ixL_get {ds : List D} {i : Nat} {d : D} (h : ds[i]? = some d) : dIx (.lst ds) (.int (i : Int)) = .ok d := ixT_get h
theorem dAdd_lst {xs ys : List D} (h1 : xs.all nlB = true) (h2 : ys.all nlB = true) (h : xs.length + ys.length ≤ 1000000) : dAdd (.lst xs) (.lst ys) = .ok (.lst (xs ++ ys)) := if_pos ⟨h1, h2, by rw [sizeLine_eq]; omega⟩
end
end DL
namespace LW
open PySem L2 DL
local macro_rules
  | `(tactic| simp_arith only [$xs,*]) => `(tactic| simp -implicitDefEqProofs only [finF, gSeq, gSet, gDrop, gRet, gIte, gNx, gIf, gB, gAnd, gOr, gNot, toBl, toB, g1, g2, gv, gc, gAll, gsC, gsN, gIter, dIter, gI, gJ, gFor, gUnp, gAug, gtN, gtT, gtU, gtsC, gtsN, nlD, nlB, goN, goS, toI, gSl, gtt, bind_ok, bind_bad, bind_exc, pure_ok, oR_some, oR_none, noX_ok, noX_bad, Option.bind_some, List.getD_cons_zero, List.getD_cons_succ, List.getD_nil, List.set_cons_zero, List.set_cons_succ, List.length_cons, List.length_nil, Nat.reduceAdd, dAdd_i, dSub_i, dNeg_i, dLt_i, dLe_i, dGt_i, dGe_i, dAnd_i, dOr_i, dXor_i, dEq_i, dNe_p, dMax_ii, dMin_ii, dAugAdd_i, dAugSub_i, dAugBitXor_i, dIsi_ii, dIsi_bi, dIsi_tt, if_true, ite_true, ite_false, Bool.false_eq_true, if_false, Bool.not_true, Bool.not_false, reduceIte, dMod_s, dDiv_s, Int.reduceLT, Int.reduceLE, Int.reduceNeg, Int.reducePow, Nat.reducePow, Nat.reduceLT, Int.reduceToNat, decide_eq_true_eq, Bool.true_eq_false, dLst_0, dTup_0, dLst_1, dTup_1, dLst_2, dTup_2, dLst_3, dTup_3, dLst_4, dTup_4, dLst_5, dTup_5, dLst_6, dTup_6, dLst_7, dTup_7, dLst_8, dTup_8, dLst_9, dTup_9, decide_true, decide_false, dIsi2_t, dIsi2_l, dIsi2_i, dIsi2_n, dIsi2_s, dIsi_tl, dIsi_ti, dIsi_tn, dIsi_ts, dIsi_si, dIsi_sn, dIsi_ss, dIsi_in, dIsi_it, dIsi_il, dIsi_is, dIsi_ib, dIsi_bb, $xs,*])
local macro_rules
  | `(tactic| simp_arith only []) => `(tactic| simp -implicitDefEqProofs only [finF, gSeq, gSet, gDrop, gRet, gIte, gNx, gIf, gB, gAnd, gOr, gNot, toBl, toB, g1, g2, gv, gc, gAll, gsC, gsN, gIter, dIter, gI, gJ, gFor, gUnp, gAug, gtN, gtT, gtU, gtsC, gtsN, nlD, nlB, goN, goS, toI, gSl, gtt, bind_ok, bind_bad, bind_exc, pure_ok, oR_some, oR_none, noX_ok, noX_bad, Option.bind_some, List.getD_cons_zero, List.getD_cons_succ, List.getD_nil, List.set_cons_zero, List.set_cons_succ, List.length_cons, List.length_nil, Nat.reduceAdd, dAdd_i, dSub_i, dNeg_i, dLt_i, dLe_i, dGt_i, dGe_i, dAnd_i, dOr_i, dXor_i, dEq_i, dNe_p, dMax_ii, dMin_ii, dAugAdd_i, dAugSub_i, dAugBitXor_i, dIsi_ii, dIsi_bi, dIsi_tt, if_true, ite_true, ite_false, Bool.false_eq_true, if_false, Bool.not_true, Bool.not_false, reduceIte, dMod_s, dDiv_s, Int.reduceLT, Int.reduceLE, Int.reduceNeg, Int.reducePow, Nat.reducePow, Nat.reduceLT, Int.reduceToNat, decide_eq_true_eq, Bool.true_eq_false, dLst_0, dTup_0, dLst_1, dTup_1, dLst_2, dTup_2, dLst_3, dTup_3, dLst_4, dTup_4, dLst_5, dTup_5, dLst_6, dTup_6, dLst_7, dTup_7, dLst_8, dTup_8, dLst_9, dTup_9, decide_true, decide_false, dIsi2_t, dIsi2_l, dIsi2_i, dIsi2_n, dIsi2_s, dIsi_tl, dIsi_ti, dIsi_tn, dIsi_ts, dIsi_si, dIsi_sn, dIsi_ss, dIsi_in, dIsi_it, dIsi_il, dIsi_is, dIsi_ib, dIsi_bb])
theorem gOr_dec {a b : List D → R Bool} {ρ : List D} {p q : Prop} [Decidable p] [Decidable q] (h1 : a ρ = .ok (decide p)) (h2 : b ρ = .ok (decide q)) : gOr a b ρ = .ok (decide (p ∨ q)) := by
  unfold gOr
  rw [h1, bind_ok, h2]
  by_cases x : p <;> by_cases y : q <;> simp [x, y]
theorem gNot_dec {a : List D → R Bool} {ρ : List D} {p : Prop} [Decidable p] (h1 : a ρ = .ok (decide p)) : gNot a ρ = .ok (decide (¬ p)) := by
  unfold gNot
  rw [h1, bind_ok, decide_not]
theorem gB_bl {a : List D → R D} {ρ : List D} {b : Bool} (h : a ρ = .ok (.bl b)) : gB a ρ = .ok b := by
  unfold gB
  rw [h]
  rfl
def dN (n : Nat) : D := .int n
theorem set_of {i : Nat} {g : List D → R D} {ρ : List D} {d : D} (h : g ρ = .ok d) : gSet i g ρ = .ok (.nx (ρ.set i d)) := by
  unfold gSet
  rw [h]
  rfl
theorem gOr_F {a b : List D → R Bool} {ρ : List D} {r : Bool} (h1 : a ρ = .ok false) (h2 : b ρ = .ok r) : gOr a b ρ = .ok r := by
  unfold gOr
  rw [h1]
  exact h2
theorem gAnd_T {a b : List D → R Bool} {ρ : List D} {r : Bool} (h1 : a ρ = .ok true) (h2 : b ρ = .ok r) : gAnd a b ρ = .ok r := by
  unfold gAnd
  rw [h1]
  exact h2
theorem run_of {g : List D → R Fl} {ρ : List D} {d : D} (h : W g ρ (kO fun x => x = d)) : (g ρ >>= finF) = .ok d := Ok.eq (W.fn h)
theorem rp_exc {r : R D} {x : Ex} (h : RP r (fun _ => False) fun y => y = x) : r = .exc x := by
  cases r with
  | ok d => exact (show False from h).elim
  | exc y => exact congrArg R.exc (show y = x from h)
  | bad => exact (show False from h).elim
theorem gAll1 {f : List D → R D} {g : List D → R D} {ρ : List D} {d : D} (h : g ρ = .ok d) : gAll f (gsC g gsN) ρ = f [d] := by
  show (gsC g gsN ρ >>= f) = _
  show ((g ρ >>= fun d => gsN ρ >>= fun ds => R.ok (d :: ds)) >>= f) = _
  rw [h]
  rfl
theorem gApp_s {i : Nat} {g : List D → R D} {ρ ds : List D} {d : D} (h1 : ρ.getD i .non = .lst ds) (h2 : g ρ = .ok d) (h3 : ds.length < sizeLine) : gApp i g ρ = .ok (.nx (ρ.set i (.lst (ds ++ [d])))) := by
  unfold gApp
  rw [h1]
  show (g ρ >>= _) = _
  rw [h2]
  exact if_pos h3
theorem all_dN (xs : List Nat) : (xs.map dN).all nlB = true := by
  rw [List.all_eq_true]
  intro d hd
  obtain ⟨x, _, rfl⟩ := List.mem_map.mp hd
  rfl
def cS (l : List Nat) : Str := ⟨l.toArray⟩
def tS (l : List Nat) : D := .str (cS l)
theorem cS_len (l : List Nat) : (cS l).length = l.length := rfl
theorem cS_toList (l : List Nat) : (cS l).cps.toList = l := rfl
theorem tAdd {a b : List Nat} (h : a.length + b.length ≤ 16777216) : dAdd (tS a) (tS b) = .ok (tS (a ++ b)) := by
  have e : cS a ++ cS b = cS (a ++ b) := SX.S_cat a b
  show (if (cS a).length + (cS b).length ≤ sizeLine then R.ok (D.str (cS a ++ cS b)) else R.bad) = _
  rw [if_pos (by rw [cS_len, cS_len, sizeLine_eq]; exact h), e]
  rfl
theorem tIx {a : List Nat} {i : Nat} (h : i < a.length) (hl : a.length ≤ 16777216) : dIx (tS a) (.int i) = .ok (tS [a.getD i 0]) := by
  show (if (cS a).length ≤ sizeLine then oR ((atI (cS a).cps.toList i).map fun c => D.str ⟨#[c]⟩) else R.bad) = _
  rw [if_pos (by rw [cS_len, sizeLine_eq]; exact hl), cS_toList]
  have e : atI a (i : Int) = some (a.getD i 0) := by
    rw [atI_in (by omega) (by omega), List.getD_eq_getElem?_getD, List.getElem?_eq_getElem h]
    rfl
  rw [e]
  rfl
theorem tLen {a : List Nat} (hl : a.length ≤ 16777216) : dLen [tS a] = .ok (.int a.length) := by
  show (if (cS a).length ≤ sizeLine then R.ok (D.int (cS a).length) else R.bad) = _
  rw [if_pos (by rw [cS_len, sizeLine_eq]; exact hl)]
  rfl
theorem tIter {a : List Nat} (hl : a.length ≤ 16777216) : dIter (tS a) = .ok (a.map fun c => tS [c]) := by
  show (if (cS a).cps.size ≤ sizeLine then R.ok ((cS a).cps.toList.map fun c => D.str ⟨#[c]⟩) else R.bad) = _
  rw [if_pos (by show a.length ≤ _; rw [sizeLine_eq]; exact hl)]
  rfl
theorem tSl {a : List Nat} (hl : a.length ≤ 16777216) (nl : Bool) (lo hi : Option Int) : dSl nl (tS a) lo hi = .ok (tS (cutD a lo hi)) := by
  show (if (cS a).length ≤ sizeLine then R.ok (D.str (cutS (cS a) lo hi)) else R.bad) = _
  rw [if_pos (by rw [cS_len, sizeLine_eq]; exact hl)]
  rfl
theorem tIn (c : Nat) (a : List Nat) : dInS false (tS [c]) (tS a) = .ok (.bl (decide (c ∈ a))) := by
  show R.ok (D.bl (decide (c ∈ a) ^^ false)) = _
  rw [Bool.xor_false]
def low (a : List Nat) : Prop := ∀ c ∈ a, c < 128
theorem low_str {a : List Nat} (h : low a) : PyData.strOk (cS a) = true := by
  show a.toArray.all (· < 0x110000) = true
  rw [List.all_toArray]
  exact List.all_eq_true.mpr fun c hc => decide_eq_true (by have := h c hc; omega)
theorem cS_beq (a b : List Nat) : (cS a == cS b) = decide (a = b) := SX.S_beq_eq
theorem eqOk_tS {a : List Nat} (h : low a) : eqOk (tS a) = true := by
  have q := low_str h
  show (true && (PyData.canLay0 (.str (cS a)) && decide (PyData.depth (.str (cS a)) ≤ 64))) = true
  have e : PyData.canLay0 (.str (cS a)) = PyData.strOk (cS a) := rfl
  rw [e, q]
  rfl
theorem tEq {a b : List Nat} (ha : low a) (hb : low b) : dEq (tS a) (tS b) = .ok (.bl (decide (a = b))) := by
  show (if (eqOk (tS a) && eqOk (tS b)) = true then R.ok (D.bl (PyData.eqv (.str (cS a)) (.str (cS b)))) else R.bad) = _
  rw [eqOk_tS ha, eqOk_tS hb]
  show R.ok (D.bl (cS a == cS b)) = _
  rw [cS_beq]
theorem tNe {a b : List Nat} (ha : low a) (hb : low b) : dNe (tS a) (tS b) = .ok (.bl (!decide (a = b))) := by
  show (if (eqOk (tS a) && eqOk (tS b)) = true then R.ok (D.bl (!PyData.eqv (.str (cS a)) (.str (cS b)))) else R.bad) = _
  rw [eqOk_tS ha, eqOk_tS hb]
  show R.ok (D.bl (!(cS a == cS b))) = _
  rw [cS_beq]
theorem low_app {a b : List Nat} (ha : low a) (hb : low b) : low (a ++ b) := fun c hc => (List.mem_append.mp hc).elim (ha c) (hb c)
theorem low_take {a : List Nat} (n : Nat) (h : low a) : low (a.take n) := fun c hc => h c (List.mem_of_mem_take hc)
theorem low_drop {a : List Nat} (n : Nat) (h : low a) : low (a.drop n) := fun c hc => h c (List.mem_of_mem_drop hc)
def sp (c : Nat) (a : List Nat) : List (List Nat) := TL.spl [c] 0 [] a
theorem pre1 (c x : Nat) (r : List Nat) : TL.pre [c] (x :: r) = (x == c) := by
  show ([x] == [c]) = _
  show (x == c && ([] : List Nat) == []) = _
  rw [show (([] : List Nat) == []) = true from rfl, Bool.and_true]
theorem spl1_app (c : Nat) (q : List Nat) : ∀ (p acc : List Nat), TL.spl [c] 0 acc (p ++ c :: q) = TL.spl [c] 0 acc p ++ TL.spl [c] 0 [] q
  | [], acc => by
    rw [List.nil_append, TL.spl_nil, TL.spl_hit (by rw [pre1]; exact beq_self_eq_true c)]
    rfl
  | x :: p, acc => by
    rw [List.cons_append]
    by_cases h : x = c
    · have e : TL.pre [c] (x :: (p ++ c :: q)) = true := by rw [pre1, h]; exact beq_self_eq_true c
      have e2 : TL.pre [c] (x :: p) = true := by rw [pre1, h]; exact beq_self_eq_true c
      rw [TL.spl_hit e, TL.spl_hit e2]
      show acc :: TL.spl [c] 0 [] (p ++ c :: q) = acc :: TL.spl [c] 0 [] p ++ _
      rw [spl1_app c q p []]
      rfl
    · have e : TL.pre [c] (x :: (p ++ c :: q)) = false := by rw [pre1]; exact beq_eq_false_iff_ne.mpr h
      have e2 : TL.pre [c] (x :: p) = false := by rw [pre1]; exact beq_eq_false_iff_ne.mpr h
      rw [TL.spl_miss e, TL.spl_miss e2]
      exact spl1_app c q p _
theorem sp_app (c : Nat) (p q : List Nat) : sp c (p ++ c :: q) = sp c p ++ sp c q := spl1_app c q p []
theorem sp_nil (c : Nat) : sp c [] = [[]] := rfl
theorem sp_free {c : Nat} {p : List Nat} (h : c ∉ p) : sp c p = [p] := TL.spl_last1 h
theorem sp_cons (c : Nat) (q : List Nat) : sp c (c :: q) = [] :: sp c q := by
  have := sp_app c [] q
  rw [List.nil_append, sp_nil] at this
  exact this
/-- a text is its parts, joined -/
theorem sp_cases (c : Nat) : ∀ a : List Nat, (c ∉ a ∧ sp c a = [a]) ∨ ∃ p q, c ∉ p ∧ a = p ++ c :: q ∧ sp c a = p :: sp c q
  | [] => .inl ⟨List.not_mem_nil, rfl⟩
  | x :: a => by
    by_cases h : x = c
    · subst h
      exact .inr ⟨[], a, List.not_mem_nil, rfl, sp_cons x a⟩
    · have hx : c ∉ [x] := fun z => h (List.mem_singleton.mp z).symm
      rcases sp_cases c a with ⟨h1, h2⟩ | ⟨p, q, h1, h2, h3⟩
      · have n : c ∉ x :: a := fun z => (List.mem_cons.mp z).elim (fun e => h e.symm) h1
        exact .inl ⟨n, sp_free n⟩
      · have n : c ∉ x :: p := fun z => (List.mem_cons.mp z).elim (fun e => h e.symm) h1
        refine .inr ⟨x :: p, q, n, by rw [h2]; rfl, ?_⟩
        rw [h2, show x :: (p ++ c :: q) = (x :: p) ++ c :: q from rfl, sp_app, sp_free n]
        rfl
theorem sp_mem (c : Nat) : ∀ (n : Nat) (a : List Nat), a.length ≤ n → ∀ p ∈ sp c a, c ∉ p ∧ p.length ≤ a.length ∧ ∀ x ∈ p, x ∈ a
  | n, a, hn, w, hw => by
    rcases sp_cases c a with ⟨h1, h2⟩ | ⟨p, q, h1, h2, h3⟩
    · rw [h2] at hw
      have e := List.mem_singleton.mp hw
      subst e
      exact ⟨h1, Nat.le_refl _, fun x hx => hx⟩
    · rw [h3] at hw
      have hl : a.length = p.length + (q.length + 1) := by rw [h2, List.length_append, List.length_cons]
      rcases List.mem_cons.mp hw with e | hw
      · subst e
        exact ⟨h1, by omega, fun x hx => by rw [h2]; exact List.mem_append.mpr (.inl hx)⟩
      · cases n with
        | zero => omega
        | succ n =>
          obtain ⟨a1, a2, a3⟩ := sp_mem c n q (by omega) w hw
          exact ⟨a1, by omega, fun x hx => by rw [h2]; exact List.mem_append.mpr (.inr (List.mem_cons_of_mem _ (a3 x hx)))⟩
theorem sp_len (c : Nat) : ∀ (n : Nat) (a : List Nat), a.length ≤ n → (sp c a).length ≤ a.length + 1
  | n, a, hn => by
    rcases sp_cases c a with ⟨h1, h2⟩ | ⟨p, q, h1, h2, h3⟩
    · rw [h2]
      exact Nat.succ_le_succ (Nat.zero_le _)
    · have hl : a.length = p.length + (q.length + 1) := by rw [h2, List.length_append, List.length_cons]
      rw [h3, List.length_cons]
      cases n with
      | zero => omega
      | succ n =>
        have := sp_len c n q (by omega)
        omega
theorem sp_pos (c : Nat) (a : List Nat) : sp c a ≠ [] := by
  rcases sp_cases c a with ⟨_, h2⟩ | ⟨p, q, _, _, h3⟩
  · rw [h2]; exact List.cons_ne_nil _ _
  · rw [h3]; exact List.cons_ne_nil _ _
/-- the words of a row -/
def neB (p : List Nat) : Bool := decide (p ≠ [])
def wd (a : List Nat) : List (List Nat) := (sp 32 a).filter neB
theorem wd_sp (p q : List Nat) : wd (p ++ 32 :: q) = wd p ++ wd q := by
  unfold wd
  rw [sp_app, List.filter_append]
theorem wd_nil : wd [] = [] := rfl
theorem wd_cons (q : List Nat) : wd (32 :: q) = wd q := by
  have := wd_sp [] q
  rw [List.nil_append, wd_nil, List.nil_append] at this
  exact this
theorem wd_one {w : List Nat} (h : w ≠ []) (h2 : 32 ∉ w) : wd w = [w] := by
  unfold wd
  rw [sp_free h2, List.filter_cons, if_pos (show neB w = true from decide_eq_true h)]
  rfl
theorem wd_pl (q : List Nat) : ∀ k, wd (List.replicate k 32 ++ q) = wd q
  | 0 => rfl
  | k + 1 => by
    rw [List.replicate_succ, List.cons_append, wd_cons]
    exact wd_pl q k
theorem wd_rep (k : Nat) : wd (List.replicate k 32) = [] := by
  have := wd_pl [] k
  rw [List.append_nil] at this
  exact this
theorem wd_pr (p : List Nat) : ∀ k, wd (p ++ List.replicate k 32) = wd p
  | 0 => by rw [List.replicate_zero, List.append_nil]
  | k + 1 => by rw [List.replicate_succ, wd_sp, wd_rep, List.append_nil]
theorem wd_mem {a w : List Nat} (h : w ∈ wd a) : w ≠ [] ∧ 32 ∉ w ∧ w.length ≤ a.length ∧ ∀ x ∈ w, x ∈ a := by
  obtain ⟨h1, h2⟩ := List.mem_filter.mp h
  obtain ⟨a1, a2, a3⟩ := sp_mem 32 a.length a (Nat.le_refl _) w h1
  exact ⟨of_decide_eq_true h2, a1, a2, a3⟩
theorem wd_len (a : List Nat) : (wd a).length ≤ a.length + 1 := Nat.le_trans (List.length_filter_le _ _) (sp_len 32 a.length a (Nat.le_refl _))
theorem wd_join : ∀ {ws : List (List Nat)}, (∀ w ∈ ws, w ≠ [] ∧ 32 ∉ w) → wd (TL.joinL [32] ws) = ws
  | [], _ => rfl
  | [w], h => wd_one (h w List.mem_cons_self).1 (h w List.mem_cons_self).2
  | w :: x :: r, h => by
    show wd (w ++ 32 :: TL.joinL [32] (x :: r)) = _
    rw [wd_sp, wd_one (h w List.mem_cons_self).1 (h w List.mem_cons_self).2, wd_join fun y hy => h y (List.mem_cons_of_mem _ hy)]
    rfl
/-- strip(" ") -/
theorem strip_parts (a : List Nat) : ∃ (i j : Nat) (m : List Nat), a = List.replicate i 32 ++ (m ++ List.replicate j 32) ∧ Txt.stripChars (cS a) (cS [32]) = cS m := by
  let g : Nat → Bool := (cS [32]).cps.contains
  have hg : ∀ x, g x = true → x = 32 := fun x hx => by
    have hx : (#[32] : Array Nat).contains x = true := hx
    simpa using hx
  have all : ∀ l : List Nat, ∀ x ∈ l.takeWhile g, x = 32 := fun l x hx => hg x (List.all_eq_true.mp List.all_takeWhile x hx)
  obtain ⟨tw, etw⟩ : ∃ tw, tw = a.takeWhile g := ⟨_, rfl⟩
  obtain ⟨dw, edw⟩ : ∃ dw, dw = a.dropWhile g := ⟨_, rfl⟩
  obtain ⟨t2, et2⟩ : ∃ t2, t2 = dw.reverse.takeWhile g := ⟨_, rfl⟩
  obtain ⟨d2, ed2⟩ : ∃ d2, d2 = dw.reverse.dropWhile g := ⟨_, rfl⟩
  have e1 : a = tw ++ dw := by rw [etw, edw]; exact List.takeWhile_append_dropWhile.symm
  have e2 : dw.reverse = t2 ++ d2 := by rw [et2, ed2]; exact List.takeWhile_append_dropWhile.symm
  have e3 : dw = d2.reverse ++ t2.reverse := by rw [← List.reverse_append, ← e2, List.reverse_reverse]
  have r1 : tw = List.replicate tw.length 32 := List.eq_replicate_of_mem fun x hx => all a x (etw ▸ hx)
  have r2 : t2 = List.replicate t2.length 32 := List.eq_replicate_of_mem fun x hx => all dw.reverse x (et2 ▸ hx)
  have r3 : t2.reverse = List.replicate t2.length 32 := by
    conv => lhs; rw [r2]
    rw [List.reverse_replicate]
  refine ⟨tw.length, t2.length, d2.reverse, by rw [← r1, ← r3, ← e3]; exact e1, ?_⟩
  have lo : stripLo g true (cS a) = tw.length := by rw [etw]; rfl
  have dr : a.drop tw.length = dw := by
    conv => lhs; rw [e1]
    exact List.drop_left
  have hi : stripHi g true (cS a) tw.length = a.length - t2.length := by
    show a.length - ((a.drop tw.length).reverse.takeWhile g).length = _
    rw [dr, ← et2]
  have la : a.length = tw.length + (d2.length + t2.length) := by
    have := congrArg List.length e1
    have z := congrArg List.length e3
    rw [List.length_append] at this z
    rw [List.length_reverse, List.length_reverse] at z
    omega
  show (if stripSame g true true (cS a) = true then cS a else PySem.Builtin.Str.strSub (cS a) (stripLo g true (cS a)) (stripHi g true (cS a) (stripLo g true (cS a)))) = _
  have same : stripSame g true true (cS a) = (tw.length == 0 && a.length - t2.length == a.length) := by
    show (stripLo g true (cS a) == 0 && stripHi g true (cS a) (stripLo g true (cS a)) == (cS a).length) = _
    rw [lo, hi]
    rfl
  rw [same, lo, hi]
  split
  · rename_i h
    rw [Bool.and_eq_true, beq_iff_eq, beq_iff_eq] at h
    have t1 : tw = [] := List.length_eq_zero_iff.mp h.1
    have t3 : t2 = [] := List.length_eq_zero_iff.mp (by omega)
    rw [e1, e3, t1, t3]
    show cS (d2.reverse ++ []) = _
    rw [List.append_nil]
  · refine TL.ext_tl ?_
    show (a.toArray.extract tw.length (a.length - t2.length)).toList = d2.reverse
    rw [List.extract_toArray, List.extract_eq_take_drop]
    show (a.drop tw.length).take (a.length - t2.length - tw.length) = _
    rw [dr, e3, show a.length - t2.length - tw.length = d2.reverse.length by rw [List.length_reverse]; omega]
    exact List.take_left
theorem wd_strip {a m : List Nat} {i j : Nat} (h : a = List.replicate i 32 ++ (m ++ List.replicate j 32)) : wd m = wd a := by
  rw [h, wd_pl, wd_pr]
def nS (n : Nat) : List Nat := TL.numL n
theorem nS_low (n : Nat) : low (nS n) := fun c hc => by have := TL.numL_digits n c hc; omega
theorem nS_len {n k : Nat} (hk : 0 < k) (h : n < 10 ^ k) : (nS n).length ≤ k := TL.numL_len hk h
theorem strI_n {n : Nat} (h : n < 2 ^ 60) : dStrI [.int (n : Nat)] = .ok (tS (nS n)) := by
  have e : Str.ofString (toString ((n : Nat) : Int)) = cS (nS n) := SX.num_S n
  show (if ((n : Nat) : Int).natAbs.log2 < 1920 then R.ok (D.str (Str.ofString (toString ((n : Nat) : Int)))) else R.bad) = _
  rw [e, if_pos]
  · rfl
  · rw [Int.natAbs_natCast]
    by_cases z : n = 0
    · rw [z]; decide
    · exact Nat.lt_trans ((Nat.log2_lt z).mpr h) (by decide)
def dgC (c : Nat) : Bool := decide (48 ≤ c) && decide (c ≤ 57)
def numB (w : List Nat) : Option Nat := if (1 ≤ w.length ∧ w.length ≤ 9) ∧ w.all dgC = true ∧ nS (NumText.digitsVal w) = w then some (NumText.digitsVal w) else none
def oD : Option Nat → D
  | none => .non
  | some n => .int (n : Nat)
def figs10 : List Nat := [48, 49, 50, 51, 52, 53, 54, 55, 56, 57]
theorem figs10_eq : Str.ofString "0123456789" = cS figs10 := by decide +kernel
theorem dgC_in : ∀ c < 128, decide (c ∈ figs10) = dgC c := by decide +kernel
theorem dVal_lt : ∀ (n : Nat) (w : List Nat), w.length = n → w.all dgC = true → NumText.digitsVal w < 10 ^ n
  | 0, w, h, _ => by rw [List.length_eq_zero_iff.mp h]; decide
  | n + 1, w, h, hd => by
    obtain ⟨v, c, e⟩ : ∃ v c, w = v ++ [c] := by
      have hw : w ≠ [] := fun z => by rw [z] at h; exact absurd h (by simp)
      exact ⟨w.dropLast, w.getLast hw, (List.dropLast_concat_getLast hw).symm⟩
    subst e
    rw [List.all_append, Bool.and_eq_true] at hd
    have hc : dgC c = true := by simpa using hd.2
    unfold dgC at hc
    rw [Bool.and_eq_true, decide_eq_true_eq, decide_eq_true_eq] at hc
    have := dVal_lt n v (by simpa using h) hd.1
    rw [NumText.digitsVal_snoc, Nat.pow_succ]
    omega
theorem number_eq {w : List Nat} (h : low w) (hl : w.length ≤ 16777216) : f_number_by [tS w] = .ok (oD (numB w)) := by
  have ln := tLen hl
  have it := tIter hl
  rw [f_number_by_run, g_number_by, figs10_eq]
  have ee : (oD (numB w)) = if (¬ (1 ≤ w.length ∧ w.length ≤ 9)) ∨ ¬ (w.all dgC = true) then D.non else oD (numB w) := by
    split
    · rename_i z
      unfold numB
      rw [if_neg fun y => z.elim (fun a => a y.1) fun a => a y.2.1]
      rfl
    · rfl
  rw [ee]
  obtain ⟨T, eT⟩ : ∃ T, T = tS w := ⟨_, rfl⟩
  have lc : gLc (gIter (gv 0)) (gtN 1) gtt (g2 (dInS false) (gv 1) (gc (.str (cS figs10)))) [T, .non] = .ok (.lst (w.map fun c => .bl (dgC c))) := by
    refine gLc_map (ed := fun c => tS [c]) (xs := w) (h := fun c => .bl (dgC c)) (by rw [eT]; exact it) fun c hc => ⟨[T, tS [c]], rfl, ?_⟩
    show (R.ok (tS [c]) >>= fun a => R.ok (tS figs10) >>= fun b => dInS false a b) = _
    rw [bind_ok, bind_ok, tIn, dgC_in c (h c hc)]
  have al : dAll [.lst (w.map fun c => .bl (dgC c))] = .ok (.bl (w.all dgC)) := by
    have e : w.map (fun c => D.bl (dgC c)) = (w.map dgC).map D.bl := by rw [List.map_map]; rfl
    show oR ((dBls _).map _) = _
    rw [e, dBls_map]
    show R.ok (D.bl _) = _
    congr 2
    rw [List.all_map]
    rfl
  rw [← eT] at ln ⊢
  refine run_of ?_
  refine W.iteS (p := (¬ (1 ≤ w.length ∧ w.length ≤ 9)) ∨ ¬ (w.all dgC = true)) (gOr_dec (gNot_dec (gB_bl (by
    show (R.ok (D.int 1) >>= fun x => gAll dLen (gsC (gv 0) gsN) [T, .non] >>= fun y => dChain oLe oLe x y (R.ok (.int 9))) = _
    rw [bind_ok, gAll1 (d := T) rfl, ln, bind_ok]
    show (if decide ((1 : Int) ≤ (w.length : Int)) = true then R.ok (D.bl (decide ((w.length : Int) ≤ 9))) else R.ok (.bl false)) = _
    by_cases a : 1 ≤ w.length
    · rw [if_pos (decide_eq_true (by omega))]
      by_cases b : w.length ≤ 9
      · rw [decide_eq_true (show (w.length : Int) ≤ 9 by omega), decide_eq_true ⟨a, b⟩]
      · rw [decide_eq_false (show ¬ (w.length : Int) ≤ 9 by omega), decide_eq_false fun z => b z.2]
    · rw [if_neg (by rw [decide_eq_true_eq]; omega), decide_eq_false fun z => a z.1]))) (gNot_dec (gB_bl (by
    rw [gAll1 lc, al]
    cases w.all dgC <;> rfl)))) (fun z => ?_) (fun z => W.nxS ?_)
  · rw [if_pos z]
    exact W.rtS rfl rfl
  · rw [if_neg z]
    have z1 : 1 ≤ w.length ∧ w.length ≤ 9 := Classical.byContradiction fun y => z (.inl y)
    have z2 : w.all dgC = true := Classical.byContradiction fun y => z (.inr y)
    have dv : NumText.digitsVal w < 10 ^ 9 := Nat.lt_of_lt_of_le (dVal_lt w.length w rfl z2) (Nat.pow_le_pow_right (by decide) z1.2)
    have ii : dIntT [T] = .ok (.int (NumText.digitsVal w : Nat)) := by
      rw [eT]
      show (if (cS w).length ≤ 640 then oR ((PySem.intText? (cS w)).map D.int) else R.bad) = _
      rw [if_pos (by rw [cS_len]; omega), show PySem.intText? (cS w) = _ from SX.int_S (a := w) z2 (fun y => by rw [y] at z1; exact absurd z1.1 (by decide)) (by omega)]
      rfl
    have ss := strI_n (n := NumText.digitsVal w) (Nat.lt_trans dv (by decide))
    have eq := tEq (nS_low (NumText.digitsVal w)) h
    rw [← eT] at eq
    refine W.rt1 (d := oD (numB w)) ?_ rfl
    have gi : gAll dIntT (gsC (gv 0) gsN) [T, .non] = .ok (.int (NumText.digitsVal w : Nat)) := (gAll1 rfl).trans ii
    have cond : gB (g2 dEq (gAll dStrI (gsC (gAll dIntT (gsC (gv 0) gsN)) gsN)) (gv 0)) [T, .non] = .ok (decide (nS (NumText.digitsVal w) = w)) := by
      refine gB_bl ?_
      show (gAll dStrI (gsC (gAll dIntT (gsC (gv 0) gsN)) gsN) [T, .non] >>= fun a => R.ok T >>= fun b => dEq a b) = _
      rw [gAll1 gi, ss, bind_ok, bind_ok, eq]
    show (gB (g2 dEq (gAll dStrI (gsC (gAll dIntT (gsC (gv 0) gsN)) gsN)) (gv 0)) [T, .non] >>= fun c => if c then gAll dIntT (gsC (gv 0) gsN) [T, .non] else R.ok .non) = _
    rw [cond, bind_ok, gi]
    unfold numB
    by_cases y : nS (NumText.digitsVal w) = w
    · rw [if_pos (decide_eq_true y), if_pos ⟨z1, z2, y⟩]
      rfl
    · rw [if_neg (by rw [decide_eq_true_eq]; exact y), if_neg fun q => y q.2.2]
      rfl
theorem gOr_T {a b : List D → R Bool} {ρ : List D} (h1 : a ρ = .ok true) : gOr a b ρ = .ok true := by
  unfold gOr
  rw [h1]
  rfl
/-- all of the words, within bounds -/
def allN (lo hi : Nat) : List (List Nat) → Option (List Nat)
  | [] => some []
  | w :: ws => match numB w with
    | none => none
    | some n => if lo ≤ n ∧ n ≤ hi then (allN lo hi ws).map (n :: ·) else none
def numsB (ws : List (List Nat)) (many lo hi : Nat) : Option (List Nat) := if ws.length = many then allN lo hi ws else none
def oL : Option (List Nat) → D
  | none => .non
  | some ns => .tup (ns.map dN)
theorem allN_ok {lo hi : Nat} : ∀ {ws : List (List Nat)} {ns : List Nat}, allN lo hi ws = some ns → ns.length = ws.length ∧ ∀ n ∈ ns, lo ≤ n ∧ n ≤ hi
  | [], ns, h => by cases h; exact ⟨rfl, fun _ h => nomatch h⟩
  | w :: ws, ns, h => by
    have h : (match numB w with
      | none => none
      | some n => if lo ≤ n ∧ n ≤ hi then (allN lo hi ws).map (n :: ·) else none) = some ns := h
    cases e : numB w with
    | none => rw [e] at h; cases h
    | some n =>
      rw [e] at h
      have h : (if lo ≤ n ∧ n ≤ hi then (allN lo hi ws).map (n :: ·) else none) = some ns := h
      split at h
      · rename_i q
        obtain ⟨ms, h1, h2⟩ := Option.map_eq_some_iff.mp h
        subst h2
        obtain ⟨a, b⟩ := allN_ok h1
        exact ⟨by rw [List.length_cons, List.length_cons, a], fun x hx => (List.mem_cons.mp hx).elim (fun e => e ▸ q) (b x)⟩
      · cases h
theorem numbers_eq {ws : List (List Nat)} {many lo hi : Nat} (h : ∀ w ∈ ws, low w ∧ w.length ≤ 16777216) (hw : ws.length ≤ 16777000) : f_numbers_by [.lst (ws.map tS), .int many, .int lo, .int hi] = .ok (oL (numsB ws many lo hi)) := by
  have hsz : sizeLine = 16777216 := sizeLine_eq
  have ln : dLen [.lst (ws.map tS)] = .ok (.int ws.length) := by
    show R.ok (D.int _) = _
    rw [List.length_map]
  rw [f_numbers_by_run, g_numbers_by]
  have it : dIter (.lst (ws.map tS)) = .ok (ws.map tS) := rfl
  obtain ⟨L, eL⟩ : ∃ L, L = D.lst (ws.map tS) := ⟨_, rfl⟩
  rw [← eL] at ln it ⊢
  refine run_of ?_
  unfold numsB
  refine W.iteS (p := ws.length ≠ many) (gB_bl (by
    have e : dNe (.int (ws.length : Nat)) (.int (many : Nat)) = .ok (.bl (decide (ws.length ≠ many))) := by
      rw [dNe_p]
      congr 2
      have e2 : ((ws.length : Int) ≠ (many : Int)) = (ws.length ≠ many) := propext ⟨fun a b => a (congrArg Int.ofNat b), fun a b => a (by omega)⟩
      exact decide_eq_decide.mpr (Iff.of_eq e2)
    show (gAll dLen (gsC (gv 0) gsN) _ >>= fun a => R.ok (D.int (many : Nat)) >>= fun b => dNe a b) = _
    rw [gAll1 (d := L) rfl, ln, bind_ok, bind_ok, e])) (fun z => ?_) (fun z => W.nxS ?_)
  · rw [if_neg z]
    exact W.rtS rfl rfl
  · rw [if_pos (Classical.byContradiction z)]
    refine W.step (ρ' := [L, .int many, .int lo, .int hi, .lst [], .non, .non]) (by rfl) ?_
    refine W.forM (ed := tS) (xs := ws) (fun i ρ => ∃ xs : List Nat, (allN lo hi ws = (allN lo hi (ws.drop i)).map (xs ++ ·) ∧ xs.length = i) ∧ ∃ (j5 : D) (j6 : D), ρ = [L, .int many, .int lo, .int hi, .lst (xs.map dN), j5, j6]) it ⟨[], ⟨by
      show _ = Option.map (fun x => [] ++ x) (allN lo hi ws)
      cases allN lo hi ws <;> rfl, rfl⟩, _, _, rfl⟩ ?_ ?_
    · rintro i w hi1 ρ ⟨xs, ⟨inv, lx⟩, j5, j6, rfl⟩
      obtain ⟨hil, ew⟩ := List.getElem?_eq_some_iff.mp hi1
      have dr : ws.drop i = w :: ws.drop (i + 1) := by rw [List.drop_eq_getElem_cons hil, ew]
      have hw1 := h w (List.mem_of_getElem? hi1)
      refine ⟨[L, .int many, .int lo, .int hi, .lst (xs.map dN), tS w, j6], rfl, ?_⟩
      refine W.step (ρ' := [L, .int many, .int lo, .int hi, .lst (xs.map dN), tS w, oD (numB w)]) (set_of ((gAll1 rfl).trans (number_eq hw1.1 hw1.2))) ?_
      rw [dr] at inv
      have inv : allN lo hi ws = Option.map (xs ++ ·) (match numB w with
        | none => none
        | some n => if lo ≤ n ∧ n ≤ hi then (allN lo hi (ws.drop (i + 1))).map (n :: ·) else none) := inv
      cases en : numB w with
      | none =>
        rw [en] at inv
        refine W.iteST (gOr_T rfl) (W.rtS rfl ?_)
        show D.non = oL _
        rw [inv]
        rfl
      | some n =>
        rw [en] at inv
        have inv : allN lo hi ws = Option.map (xs ++ ·) (if lo ≤ n ∧ n ≤ hi then (allN lo hi (ws.drop (i + 1))).map (n :: ·) else none) := inv
        have cond : gOr (gB (g2 dIsN (gv 6) (gc .non))) (gNot (gB (gChain oLe oLe (gv 2) (gv 6) (gv 3)))) [L, .int many, .int lo, .int hi, .lst (xs.map dN), tS w, .int (n : Nat)] = .ok (decide (¬ (lo ≤ n ∧ n ≤ hi))) := by
          refine gOr_F rfl (gNot_dec (gB_bl ?_))
          show (if decide ((lo : Int) ≤ (n : Int)) = true then R.ok (D.bl (decide ((n : Int) ≤ (hi : Int)))) else R.ok (.bl false)) = _
          by_cases a : lo ≤ n
          · rw [if_pos (decide_eq_true (by omega))]
            by_cases b : n ≤ hi
            · rw [decide_eq_true (show (n : Int) ≤ hi by omega), decide_eq_true ⟨a, b⟩]
            · rw [decide_eq_false (show ¬ (n : Int) ≤ hi by omega), decide_eq_false fun z => b z.2]
          · rw [if_neg (by rw [decide_eq_true_eq]; omega), decide_eq_false fun z => a z.1]
        refine W.iteS cond (fun q => ?_) (fun q => W.nxS ?_)
        · rw [if_neg q] at inv
          refine W.rtS rfl ?_
          show D.non = oL _
          rw [inv]
          rfl
        · rw [if_pos (Classical.byContradiction q)] at inv
          refine W.nx1 (ρ' := [L, .int many, .int lo, .int hi, .lst ((xs ++ [n]).map dN), tS w, .int (n : Nat)]) (Eq.trans (gApp_s (ds := xs.map dN) (d := dN n) rfl rfl (by rw [List.length_map, hsz]; omega)) (by rw [List.map_append]; rfl)) ⟨xs ++ [n], ⟨?_, by rw [List.length_append]; exact congrArg (· + 1) lx⟩, _, _, rfl⟩
          rw [inv]
          cases allN lo hi (ws.drop (i + 1)) with
          | none => rfl
          | some ys =>
            show some (xs ++ n :: ys) = some ((xs ++ [n]) ++ ys)
            rw [List.append_assoc]
            rfl
    · rintro ρ ⟨xs, ⟨inv, lx⟩, j5, j6, rfl⟩
      rw [List.drop_of_length_le (Nat.le_refl _)] at inv
      have tp : dTuple true [.lst (xs.map dN)] = .ok (.tup (xs.map dN)) := if_pos fun _ => all_dN xs
      refine W.rt1 (d := .tup (xs.map dN)) ((gAll1 rfl).trans tp) ?_
      show D.tup _ = oL _
      rw [inv]
      show _ = D.tup ((xs ++ []).map dN)
      rw [List.append_nil]
theorem getD_set_eq {α : Type} {xs : List α} {k : Nat} {x x0 : α} (h : k < xs.length) : (xs.set k x).getD k x0 = x := by
  rw [List.getD_eq_getElem?_getD, List.getElem?_set_self h]
  rfl
theorem dNotIn_13 (m : Int) : dNotIn (.int m) (.tup [.int 1, .int 3]) = .ok (.bl (decide (¬ (m = 1 ∨ m = 3)))) := by
  show (if True ∧ True then R.ok (D.bl (!([V.int 1, V.int 3].any fun y => eqV y (.int m)))) else .bad) = _
  rw [if_pos ⟨trivial, trivial⟩]
  congr 2
  show (!(((1 : Int) == m) || (((3 : Int) == m) || false))) = _
  by_cases c1 : m = 1
  · subst c1; rfl
  · by_cases c2 : m = 3
    · subst c2; rfl
    · have e1 : ((1 : Int) == m) = false := beq_eq_false_iff_ne.mpr (Ne.symm c1)
      have e2 : ((3 : Int) == m) = false := beq_eq_false_iff_ne.mpr (Ne.symm c2)
      rw [e1, e2, decide_eq_true (show ¬ (m = 1 ∨ m = 3) from fun q => q.elim c1 c2)]
      rfl
def picW : List Nat := [112, 105, 99, 116, 117, 114, 101]
theorem picW_eq : Str.ofString "picture" = cS picW := by decide +kernel
theorem picW_low : low picW := by unfold low picW; decide
structure Hd where
  w : Nat
  h : Nat
  d : Nat
  n : Nat
def hdD (x : Hd) : D := .tup [.int (x.w : Nat), .int (x.h : Nat), .int (x.d : Nat), .int (x.n : Nat)]
def oH : Option Hd → D
  | none => .non
  | some x => hdD x
def hdOf : Option (List Nat) → Option Hd
  | some [a, b, c, d] => if c ≤ 8 ∧ (d = 1 ∨ d = 3) then some ⟨a, b, c, d⟩ else none
  | _ => none
def headB : List (List Nat) → Option Hd
  | [] => none
  | w :: ws => if w = picW then hdOf (numsB ws 4 1 40) else none
structure HdOk (x : Hd) : Prop where
  w : 1 ≤ x.w ∧ x.w ≤ 40
  h : 1 ≤ x.h ∧ x.h ≤ 40
  d : 1 ≤ x.d ∧ x.d ≤ 8
  n : x.n = 1 ∨ x.n = 3
theorem four {l : List Nat} (h : l.length = 4) : ∃ a b c d, l = [a, b, c, d] := by
  match l, h with
  | [a, b, c, d], _ => exact ⟨a, b, c, d, rfl⟩
theorem nums4 {ws : List (List Nat)} {lo hi : Nat} : numsB ws 4 lo hi = none ∨ ∃ a b c d, numsB ws 4 lo hi = some [a, b, c, d] ∧ (lo ≤ a ∧ a ≤ hi) ∧ (lo ≤ b ∧ b ≤ hi) ∧ (lo ≤ c ∧ c ≤ hi) ∧ (lo ≤ d ∧ d ≤ hi) := by
  unfold numsB
  split
  · rename_i q
    cases e : allN lo hi ws with
    | none => exact .inl rfl
    | some ns =>
      obtain ⟨h1, h2⟩ := allN_ok e
      obtain ⟨a, b, c, d, rfl⟩ := four (h1.trans q)
      exact .inr ⟨a, b, c, d, rfl, h2 a (by simp), h2 b (by simp), h2 c (by simp), h2 d (by simp)⟩
  · exact .inl rfl
theorem headB_ok {ws : List (List Nat)} {x : Hd} (h : headB ws = some x) : HdOk x := by
  cases ws with
  | nil => cases h
  | cons w ws =>
    have h : (if w = picW then hdOf (numsB ws 4 1 40) else none) = some x := h
    split at h
    · rcases nums4 (ws := ws) (lo := 1) (hi := 40) with e | ⟨a, b, c, d, e, q1, q2, q3, q4⟩
      · rw [e] at h; cases h
      · rw [e] at h
        have h : (if c ≤ 8 ∧ (d = 1 ∨ d = 3) then some (⟨a, b, c, d⟩ : Hd) else none) = some x := h
        split at h
        · rename_i z
          cases h
          exact ⟨q1, q2, ⟨q3.1, z.1⟩, z.2⟩
        · cases h
    · cases h
def wOk (ws : List (List Nat)) : Prop := (∀ w ∈ ws, low w ∧ w.length ≤ 16777216) ∧ ws.length ≤ 16777000
theorem head_eq {w : List Nat} {ws : List (List Nat)} (h : wOk (w :: ws)) : f_head_by [.lst ((w :: ws).map tS)] = .ok (oH (headB (w :: ws))) := by
  have hw := h.1 w List.mem_cons_self
  have nb := numbers_eq (ws := ws) (many := 4) (lo := 1) (hi := 40) (fun x hx => h.1 x (List.mem_cons_of_mem _ hx)) (by have := h.2; rw [List.length_cons] at this; omega)
  have ne := tNe hw.1 picW_low
  have i0 : dIx (.lst ((w :: ws).map tS)) (.int 0) = .ok (tS w) := ixL_get (i := 0) rfl
  have s1 : dSl false (.lst ((w :: ws).map tS)) (some 1) none = .ok (.lst (ws.map tS)) := by
    rw [dSl_l, cutD_from _ (by decide)]
    rfl
  rw [f_head_by_run, g_head_by, picW_eq]
  show _ = R.ok (oH (if w = picW then hdOf (numsB ws 4 1 40) else none))
  obtain ⟨L, eL⟩ : ∃ L, L = D.lst ((w :: ws).map tS) := ⟨_, rfl⟩
  rw [← eL] at i0 s1 ⊢
  refine run_of ?_
  have c4 : ∀ n : Nat, (D.int ((n : Nat) : Int)) = .int (n : Nat) := fun _ => rfl
  refine W.step (ρ' := [L, oL (numsB ws 4 1 40)]) (set_of (by
    show (gsC (gSl false (gv 0) (goS (gc (.int 1))) goN) (gsC (gc (.int 4)) (gsC (gc (.int 1)) (gsC (gc (.int 40)) gsN))) [L, .non] >>= f_numbers_by) = _
    have e : gsC (gSl false (gv 0) (goS (gc (.int 1))) goN) (gsC (gc (.int 4)) (gsC (gc (.int 1)) (gsC (gc (.int 40)) gsN))) [L, .non] = .ok [.lst (ws.map tS), .int (4 : Nat), .int (1 : Nat), .int (40 : Nat)] := by
      show ((dSl false L (some 1) none) >>= fun d => _) = _
      rw [s1]
      rfl
    rw [e]
    exact nb)) ?_
  have x0 : ∀ z, gB (g2 dNe (g2 dIx (gv 0) (gc (.int 0))) (gc (.str (cS picW)))) [L, z] = .ok (decide (¬ w = picW)) := fun z => gB_bl (by
    show (dIx L (.int 0) >>= fun a => R.ok (tS picW) >>= fun b => dNe a b) = _
    rw [i0, bind_ok, bind_ok, ne, decide_not])
  by_cases hp : w = picW
  · rw [if_pos hp]
    have x0 := fun z => (x0 z).trans (congrArg R.ok (decide_eq_false fun y => y hp))
    rcases nums4 (ws := ws) (lo := 1) (hi := 40) with e | ⟨a, b, c, d, e, q1, q2, q3, q4⟩
    · rw [e]
      refine W.iteST (gOr_F (x0 _) (gOr_T rfl)) (W.rtS rfl rfl)
    · rw [e]
      have i2 : dIx (.tup [.int (a : Nat), .int (b : Nat), .int (c : Nat), .int (d : Nat)]) (.int 2) = .ok (.int (c : Nat)) := rfl
      have i3 : dIx (.tup [.int (a : Nat), .int (b : Nat), .int (c : Nat), .int (d : Nat)]) (.int 3) = .ok (.int (d : Nat)) := rfl
      have n13 := dNotIn_13 (d : Nat)
      refine W.iteS (p := (¬ c ≤ 8) ∨ ¬ (d = 1 ∨ d = 3)) (gOr_F (x0 _) (gOr_F rfl (gOr_dec (gB_bl (by
        show R.ok (D.bl (decide (((c : Nat) : Int) > 8))) = _
        congr 2
        exact decide_eq_decide.mpr (by omega))) (gB_bl (by
        show (R.ok (D.int (d : Nat)) >>= fun x => R.ok (D.tup [.int 1, .int 3]) >>= fun y => dNotIn x y) = _
        rw [bind_ok, bind_ok, n13]
        congr 2
        exact decide_eq_decide.mpr (by omega)))))) (fun z => ?_) (fun z => W.nxS ?_)
      · refine W.rtS rfl ?_
        show D.non = oH (if c ≤ 8 ∧ (d = 1 ∨ d = 3) then some ⟨a, b, c, d⟩ else none)
        rw [if_neg fun y => z.elim (fun q => q y.1) fun q => q y.2]
        rfl
      · refine W.rt1 (d := .tup [.int (a : Nat), .int (b : Nat), .int (c : Nat), .int (d : Nat)]) rfl ?_
        show _ = oH (if c ≤ 8 ∧ (d = 1 ∨ d = 3) then some ⟨a, b, c, d⟩ else none)
        rw [if_pos ⟨Classical.byContradiction fun q => z (.inl q), Classical.byContradiction fun q => z (.inr q)⟩]
        rfl
  · rw [if_neg hp]
    exact W.iteST (gOr_T ((x0 _).trans (congrArg R.ok (decide_eq_true hp)))) (W.rtS rfl rfl)
def cnt : List (List Nat) → Bool
  | [] => false
  | w :: _ => decide (w.head? ≠ some 35)
def tlR : Nat → List (List Nat) → List (Nat × List (List Nat))
  | _, [] => []
  | n, l :: ls => (if cnt (wd l) = true then [(n, wd l)] else []) ++ tlR (n + 1) ls
theorem tlR_snoc (l : List Nat) : ∀ (ls : List (List Nat)) (n : Nat), tlR n (ls ++ [l]) = tlR n ls ++ (if cnt (wd l) = true then [(n + ls.length, wd l)] else [])
  | [], n => by
    show (if cnt (wd l) = true then [(n, wd l)] else []) ++ [] = [] ++ _
    rw [List.append_nil, List.nil_append]
    rfl
  | x :: ls, n => by
    show (if cnt (wd x) = true then [(n, wd x)] else []) ++ tlR (n + 1) (ls ++ [l]) = (if cnt (wd x) = true then [(n, wd x)] else []) ++ tlR (n + 1) ls ++ _
    rw [tlR_snoc l ls (n + 1), List.append_assoc, List.length_cons, show n + 1 + ls.length = n + (ls.length + 1) by omega]
theorem tlR_len : ∀ (ls : List (List Nat)) (n : Nat), (tlR n ls).length ≤ ls.length
  | [], _ => Nat.le_refl _
  | x :: ls, n => by
    have := tlR_len ls (n + 1)
    show ((if cnt (wd x) = true then [(n, wd x)] else []) ++ tlR (n + 1) ls).length ≤ _
    rw [List.length_append, List.length_cons]
    split
    · rw [List.length_singleton]; omega
    · rw [List.length_nil]; omega
theorem tlR_mem {p : Nat × List (List Nat)} : ∀ {ls : List (List Nat)} {n : Nat}, p ∈ tlR n ls → ∃ l ∈ ls, p.2 = wd l ∧ cnt (wd l) = true
  | [], _, h => nomatch h
  | x :: ls, n, h => by
    have h : p ∈ (if cnt (wd x) = true then [(n, wd x)] else []) ++ tlR (n + 1) ls := h
    rcases List.mem_append.mp h with h | h
    · split at h
      · rename_i q
        rw [List.mem_singleton.mp h]
        exact ⟨x, List.mem_cons_self, rfl, q⟩
      · cases h
    · obtain ⟨l, h1, h2⟩ := tlR_mem h
      exact ⟨l, List.mem_cons_of_mem _ h1, h2⟩
def popE (ls : List (List Nat)) : List (List Nat) := if ls.getLast? = some [] then ls.dropLast else ls
def enc (p : Nat × List (List Nat)) : D := .tup [.int (p.1 : Nat), .lst (p.2.map tS)]
theorem stw_one {c : Nat} {r : List Nat} : Txt.startswith (cS (c :: r)) (cS [35]) = decide (c = 35) := by
  show (decide (0 + 1 ≤ r.length + 1) && ((c :: r).toArray.extract 0 (0 + 1) == #[35])) = _
  rw [decide_eq_true (by omega), Bool.true_and, List.extract_toArray, List.extract_eq_take_drop]
  show (#[c] == #[35]) = _
  by_cases h : c = 35
  · subst h; rfl
  · rw [decide_eq_false h]
    exact beq_eq_false_iff_ne.mpr fun z => h (by simpa using z)
theorem split_eq {l : List Nat} (c : Nat) (hc : c < 256) (hl : l.length ≤ 16777000) : dSplit (cS l) (tS [c]) = .ok (.lst ((sp c l).map tS)) := by
  have hsz : sizeLine = 16777216 := sizeLine_eq
  show (if ((cS [c]).length == 0) = false ∧ (cS l).length + 2 ≤ sizeLine then R.ok (D.lst ((Txt.split (cS l) (cS [c])).map D.str)) else R.bad) = _
  rw [if_pos ⟨rfl, by rw [cS_len, hsz]; omega⟩, show Txt.split (cS l) (cS [c]) = _ from SX.split_S (List.cons_ne_nil _ _) (by simp [hc]), List.map_map]
  rfl
theorem low_nil : low [] := fun _ h => absurd h List.not_mem_nil
theorem gAllB {f : List D → R D} {a b : List D → R D} {ρ : List D} {x y : D} (h : a ρ = .ok x) (h2 : b ρ = .ok y) : gAll f (gsC a (gsC b gsN)) ρ = f [x, y] := by
  show ((a ρ >>= fun d => (b ρ >>= fun d => gsN ρ >>= fun ds => R.ok (d :: ds)) >>= fun ds => R.ok (d :: ds)) >>= f) = _
  rw [h, h2]
  rfl
theorem gT2_of {f : Str → D → R D} {go ga : List D → R D} {ρ : List D} {l : List Nat} {e : D} (h1 : go ρ = .ok (tS l)) (h2 : ga ρ = .ok e) : gT2 f go ga ρ = f (cS l) e := by
  unfold gT2
  rw [h1]
  show (ga ρ >>= fun e => f (cS l) e) = _
  rw [h2]
  rfl
theorem ix_last {ls : List (List Nat)} (h : ls ≠ []) : dIx (.lst (ls.map tS)) (.int (-1)) = .ok (tS (ls.getLast h)) := by
  have e : atI (ls.map tS) (-1) = some (tS (ls.getLast h)) := by
    have hp : 0 < ls.length := List.length_pos_iff.mpr h
    refine atI_ixN (j := ls.length - 1) ?_ ?_
    · unfold ixN
      rw [List.length_map]
      first
        | rw [if_pos (by decide), if_pos (by omega)]; congr 1; omega
        | rw [if_neg (by omega), if_pos (by omega)]; congr 1; omega
    · rw [List.getElem?_map, List.getElem?_eq_getElem (by omega), List.getLast_eq_getElem]
      rfl
  show oR (atI _ _) = _
  rw [e]
  rfl
theorem words_lc {l : List Nat} (h : low l) (hl : l.length ≤ 16777000) {ρ : List D} (h4 : ρ.getD 4 .non = tS l) (h6 : 6 < ρ.length) : gLc (gIter (gT2 dSplit (gv 4) (gc (.str (cS [32]))))) (gtN 6) (gB (g2 dNe (gv 6) (gc (.str (cS []))))) (gv 6) ρ = .ok (.lst ((wd l).map tS)) := by
  refine gLc_filt (ed := tS) (xs := sp 32 l) (p := neB) (h := tS) ?_ fun w hw => ⟨ρ.set 6 (tS w), rfl, ?_, fun _ => ?_⟩
  · show (gT2 dSplit (gv 4) (gc (.str (cS [32]))) ρ >>= dIter) = _
    rw [gT2_of (l := l) (by show R.ok (ρ.getD 4 .non) = _; rw [h4]) rfl, show D.str (cS [32]) = tS [32] from rfl, split_eq 32 (by decide) hl]
    rfl
  · have lw : low w := fun c hc => h c ((sp_mem 32 l.length l (Nat.le_refl _) w hw).2.2 c hc)
    refine gB_bl ?_
    show (R.ok ((ρ.set 6 (tS w)).getD 6 .non) >>= fun a => R.ok (tS []) >>= fun b => dNe a b) = _
    rw [bind_ok, bind_ok, getD_set_eq h6, tNe lw low_nil]
    unfold neB
    rw [decide_not]
  · show R.ok ((ρ.set 6 (tS w)).getD 6 .non) = _
    rw [getD_set_eq h6]
theorem told_eq {t : List Nat} (h : low t) (hl : t.length ≤ 1000000) : f_told_lines [tS t] = .ok (.tup [.lst ((tlR 0 (popE (sp 10 t))).map enc), .int ((popE (sp 10 t)).length : Nat)]) := by
  have hsz : sizeLine = 16777216 := sizeLine_eq
  have e10 : Str.ofString "\n" = cS [10] := by decide +kernel
  have e0 : Str.ofString "" = cS [] := by decide +kernel
  have e32 : Str.ofString " " = cS [32] := by decide +kernel
  have e35 : Str.ofString "#" = cS [35] := by decide +kernel
  have ne := sp_pos 10 t
  have mem := sp_mem 10 t.length t (Nat.le_refl _)
  have len := sp_len 10 t.length t (Nat.le_refl _)
  rw [f_told_lines_run, g_told_lines, e10, e0, e32, e35]
  have spl := split_eq (l := t) 10 (by decide) (by omega)
  have last := ix_last ne
  have lq : low ((sp 10 t).getLast ne) := fun c hc => h c ((mem _ (List.getLast_mem ne)).2.2 c hc)
  have eq := tEq lq low_nil
  obtain ⟨P, eP⟩ : ∃ P, P = popE (sp 10 t) := ⟨_, rfl⟩
  have eP2 : P = if (sp 10 t).getLast ne = [] then (sp 10 t).dropLast else sp 10 t := by
    rw [eP]
    unfold popE
    rw [List.getLast?_eq_some_getLast ne]
    by_cases q : (sp 10 t).getLast ne = []
    · rw [if_pos q, if_pos (congrArg some q)]
    · rw [if_neg q, if_neg fun z => q (Option.some.inj z)]
  have memP : ∀ l ∈ P, low l ∧ l.length ≤ 1000000 := fun l hl1 => by
    have : l ∈ sp 10 t := by
      rw [eP2] at hl1
      split at hl1
      · exact List.dropLast_subset _ hl1
      · exact hl1
    obtain ⟨_, a, b⟩ := mem l this
    exact ⟨fun c hc => h c (b c hc), by omega⟩
  have lenP : P.length ≤ 1000001 := by
    rw [eP2]
    split
    · rw [List.length_dropLast]; omega
    · omega
  rw [← eP]
  refine run_of ?_
  refine W.step (ρ' := [tS t, .lst ((sp 10 t).map tS), .non, .non, .non, .non, .non]) (set_of ((gT2_of (l := t) rfl rfl).trans spl)) ?_
  refine W.bind (Q := fun ρ => ρ = [tS t, .lst (P.map tS), .non, .non, .non, .non, .non]) ?_ ?_
  · have cond : gB (g2 dEq (g2 dIx (gv 1) (g1 dNeg (gc (.int 1)))) (gc (.str (cS [])))) [tS t, .lst ((sp 10 t).map tS), .non, .non, .non, .non, .non] = .ok (decide ((sp 10 t).getLast ne = [])) := gB_bl (by
      show (dIx (.lst ((sp 10 t).map tS)) (.int (-1)) >>= fun a => R.ok (tS []) >>= fun b => dEq a b) = _
      rw [last, bind_ok, bind_ok, eq])
    unfold Stp gIte
    rw [cond, eP2]
    by_cases q : (sp 10 t).getLast ne = []
    · rw [decide_eq_true q, if_pos q]
      refine ⟨_, ?_, rfl⟩
      show (if 0 < ((sp 10 t).map tS).length then R.ok (Fl.nx [tS t, .lst ((sp 10 t).map tS).dropLast, .non, .non, .non, .non, .non]) else R.bad) = _
      rw [if_pos (by rw [List.length_map]; exact List.length_pos_iff.mpr ne), List.map_dropLast]
    · rw [decide_eq_false q, if_neg q]
      exact ⟨_, rfl, rfl⟩
  rintro ρ rfl
  refine W.step (ρ' := [tS t, .lst (P.map tS), .lst [], .non, .non, .non, .non]) (by rfl) ?_
  refine W.for (ds := enumD 0 (P.map tS)) (fun i ρ => ∃ (j3 : D) (j4 : D) (j5 : D) (j6 : D), ρ = [tS t, .lst (P.map tS), .lst ((tlR 0 (P.take i)).map enc), j3, j4, j5, j6]) (by
    show (if (P.map tS).length ≤ sizeLine then R.ok (enumD 0 (P.map tS)) else R.bad) = _
    rw [if_pos (by rw [List.length_map, hsz]; omega)]) ⟨_, _, _, _, rfl⟩ ?_ ?_
  · rintro i d hd ρ ⟨j3, j4, j5, j6, rfl⟩
    have hi : i < P.length := by
      have := (List.getElem?_eq_some_iff.mp hd).1
      rw [enumD_len, List.length_map] at this
      exact this
    have gl : P[i]? = some P[i] := List.getElem?_eq_getElem hi
    obtain ⟨l, el⟩ : ∃ l, l = P[i] := ⟨_, rfl⟩
    rw [← el] at gl
    have ed : d = .tup [.int (i : Nat), tS l] := by
      have := enumD_get (n := 0) (ds := P.map tS) (i := i) (d := tS l) (by rw [List.getElem?_map, gl]; rfl)
      rw [this, Nat.zero_add] at hd
      exact (Option.some.inj hd).symm
    subst ed
    obtain ⟨low1, len1⟩ := memP l (List.mem_of_getElem? gl)
    have tk : P.take (i + 1) = P.take i ++ [l] := by rw [List.take_add_one, gl]; rfl
    have sn := tlR_snoc l (P.take i) 0
    rw [← tk, List.length_take, Nat.min_eq_left (by omega), Nat.zero_add] at sn
    have lt := tlR_len (P.take i) 0
    rw [List.length_take] at lt
    refine ⟨[tS t, .lst (P.map tS), .lst ((tlR 0 (P.take i)).map enc), .int (i : Nat), tS l, j5, j6], rfl, ?_⟩
    refine W.step (ρ' := [tS t, .lst (P.map tS), .lst ((tlR 0 (P.take i)).map enc), .int (i : Nat), tS l, .lst ((wd l).map tS), j6]) (set_of (words_lc low1 (by omega) rfl (by simp))) ?_
    refine W.ite (p := cnt (wd l) = true) ?_ (fun z => ?_) (fun z => ?_)
    · cases e : wd l with
      | nil => rfl
      | cons w ws =>
        obtain ⟨ne1, _, _, _⟩ := wd_mem (a := l) (w := w) (by rw [e]; exact List.mem_cons_self)
        cases w with
        | nil => exact absurd rfl ne1
        | cons c r =>
          refine (gAnd_T (r := decide (cnt ((c :: r) :: ws) = true)) rfl ?_)
          have : gNot (gB (gT2 dStw (g2 dIx (gv 5) (gc (.int 0))) (gc (.str (cS [35]))))) [tS t, .lst (P.map tS), .lst ((tlR 0 (P.take i)).map enc), .int (i : Nat), tS l, .lst (((c :: r) :: ws).map tS), j6] = .ok (decide (¬ c = 35)) := gNot_dec (gB_bl ((gT2_of (l := c :: r) (e := tS [35]) (ixL_get (i := 0) rfl) rfl).trans (congrArg (fun b => R.ok (D.bl b)) stw_one)))
          rw [this]
          congr 1
          show _ = decide (decide (some c ≠ some 35) = true)
          exact decide_eq_decide.mpr ⟨fun a => decide_eq_true fun b => a (Option.some.inj b), fun a b => (of_decide_eq_true a) (congrArg some b)⟩
    · rw [if_pos z] at sn
      refine W.nx1 (ρ' := [tS t, .lst (P.map tS), .lst ((tlR 0 (P.take (i + 1))).map enc), .int (i : Nat), tS l, .lst ((wd l).map tS), j6]) (Eq.trans (gApp_s (ds := (tlR 0 (P.take i)).map enc) (d := enc (i, wd l)) rfl rfl (by rw [List.length_map, hsz]; omega)) (by rw [sn, List.map_append]; rfl)) ⟨_, _, _, _, rfl⟩
    · rw [if_neg z, List.append_nil] at sn
      refine W.nx ?_
      rw [← sn]
      exact ⟨_, _, _, _, rfl⟩
  · rintro ρ ⟨j3, j4, j5, j6, rfl⟩
    rw [enumD_len, List.length_map, List.take_of_length_le (Nat.le_refl _)]
    refine W.rt1 (d := .tup [.lst ((tlR 0 P).map enc), .int (P.length : Nat)]) ?_ rfl
    have ln : gAll dLen (gsC (gv 1) gsN) [tS t, .lst (P.map tS), .lst ((tlR 0 P).map enc), j3, j4, j5, j6] = .ok (.int (P.length : Nat)) := by
      rw [gAll1 rfl]
      show R.ok (D.int ((P.map tS).length : Nat)) = _
      rw [List.length_map]
    exact (gAllB rfl ln).trans (dTup_2 _ _)
theorem shl1 {d : Nat} (hd : d ≤ 1000) : dShl (.int 1) (.int d) = .ok (.int (2 ^ d)) := by
  have := dShl_s (i := 1) (j := d) (a := 1) (by decide) (by omega)
  rwa [Int.one_mul] at this
def rowD (r : List Nat) : D := .tup (r.map dN)
def rdR : List (Nat × List (List Nat)) → Option Hd → List (List Nat) → Nat ⊕ (Option Hd × List (List Nat))
  | [], hd, rows => .inr (hd, rows)
  | (n, ws) :: ls, none, rows => match headB ws with
    | none => .inl n
    | some x => rdR ls (some x) rows
  | (n, ws) :: ls, some x, rows => match numsB ws x.w 0 (2 ^ x.d - 1) with
    | none => .inl n
    | some r => if rows.length = x.h * x.n then .inl n else rdR ls (some x) (rows ++ [r])
def rdE (many : Nat) : Nat ⊕ (Option Hd × List (List Nat)) → Nat ⊕ (Hd × List (List Nat))
  | .inl n => .inl n
  | .inr (none, _) => .inl many
  | .inr (some x, rows) => if rows.length < x.h * x.n then .inl many else .inr (x, rows)
/-- what read makes of a text -/
def readO (t : List Nat) : Nat ⊕ (Hd × List (List Nat)) := rdE (popE (sp 10 t)).length (rdR (tlR 0 (popE (sp 10 t))) none [])
def chunks (h n : Nat) (rows : List (List Nat)) : List (List (List Nat)) := (List.range n).map fun i => (rows.drop (i * h)).take h
def plnD (pl : List (List Nat)) : D := .tup (pl.map rowD)
def pcD (x : Hd) (pls : List (List (List Nat))) : D := .tup [.int (x.w : Nat), .int (x.h : Nat), .int (x.d : Nat), .tup (pls.map plnD)]
theorem W.raiseR {C : Addr} {g : List D → R D} {ρ : List D} {d : D} {b : List D → R Fl} {k : Kt} (e : g ρ = .ok d) (h : k.ex ⟨C, [d]⟩) : W (gSeq (gRaiseR C g) b) ρ k := by
  unfold W gSeq gRaiseR
  rw [e]
  exact h
theorem rng3h {h n : Nat} (hh : 1 ≤ h ∧ h ≤ 40) (hn : n = 1 ∨ n = 3) : dRng3 [.int 0, .int ((h * n : Nat) : Int), .int (h : Nat)] = .ok (DL.intsFrom 0 (h : Nat) n) := by
  have b : h * n ≤ 120 := by rcases hn with e | e <;> subst e <;> omega
  rw [dRng3_s (by omega) (by omega) (by omega) (by omega) (by omega) (by omega)]
  congr 2
  have p : 0 < h * n := by rcases hn with e | e <;> subst e <;> omega
  rw [if_pos (by omega), show ((h * n : Nat) : Int) - 0 - 1 = ((h * n - 1 : Nat) : Int) by omega]
  have e : (h * n - 1) / h = n - 1 := by
    rcases hn with e | e <;> subst e
    · exact Nat.div_eq_of_lt (by omega)
    · exact Nat.div_eq_of_lt_le (by omega) (by omega)
  show Int.toNat ((((h * n - 1) / h : Nat) : Int) + 1) = n
  rw [e]
  omega
theorem dLen_l (ds : List D) : dLen [.lst ds] = .ok (.int (ds.length : Nat)) := rfl
theorem dTupF (ds : List D) : dTuple false [.lst ds] = .ok (.tup ds) := by
  show (if false = true → ds.all nlB = true then R.ok (D.tup ds) else R.bad) = _
  exact if_pos fun h => absurd h Bool.false_ne_true
theorem g2L {f : D → D → R D} {a b : List D → R D} {ρ : List D} {x y : D} (h1 : a ρ = .ok x) (h2 : b ρ = .ok y) : g2 f a b ρ = f x y := by
  show (a ρ >>= fun x => b ρ >>= fun y => f x y) = _
  rw [h1, h2]
  rfl
theorem gs3 {a b c : List D → R D} {ρ : List D} {x y z : D} (h1 : a ρ = .ok x) (h2 : b ρ = .ok y) (h3 : c ρ = .ok z) : gsC a (gsC b (gsC c gsN)) ρ = .ok [x, y, z] := by
  show (a ρ >>= fun d => (b ρ >>= fun d => (c ρ >>= fun d => gsN ρ >>= fun ds => R.ok (d :: ds)) >>= fun ds => R.ok (d :: ds)) >>= fun ds => R.ok (d :: ds)) = _
  rw [h1, h2, h3]
  rfl
theorem read_W (cx : Nat → Addr) {t : List Nat} (h : low t) (hl : t.length ≤ 1000000) {k : Kt} (h1 : ∀ x rows, readO t = .inr (x, rows) → HdOk x → rows.length = x.h * x.n → k.rt (pcD x (chunks x.h x.n rows))) (h2 : ∀ n, readO t = .inl n → k.ex ⟨cx 1, [.int (n : Nat)]⟩) : W (g_read cx) [tS t, .non, .non, .non, .non, .non, .non, .non, .non, .non] k := by
  have hsz : sizeLine = 16777216 := sizeLine_eq
  have te := told_eq h hl
  have mem := sp_mem 10 t.length t (Nat.le_refl _)
  have len := sp_len 10 t.length t (Nat.le_refl _)
  unfold readO at h1 h2
  obtain ⟨P, eP⟩ : ∃ P, P = popE (sp 10 t) := ⟨_, rfl⟩
  rw [← eP] at te h1 h2
  have subP : ∀ l ∈ P, l ∈ sp 10 t := fun l hl1 => by
    rw [eP] at hl1
    unfold popE at hl1
    split at hl1
    · exact List.dropLast_subset _ hl1
    · exact hl1
  have lenP : P.length ≤ 1000001 := by
    rw [eP]
    unfold popE
    split
    · rw [List.length_dropLast]; omega
    · omega
  obtain ⟨L, eL⟩ : ∃ L, L = tlR 0 P := ⟨_, rfl⟩
  have wokL : ∀ p ∈ L, wOk p.2 ∧ p.2 ≠ [] := fun p hp => by
    rw [eL] at hp
    obtain ⟨l, a, b, c⟩ := tlR_mem hp
    obtain ⟨_, m1, m2⟩ := mem l (subP l a)
    rw [b]
    refine ⟨⟨fun w hw => ?_, ?_⟩, fun z => ?_⟩
    · obtain ⟨_, _, w1, w2⟩ := wd_mem hw
      exact ⟨fun c hc => h c (m2 c (w2 c hc)), by omega⟩
    · have := wd_len l
      omega
    · rw [z] at c
      cases c
  have lenL : L.length ≤ 1000001 := by
    have := tlR_len P 0
    rw [← eL] at this
    omega
  rw [← eL] at te h1 h2
  unfold g_read
  have T0 : ∀ j1 j2 j3 j4 j5 j6 j7 j8 j9 : D, gAll f_told_lines (gsC (gv 0) gsN) [tS t, j1, j2, j3, j4, j5, j6, j7, j8, j9] = .ok (.tup [.lst (L.map enc), .int (P.length : Nat)]) := fun _ _ _ _ _ _ _ _ _ => (gAll1 rfl).trans te
  refine W.step (ρ' := [tS t, .non, .non, .non, .lst (L.map enc), .int (P.length : Nat), .non, .non, .non, .non]) (by
    unfold gUnp
    rw [T0]
    rfl) ?_
  refine W.step (ρ' := [tS t, .non, .non, .non, .lst (L.map enc), .int (P.length : Nat), .non, .non, .non, .non]) rfl ?_
  refine W.step (ρ' := [tS t, .non, .lst [], .non, .lst (L.map enc), .int (P.length : Nat), .non, .non, .non, .non]) (by rfl) ?_
  refine W.forM (ed := enc) (xs := L) (fun i ρ => ∃ (hd : Option Hd) (rows : List (List Nat)), (rdR L none [] = rdR (L.drop i) hd rows ∧ rows.length ≤ i ∧ (hd = none → rows = []) ∧ ∀ x, hd = some x → HdOk x ∧ rows.length ≤ x.h * x.n) ∧ ∃ (j6 : D) (j7 : D) (j8 : D) (j9 : D), ρ = [tS t, oH hd, .lst (rows.map rowD), .non, .lst (L.map enc), .int (P.length : Nat), j6, j7, j8, j9]) rfl ⟨none, [], ⟨rfl, Nat.le_refl _, fun _ => rfl, fun _ z => nomatch z⟩, _, _, _, _, rfl⟩ ?_ ?_
  · rintro i ⟨n, ws⟩ hi ρ ⟨hd, rows, ⟨inv, lr, em, ok⟩, j6, j7, j8, j9, rfl⟩
    obtain ⟨hil, ew⟩ := List.getElem?_eq_some_iff.mp hi
    have dr : L.drop i = (n, ws) :: L.drop (i + 1) := by rw [List.drop_eq_getElem_cons hil, ew]
    obtain ⟨wok, wne⟩ := wokL (n, ws) (List.mem_of_getElem? hi)
    rw [dr] at inv
    refine ⟨[tS t, oH hd, .lst (rows.map rowD), .non, .lst (L.map enc), .int (P.length : Nat), .int (n : Nat), .lst (ws.map tS), j8, j9], rfl, ?_⟩
    cases hd with
    | none =>
      have inv : rdR L none [] = match headB ws with
        | none => .inl n
        | some x => rdR (L.drop (i + 1)) (some x) rows := inv
      have he : f_head_by [.lst (ws.map tS)] = .ok (oH (headB ws)) := by
        cases ws with
        | nil => exact absurd rfl wne
        | cons w ws => exact head_eq wok
      refine W.iteST rfl (W.assoc (W.step (ρ' := [tS t, oH (headB ws), .lst (rows.map rowD), .non, .lst (L.map enc), .int (P.length : Nat), .int (n : Nat), .lst (ws.map tS), j8, j9]) (set_of ((gAll1 rfl).trans he)) (W.assoc ?_)))
      cases e : headB ws with
      | none =>
        rw [e] at inv
        refine W.iteST rfl (W.raiseR rfl (h2 n ?_))
        rw [inv]
        rfl
      | some x =>
        rw [e] at inv
        have xo := headB_ok e
        have r0 : rows.length ≤ x.h * x.n := by
          rw [em rfl]
          exact Nat.zero_le _
        exact W.iteSF rfl (W.nxS (W.ctS ⟨some x, rows, ⟨inv, by omega, (fun z => nomatch z), fun y q => by cases q; exact ⟨xo, r0⟩⟩, _, _, _, _, rfl⟩))
    | some x =>
      obtain ⟨xo, r0⟩ := ok x rfl
      have inv : rdR L none [] = match numsB ws x.w 0 (2 ^ x.d - 1) with
        | none => .inl n
        | some r => if rows.length = x.h * x.n then .inl n else rdR (L.drop (i + 1)) (some x) (rows ++ [r]) := inv
      refine W.iteSF rfl (W.nxS ?_)
      have nb := numbers_eq (ws := ws) (many := x.w) (lo := 0) (hi := 2 ^ x.d - 1) wok.1 wok.2
      have sh := shl1 (d := x.d) (by have := xo.d; omega)
      have pw : (2 ^ x.d : Int) - 1 = ((2 ^ x.d - 1 : Nat) : Int) := by
        have : 1 ≤ 2 ^ x.d := Nat.one_le_two_pow
        rw [Int.natCast_sub this, Int.natCast_pow]
        rfl
      refine W.step (ρ' := [tS t, hdD x, .lst (rows.map rowD), .non, .lst (L.map enc), .int (P.length : Nat), .int (n : Nat), .lst (ws.map tS), oL (numsB ws x.w 0 (2 ^ x.d - 1)), j9]) (set_of (by
        show (gsC (gv 7) (gsC (g2 dIx (gv 1) (gc (.int 0))) (gsC (gc (.int 0)) (gsC (g2 dSub (g2 dShl (gc (.int 1)) (g2 dIx (gv 1) (gc (.int 2)))) (gc (.int 1))) gsN))) _ >>= f_numbers_by) = _
        have e : gsC (gv 7) (gsC (g2 dIx (gv 1) (gc (.int 0))) (gsC (gc (.int 0)) (gsC (g2 dSub (g2 dShl (gc (.int 1)) (g2 dIx (gv 1) (gc (.int 2)))) (gc (.int 1))) gsN))) [tS t, hdD x, .lst (rows.map rowD), .non, .lst (L.map enc), .int (P.length : Nat), .int (n : Nat), .lst (ws.map tS), j8, j9] = .ok [.lst (ws.map tS), .int (x.w : Nat), .int (0 : Nat), .int ((2 ^ x.d - 1 : Nat) : Int)] := by
          rw [← pw]
          have i0 : dIx (hdD x) (.int 0) = .ok (.int (x.w : Nat)) := rfl
          have i2 : dIx (hdD x) (.int 2) = .ok (.int (x.d : Nat)) := rfl
          generalize hdD x = HX at *
          generalize D.lst (ws.map tS) = WS at *
          simp_arith only [i0, i2, sh]
          rfl
        exact (congrArg (fun z => z >>= f_numbers_by) e).trans nb)) ?_
      have mu : dMul (.int (x.h : Nat)) (.int (x.n : Nat)) = .ok (.int ((x.h * x.n : Nat) : Int)) := by
        rw [dMul_r (by omega) (by rcases xo.n with e | e <;> rw [e] <;> decide), Int.natCast_mul]
      cases e : numsB ws x.w 0 (2 ^ x.d - 1) with
      | none =>
        rw [e] at inv
        refine W.iteST (gOr_T rfl) (W.raiseR rfl (h2 n ?_))
        rw [inv]
        rfl
      | some r =>
        rw [e] at inv
        have inv : rdR L none [] = if rows.length = x.h * x.n then .inl n else rdR (L.drop (i + 1)) (some x) (rows ++ [r]) := inv
        refine W.iteS (p := rows.length = x.h * x.n) (gOr_F rfl (gB_bl (by
          have x1 : g2 dIx (gv 1) (gc (.int 1)) [tS t, hdD x, .lst (rows.map rowD), .non, .lst (L.map enc), .int (P.length : Nat), .int (n : Nat), .lst (ws.map tS), rowD r, j9] = .ok (.int (x.h : Nat)) := rfl
          have x3 : g2 dIx (gv 1) (gc (.int 3)) [tS t, hdD x, .lst (rows.map rowD), .non, .lst (L.map enc), .int (P.length : Nat), .int (n : Nat), .lst (ws.map tS), rowD r, j9] = .ok (.int (x.n : Nat)) := rfl
          have e2 := (g2L (f := dMul) x1 x3).trans mu
          have e1 : gAll dLen (gsC (gv 2) gsN) [tS t, hdD x, .lst (rows.map rowD), .non, .lst (L.map enc), .int (P.length : Nat), .int (n : Nat), .lst (ws.map tS), rowD r, j9] = .ok (.int (rows.length : Nat)) := by
            refine (gAll1 rfl).trans ?_
            show dLen [.lst (rows.map rowD)] = _
            rw [dLen_l, List.length_map]
          refine (g2L e1 e2).trans ?_
          rw [dEq_i]
          exact congrArg (fun b => R.ok (D.bl b)) (decide_eq_decide.mpr (by omega))))) (fun z => ?_) (fun z => W.nxS ?_)
        · rw [if_pos z] at inv
          refine W.raiseR rfl (h2 n ?_)
          rw [inv]
          rfl
        · rw [if_neg z] at inv
          refine W.nx1 (ρ' := [tS t, hdD x, .lst ((rows ++ [r]).map rowD), .non, .lst (L.map enc), .int (P.length : Nat), .int (n : Nat), .lst (ws.map tS), rowD r, j9]) (Eq.trans (gApp_s (ds := rows.map rowD) (d := rowD r) rfl rfl (by rw [List.length_map, hsz]; omega)) (by rw [List.map_append]; rfl)) ⟨some x, rows ++ [r], ⟨inv, by rw [List.length_append]; show rows.length + 1 ≤ _; omega, (fun z => nomatch z), fun y q => by cases q; exact ⟨xo, by rw [List.length_append]; show rows.length + 1 ≤ _; omega⟩⟩, _, _, _, _, rfl⟩
  · rintro ρ ⟨hd, rows, ⟨inv, lr, em, ok⟩, j6, j7, j8, j9, rfl⟩
    rw [List.drop_of_length_le (Nat.le_refl _)] at inv
    have inv : rdR L none [] = .inr (hd, rows) := inv
    rw [inv] at h1 h2
    cases hd with
    | none => exact W.iteST (gOr_T rfl) (W.raiseR rfl (h2 P.length rfl))
    | some x =>
      obtain ⟨xo, r0⟩ := ok x rfl
      have mu : dMul (.int (x.h : Nat)) (.int (x.n : Nat)) = .ok (.int ((x.h * x.n : Nat) : Int)) := by
        rw [dMul_r (by omega) (by rcases xo.n with e | e <;> rw [e] <;> decide), Int.natCast_mul]
      have x1 : g2 dIx (gv 1) (gc (.int 1)) [tS t, hdD x, .lst (rows.map rowD), .non, .lst (L.map enc), .int (P.length : Nat), j6, j7, j8, j9] = .ok (.int (x.h : Nat)) := rfl
      have x3 : g2 dIx (gv 1) (gc (.int 3)) [tS t, hdD x, .lst (rows.map rowD), .non, .lst (L.map enc), .int (P.length : Nat), j6, j7, j8, j9] = .ok (.int (x.n : Nat)) := rfl
      have e2 := (g2L (f := dMul) x1 x3).trans mu
      have e1 : gAll dLen (gsC (gv 2) gsN) [tS t, hdD x, .lst (rows.map rowD), .non, .lst (L.map enc), .int (P.length : Nat), j6, j7, j8, j9] = .ok (.int (rows.length : Nat)) := by
        refine (gAll1 rfl).trans ?_
        show dLen [.lst (rows.map rowD)] = _
        rw [dLen_l, List.length_map]
      refine W.iteS (p := rows.length < x.h * x.n) (gOr_F rfl (gB_bl (by
        refine (g2L e1 e2).trans ?_
        rw [dLt_i]
        exact congrArg (fun b => R.ok (D.bl b)) (decide_eq_decide.mpr (by omega))))) (fun z => ?_) (fun z => W.nxS ?_)
      · refine W.raiseR rfl (h2 P.length ?_)
        show (if rows.length < x.h * x.n then Sum.inl P.length else .inr (x, rows)) = _
        rw [if_pos z]
      · have hn : rows.length = x.h * x.n := by omega
        have rg := rng3h (h := x.h) (n := x.n) xo.h xo.n
        have lc : gLc (gI dRng3 (gsC (gc (.int 0)) (gsC (gAll dLen (gsC (gv 2) gsN)) (gsC (g2 dIx (gv 1) (gc (.int 1))) gsN)))) (gtN 9) gtt (gAll (dTuple false) (gsC (gSl true (gv 2) (goS (gv 9)) (goS (g2 dAdd (gv 9) (g2 dIx (gv 1) (gc (.int 1)))))) gsN)) [tS t, hdD x, .lst (rows.map rowD), .non, .lst (L.map enc), .int (P.length : Nat), j6, j7, j8, j9] = .ok (.lst ((chunks x.h x.n rows).map plnD)) := by
          refine (gLc_rng (lo := 0) (c := (x.h : Nat)) (n := x.n) (h := fun i => plnD ((rows.drop (i * x.h)).take x.h)) ?_ fun i hi => ⟨[tS t, hdD x, .lst (rows.map rowD), .non, .lst (L.map enc), .int (P.length : Nat), j6, j7, j8, .int ((i * x.h : Nat) : Int)], by
            rw [show (0 : Int) + (i : Int) * (x.h : Nat) = ((i * x.h : Nat) : Int) by rw [Int.natCast_mul]; omega]
            rfl, ?_⟩).trans (by unfold chunks; rw [List.map_map]; rfl)
          · show (gsC (gc (.int 0)) (gsC (gAll dLen (gsC (gv 2) gsN)) (gsC (g2 dIx (gv 1) (gc (.int 1))) gsN)) _ >>= dRng3) = _
            rw [gs3 (x := .int 0) (z := .int (x.h : Nat)) rfl e1 x1, hn]
            exact rg
          · have sl : dSl true (.lst (rows.map rowD)) (some ((i * x.h : Nat) : Int)) (some (((i * x.h : Nat) : Int) + (x.h : Nat))) = .ok (.lst (((rows.drop (i * x.h)).take x.h).map rowD)) := by
              show (if true = true → (rows.map rowD).all nlB = true then R.ok (D.lst (cutD _ _ _)) else R.bad) = _
              rw [if_pos fun _ => List.all_eq_true.mpr fun d hd => by obtain ⟨r, _, rfl⟩ := List.mem_map.mp hd; rfl, cutD_at _ (by omega) (by omega)]
              rw [show (((i * x.h : Nat) : Int) + (x.h : Nat)).toNat - ((i * x.h : Nat) : Int).toNat = x.h by omega, Int.toNat_natCast, List.map_take, List.map_drop]
            refine (gAll1 (d := .lst (((rows.drop (i * x.h)).take x.h).map rowD)) ?_).trans (dTupF _)
            exact sl
        refine W.step (ρ' := [tS t, hdD x, .lst (rows.map rowD), .lst ((chunks x.h x.n rows).map plnD), .lst (L.map enc), .int (P.length : Nat), j6, j7, j8, j9]) (set_of lc) ?_
        refine W.rt1 (d := pcD x (chunks x.h x.n rows)) ?_ (h1 x rows (by
          show (if rows.length < x.h * x.n then Sum.inl P.length else .inr (x, rows)) = _
          rw [if_neg z]) xo hn)
        rfl
theorem whole_eq (n : Int) : f__law_whole [.int n] = .ok (.bl true) := by
  rw [f__law_whole_run, g__law_whole]
  simp_arith only []
def primes : List Int := [99991, 99989, 99971, 99961, 99929, 99923, 99907, 99901, 99881, 99877, 99871]
def mixI (c k m : Int) : Int :=
  let made := (c + 7 * k) * 48271 % primes[(k % 11).toNat]!
  (made * made * 7 + made + k) % 1000003 % m
theorem primes_at (k : Int) : ∃ p, primes[(k % 11).toNat]! = p ∧ dIx (.lst (primes.map .int)) (.int (k % 11)) = .ok (.int p) ∧ 99871 ≤ p ∧ p ≤ 99991 := by
  have h0 : 0 ≤ k % 11 := by omega
  have h1 : k % 11 < 11 := by omega
  generalize k % 11 = j at *
  have : j = 0 ∨ j = 1 ∨ j = 2 ∨ j = 3 ∨ j = 4 ∨ j = 5 ∨ j = 6 ∨ j = 7 ∨ j = 8 ∨ j = 9 ∨ j = 10 := by omega
  rcases this with h | h | h | h | h | h | h | h | h | h | h <;> subst h <;> exact ⟨_, rfl, rfl, by decide, by decide⟩
theorem mixed_eq (c k m : Int) (hk : 0 ≤ k) (hk' : k < 2 ^ 60) (hm : 0 < m) : f__law_mixed [.int c, .int k, .int m] = .ok (.int (mixI c k m)) := by
  obtain ⟨p, h1, h2, h3, h4⟩ := primes_at k
  have h2' : dIx (D.lst [.int 99991, .int 99989, .int 99971, .int 99961, .int 99929, .int 99923, .int 99907, .int 99901, .int 99881, .int 99877, .int 99871]) (.int (k % 11)) = .ok (.int p) := h2
  have b1 : 0 ≤ (c + 7 * k) * 48271 % p := Int.emod_nonneg _ (by omega)
  have b2 : (c + 7 * k) * 48271 % p < p := Int.emod_lt_of_pos _ (by omega)
  have e1 : dMul (.int 7) (.int k) = .ok (.int (7 * k)) := dMul_l (by omega) (by omega)
  have e2 : dMul (.int (c + 7 * k)) (.int 48271) = .ok (.int ((c + 7 * k) * 48271)) := dMul_r (by omega) (by omega)
  have e3 : dMod (.int ((c + 7 * k) * 48271)) (.int p) = .ok (.int ((c + 7 * k) * 48271 % p)) := dMod_s (by omega)
  generalize hq : (c + 7 * k) * 48271 % p = made at *
  have e4 : dMul (.int made) (.int made) = .ok (.int (made * made)) := dMul_l (by omega) (by omega)
  have e5 : dMul (.int (made * made)) (.int 7) = .ok (.int (made * made * 7)) := dMul_r (by omega) (by omega)
  have e6 : dMod (.int ((made * made * 7 + made + k) % 1000003)) (.int m) = .ok (.int ((made * made * 7 + made + k) % 1000003 % m)) := dMod_s hm
  rw [f__law_mixed_run, g__law_mixed]
  simp_arith only [dLst_s (show ([D.int 99991, .int 99989, .int 99971, .int 99961, .int 99929, .int 99923, .int 99907, .int 99901, .int 99881, .int 99877, .int 99871] : List D).length ≤ sizeLine by decide), e1, e2, e3, e4, e5, e6, h2']
  unfold mixI
  rw [h1, hq]
theorem mixI_lt (c k m : Int) (h : 0 < m) : 0 ≤ mixI c k m ∧ mixI c k m < m := ⟨Int.emod_nonneg _ (by omega), Int.emod_lt_of_pos _ h⟩
theorem ix4 {a b c d : D} {k : Int} (h0 : 0 ≤ k) (h1 : k < 4) : dIx (.lst [a, b, c, d]) (.int k) = .ok (if k = 0 then a else if k = 1 then b else if k = 2 then c else d) := by
  have : k = 0 ∨ k = 1 ∨ k = 2 ∨ k = 3 := by omega
  rcases this with h | h | h | h <;> subst h <;> rfl
theorem lst_s {ds : List D} (h : ds.length ≤ 1000) : dLst ds = .ok (.lst ds) := dLst_s (by rw [sizeLine_eq]; omega)
theorem tup_s {ds : List D} (h : ds.length ≤ 1000) : dTup ds = .ok (.tup ds) := dTup_s (by rw [sizeLine_eq]; omega)
theorem gSeq_ex2 {a b : List D → R Fl} {ρ : List D} {C : R D → Prop} {P : List D → Prop} (h : Stp a ρ P) (h2 : ∀ ρ', P ρ' → C (b ρ' >>= finF)) : C (gSeq a b ρ >>= finF) := by
  obtain ⟨ρ', e, p⟩ := h
  rw [gSeq_nx e]
  exact h2 ρ' p
def encR (r : List Int) : D := .tup (r.map .int)
def encP (pl : List (List Int)) : D := .tup (pl.map encR)
theorem cell_at_eq (ns : List Int) (k : Int) (h : 0 ≤ k) : f__law_cell_at [.lst (ns.map .int), .int k] = .ok (.int (ns.getD k.toNat 0)) := by
  have hl : dLen [.lst (ns.map D.int)] = .ok (.int ns.length) := by show R.ok (D.int _) = _; rw [List.length_map]
  rw [f__law_cell_at_run, g__law_cell_at]
  by_cases c : k < ns.length
  · simp_arith only [hl, c, decide_true, ix_int h c]
  · have e : ns.getD k.toNat 0 = 0 := by rw [List.getD_eq_getElem?_getD, List.getElem?_eq_none (by omega)]; rfl
    simp_arith only [hl, c, decide_false, e]
theorem power_eq (m : Nat) (hm : m ≤ 1000) : f__law_power [.int m] = .ok (.int (2 ^ m)) := by
  rw [f__law_power_run, g__law_power]
  rw [gSeq_nx (ρ' := [.int m, .int 1, .non]) (by simp_arith only [])]
  have rg : dRng1 [.int m] = .ok (DL.intsFrom 0 1 m) := by rw [dRng1_s (by omega) (by omega), Int.toNat_natCast]
  refine gSeq_ex (P := fun ρ => ∃ a2, ρ = [.int m, .int (2 ^ m), a2]) (gFor_rng (lo := 0) (c := 1) (n := m) (P := fun i ρ => ∃ a2, ρ = [.int m, .int (2 ^ i), a2]) (by simp_arith only [rg]) ⟨_, rfl⟩ ?_) ?_
  · rintro i hi ρ ⟨a2, rfl⟩
    refine ⟨_, rfl, Stp.done (ρ1 := [.int m, .int (2 ^ (i + 1)), .int (0 + i * 1)]) ?_ ⟨_, rfl⟩⟩
    simp_arith only []
    rw [show ((2 : Int) ^ (i + 1)) = 2 ^ i + 2 ^ i by rw [Int.pow_succ]; omega]
  · rintro ρ ⟨a2, rfl⟩
    rfl
theorem point_eq (c kind row col most : Int) (hr : 0 ≤ row) (hr' : row ≤ 1000) (hc : 0 ≤ col) (hc' : col ≤ 1000) (hm : 0 ≤ most) (hm' : most ≤ 1000000) : ∃ p : Int, (0 ≤ p ∧ p ≤ most) ∧ f__law_point [.int c, .int kind, .int row, .int col, .int most] = .ok (.int p) := by
  rw [f__law_point_run, g__law_point]
  have m3 : dMul (.int 3) (.int col) = .ok (.int (3 * col)) := dMul_l (by omega) (by omega)
  have m5 : dMul (.int 5) (.int col) = .ok (.int (5 * col)) := dMul_l (by omega) (by omega)
  have m2 : dMul (.int 2) (.int (col / 4)) = .ok (.int (2 * (col / 4))) := dMul_l (by omega) (by omega)
  have x0 := mixed_eq c (row + 3 * col) (most + 1) (by omega) (by omega) (by omega)
  have b0 := mixI_lt c (row + 3 * col) (most + 1) (by omega)
  have x1 := mixed_eq c 1 4 (by omega) (by omega) (by omega)
  have x2 := mixed_eq c 2 4 (by omega) (by omega) (by omega)
  have x3 := mixed_eq c 3 (most + 1) (by omega) (by omega) (by omega)
  have x4 := mixed_eq c (row / 3 + 2 * (col / 4)) 4 (by omega) (by omega) (by omega)
  have b4 := mixI_lt c (row / 3 + 2 * (col / 4)) 4 (by omega)
  have x5 := mixed_eq c (row + 5 * col) 5 (by omega) (by omega) (by omega)
  generalize mixI c (row + 3 * col) (most + 1) = y0 at *
  generalize mixI c 1 4 = y1 at *
  generalize mixI c 2 4 = y2 at *
  generalize mixI c 3 (most + 1) = y3 at *
  generalize mixI c (row / 3 + 2 * (col / 4)) 4 = y4 at *
  generalize mixI c (row + 5 * col) 5 = y5 at *
  have n1 : dMul (.int row) (.int y1) = .ok (.int (row * y1)) := dMul_l (by omega) (by omega)
  have n2 : dMul (.int col) (.int y2) = .ok (.int (col * y2)) := dMul_l (by omega) (by omega)
  have md : ∀ z : Int, dMod (.int z) (.int (most + 1)) = .ok (.int (z % (most + 1))) := fun z => dMod_s (by omega)
  have l4 : ∀ a b c' d : D, dLst [a, b, c', d] = .ok (.lst [a, b, c', d]) := fun _ _ _ _ => lst_s (by simp)
  by_cases k0 : kind = 0
  · exact ⟨y0, by omega, by simp_arith only [k0, decide_true, m3, x0]⟩
  by_cases k1 : kind = 1
  · subst k1
    refine ⟨(row * y1 + col * y2 + y3) % (most + 1), ⟨Int.emod_nonneg _ (by omega), by have := Int.emod_lt_of_pos (row * y1 + col * y2 + y3) (show 0 < most + 1 by omega); omega⟩, ?_⟩
    simp_arith only [show ¬ ((1 : Int) = 0) by omega, decide_true, decide_false, x1, x2, x3, n1, n2, md]
  by_cases k2 : kind = 2
  · subst k2
    obtain ⟨v, hv⟩ : ∃ v : Int, dIx (.lst [.int 0, .int most, .int (most / 2), .int 1]) (.int y4) = .ok (.int v) := by
      rw [ix4 (by omega) (by omega)]
      split
      · exact ⟨_, rfl⟩
      split
      · exact ⟨_, rfl⟩
      split <;> exact ⟨_, rfl⟩
    refine ⟨v % (most + 1), ⟨Int.emod_nonneg _ (by omega), by have := Int.emod_lt_of_pos v (show 0 < most + 1 by omega); omega⟩, ?_⟩
    simp_arith only [show ¬ ((2 : Int) = 0) by omega, show ¬ ((2 : Int) = 1) by omega, decide_true, decide_false, m2, x4, l4, hv, md]
  · refine ⟨min most (max 0 (most / 2 + y5 - 2)), by omega, ?_⟩
    simp_arith only [k0, k1, k2, decide_false, m5, x5]
/-- a picture came out -/
def PicR (r : R D) : Prop := ∃ (w h depth : Nat) (planes : List (List (List Int))), (1 ≤ w ∧ w ≤ 40) ∧ (1 ≤ h ∧ h ≤ 40) ∧ (1 ≤ depth ∧ depth ≤ 8) ∧ (planes.length = 1 ∨ planes.length = 3) ∧
    (∀ pl ∈ planes, pl.length = h ∧ ∀ r ∈ pl, r.length = w ∧ ∀ p ∈ r, 0 ≤ p ∧ p ≤ 2 ^ depth - 1) ∧ r = .ok (.tup [.int w, .int h, .int depth, .tup (planes.map encP)])
theorem picture_eq (ns : List Int) (first : Nat) (hl : ns.length ≤ 63) : PicR (f__law_picture [.lst (ns.map .int), .int first]) := by
  have hsz : sizeLine = 16777216 := sizeLine_eq
  rw [f__law_picture_run, g__law_picture]
  have hcell := cell_at_eq ns first (by omega)
  generalize hcd : ns.getD (first : Int).toNat 0 = c at *
  have hsl : dSl false (.lst (ns.map D.int)) (some ((first : Int) + 1)) none = .ok (.lst ((ns.drop (first + 1)).map .int)) := by
    rw [dSl_l, cutD_from _ (by omega), List.map_drop, show ((first : Int) + 1).toNat = first + 1 by omega]
  have hadd : dAdd (.lst ((ns.drop (first + 1)).map .int)) (.lst [.int c]) = .ok (.lst ((ns.drop (first + 1) ++ [c]).map .int)) := dAdd_ints (ns := ns.drop (first + 1)) (ms := [c]) (by rw [List.length_drop]; simp; omega)
  have hcl : 1 ≤ (ns.drop (first + 1) ++ [c]).length ∧ (ns.drop (first + 1) ++ [c]).length ≤ 64 := by rw [List.length_append, List.length_drop, List.length_singleton]; omega
  generalize ns.drop (first + 1) ++ [c] = cells at *
  generalize hS : D.lst (ns.map D.int) = S at *
  have x1 := mixed_eq c 1 9 (by omega) (by omega) (by omega)
  have b1 := mixI_lt c 1 9 (by omega)
  have x2 := mixed_eq c 2 7 (by omega) (by omega) (by omega)
  have b2 := mixI_lt c 2 7 (by omega)
  have x3 := mixed_eq c 3 16 (by omega) (by omega) (by omega)
  have x4 := mixed_eq c 4 4 (by omega) (by omega) (by omega)
  have b4 := mixI_lt c 4 4 (by omega)
  have x5 := mixed_eq c 5 8 (by omega) (by omega) (by omega)
  have b5 := mixI_lt c 5 8 (by omega)
  have x6 := mixed_eq c 6 2 (by omega) (by omega) (by omega)
  have b6 := mixI_lt c 6 2 (by omega)
  have x7 : ∀ i : Nat, i < 3 → ∃ y, f__law_mixed [.int c, .int (7 + (0 + (i : Int) * 1)), .int 4] = .ok (.int y) := fun i hi => ⟨_, mixed_eq c _ 4 (by omega) (by omega) (by omega)⟩
  generalize mixI c 1 9 = y1 at *
  generalize mixI c 2 7 = y2 at *
  generalize mixI c 3 16 = y3 at *
  generalize mixI c 4 4 = y4 at *
  generalize mixI c 5 8 = y5 at *
  generalize mixI c 6 2 = y6 at *
  rw [gSeq_nx (ρ' := [S, .int first, .int c, .non, .non, .non, .non, .non, .non, .non, .non, .non, .non, .non, .non]) (by simp_arith only [hcell])]
  rw [gSeq_nx (ρ' := [S, .int first, .int c, .int (1 + y1), .non, .non, .non, .non, .non, .non, .non, .non, .non, .non, .non]) (by simp_arith only [x1])]
  rw [gSeq_nx (ρ' := [S, .int first, .int c, .int (1 + y1), .int (1 + y2), .non, .non, .non, .non, .non, .non, .non, .non, .non, .non]) (by simp_arith only [x2])]
  have l4 : ∀ a b c' d : D, dLst [a, b, c', d] = .ok (.lst [a, b, c', d]) := fun _ _ _ _ => lst_s (by simp)
  have t2 : ∀ a b : D, dTup [a, b] = .ok (.tup [a, b]) := fun _ _ => tup_s (by simp)
  obtain ⟨w4, h4, q1, q2, q3, q4, e4⟩ : ∃ w4 h4 : Int, 1 ≤ w4 ∧ w4 ≤ 40 ∧ 1 ≤ h4 ∧ h4 ≤ 40 ∧ dIx (.lst [.tup [.int 40, .int 1], .tup [.int 1, .int 40], .tup [.int 33, .int 2], .tup [.int 40, .int 2]]) (.int y4) = .ok (.tup [.int w4, .int h4]) := by
    rw [ix4 (by omega) (by omega)]
    split
    · exact ⟨_, _, by omega, by omega, by omega, by omega, rfl⟩
    split
    · exact ⟨_, _, by omega, by omega, by omega, by omega, rfl⟩
    split
    · exact ⟨_, _, by omega, by omega, by omega, by omega, rfl⟩
    · exact ⟨_, _, by omega, by omega, by omega, by omega, rfl⟩
  obtain ⟨w, h, hw, hh, hgo⟩ : ∃ w h : Nat, (1 ≤ w ∧ w ≤ 40) ∧ (1 ≤ h ∧ h ≤ 40) ∧ (gIte (gB (g2 dEq (gAll f__law_mixed (gsC (gv 2) (gsC (gc (.int 3)) (gsC (gc (.int 16)) gsN)))) (gc (.int 1))))
      (gUnp (g2 dIx (gAll dLst (gsC (gAll dTup (gsC (gc (.int 40)) (gsC (gc (.int 1)) gsN))) (gsC (gAll dTup (gsC (gc (.int 1)) (gsC (gc (.int 40)) gsN))) (gsC (gAll dTup (gsC (gc (.int 33)) (gsC (gc (.int 2)) gsN))) (gsC (gAll dTup (gsC (gc (.int 40)) (gsC (gc (.int 2)) gsN))) gsN))))) (gAll f__law_mixed (gsC (gv 2) (gsC (gc (.int 4)) (gsC (gc (.int 4)) gsN))))) (gtT (gtsC (gtN 3) (gtsC (gtN 4) gtsN))))
      gNx) [S, .int first, .int c, .int (1 + y1), .int (1 + y2), .non, .non, .non, .non, .non, .non, .non, .non, .non, .non] = .ok (.nx [S, .int first, .int c, .int w, .int h, .non, .non, .non, .non, .non, .non, .non, .non, .non, .non]) := by
    by_cases k : y3 = 1
    · refine ⟨w4.toNat, h4.toNat, by omega, by omega, ?_⟩
      rw [Int.toNat_of_nonneg (by omega), Int.toNat_of_nonneg (by omega)]
      simp_arith only [x3, x4, k, decide_true, t2, l4, e4, Option.bind]
    · refine ⟨(1 + y1).toNat, (1 + y2).toNat, by omega, by omega, ?_⟩
      rw [Int.toNat_of_nonneg (by omega), Int.toNat_of_nonneg (by omega)]
      simp_arith only [x3, k, decide_false]
  rw [gSeq_nx hgo]
  obtain ⟨dp, hdp, hd5⟩ : ∃ dp : Nat, (1 ≤ dp ∧ dp ≤ 8) ∧ 1 + y5 = dp := ⟨(1 + y5).toNat, by omega, by omega⟩
  have hpw := power_eq dp (by omega)
  have hmost : (0 : Int) ≤ 2 ^ dp - 1 ∧ (2 : Int) ^ dp - 1 ≤ 255 := by
    have : dp = 1 ∨ dp = 2 ∨ dp = 3 ∨ dp = 4 ∨ dp = 5 ∨ dp = 6 ∨ dp = 7 ∨ dp = 8 := by omega
    rcases this with e | e | e | e | e | e | e | e <;> subst e <;> decide
  generalize hgp : (2 : Int) ^ dp = pw at hpw hmost
  rw [gSeq_nx (ρ' := [S, .int first, .int c, .int w, .int h, .int dp, .non, .non, .non, .non, .non, .non, .non, .non, .non]) (by simp_arith only [x5, hd5])]
  rw [gSeq_nx (ρ' := [S, .int first, .int c, .int w, .int h, .int dp, .int (pw - 1), .non, .non, .non, .non, .non, .non, .non, .non]) (by simp_arith only [hpw])]
  rw [gSeq_nx (ρ' := [S, .int first, .int c, .int w, .int h, .int dp, .int (pw - 1), .lst (cells.map .int), .non, .non, .non, .non, .non, .non, .non]) (by simp_arith only [hsl, lst_s (show ([D.int c] : List D).length ≤ 1000 by simp), hadd])]
  rw [gSeq_nx (ρ' := [S, .int first, .int c, .int w, .int h, .int dp, .int (pw - 1), .lst (cells.map .int), .lst [], .non, .non, .non, .non, .non, .non]) (by simp_arith only [lst_s (show ([] : List D).length ≤ 1000 by simp)])]
  obtain ⟨np, hnp, enp⟩ : ∃ np : Nat, (np = 1 ∨ np = 3) ∧ dIx (.lst [.int 1, .int 3]) (.int y6) = .ok (.int np) := by
    have : y6 = 0 ∨ y6 = 1 := by omega
    rcases this with e | e <;> subst e
    · exact ⟨1, .inl rfl, rfl⟩
    · exact ⟨3, .inr rfl, rfl⟩
  have rg : ∀ m : Nat, m ≤ 1000 → dRng1 [.int m] = .ok (DL.intsFrom 0 1 m) := fun m hm => by rw [dRng1_s (by omega) (by omega), Int.toNat_natCast]
  have rgw : dRng1 [.int w] = .ok ((List.range w).map fun (i : Nat) => D.int (0 + (i : Int) * 1)) := rg w (by omega)
  let Ok : List (List Int) → Prop := fun rows => ∀ r ∈ rows, r.length = w ∧ ∀ p ∈ r, 0 ≤ p ∧ p ≤ pw - 1
  have hlen : dLen [.lst (cells.map D.int)] = .ok (.int cells.length) := by show R.ok (D.int _) = _; rw [List.length_map]
  refine gSeq_ex2 (C := PicR) (P := fun ρ => ∃ (planes : List (List (List Int))) (a9 a10 a11 a12 a13 a14 : D), planes.length = np ∧ (∀ pl ∈ planes, pl.length = h ∧ Ok pl) ∧ ρ = [S, .int first, .int c, .int w, .int h, .int dp, .int (pw - 1), .lst (cells.map .int), .lst (planes.map encP), a9, a10, a11, a12, a13, a14])
    (gFor_rng (lo := 0) (c := 1) (n := np) (P := fun i ρ => ∃ (planes : List (List (List Int))) (a9 a10 a11 a12 a13 a14 : D), planes.length = i ∧ (∀ pl ∈ planes, pl.length = h ∧ Ok pl) ∧ ρ = [S, .int first, .int c, .int w, .int h, .int dp, .int (pw - 1), .lst (cells.map .int), .lst (planes.map encP), a9, a10, a11, a12, a13, a14])
      (by simp_arith only [x6, lst_s (show ([D.int 1, D.int 3] : List D).length ≤ 1000 by simp), enp, rg np (by omega)]) ⟨[], _, _, _, _, _, _, rfl, (fun _ q => nomatch q), rfl⟩ ?_) ?_
  · rintro i hi ρ ⟨planes, a9, a10, a11, a12, a13, a14, hpl, hok, rfl⟩
    refine ⟨_, rfl, ?_⟩
    obtain ⟨y7, e7⟩ := x7 i (by omega)
    have m7 : dMul (.int 7) (.int (0 + (i : Int) * 1)) = .ok (.int (7 * (0 + (i : Int) * 1))) := dMul_l (by omega) (by omega)
    generalize (0 + (i : Int) * 1) = nb at *
    refine Stp.seq (ρ1 := [S, .int first, .int c, .int w, .int h, .int dp, .int (pw - 1), .lst (cells.map .int), .lst (planes.map encP), .int nb, .int y7, a11, a12, a13, a14]) (by simp_arith only [e7]) ?_
    refine Stp.seq (ρ1 := [S, .int first, .int c, .int w, .int h, .int dp, .int (pw - 1), .lst (cells.map .int), .lst (planes.map encP), .int nb, .int y7, .lst [], a12, a13, a14]) (by simp_arith only [lst_s (show ([] : List D).length ≤ 1000 by simp)]) ?_
    refine Stp.bind (gFor_rng (lo := 0) (c := 1) (n := h) (P := fun j ρ => ∃ (rows : List (List Int)) (a12 a13 a14 : D), rows.length = j ∧ Ok rows ∧ ρ = [S, .int first, .int c, .int w, .int h, .int dp, .int (pw - 1), .lst (cells.map .int), .lst (planes.map encP), .int nb, .int y7, .lst (rows.map encR), a12, a13, a14])
      (by simp_arith only [rg h (by omega)]) ⟨[], _, _, _, rfl, (fun _ q => nomatch q), rfl⟩ ?_) ?_
    · rintro j hj ρ ⟨rows, a12, a13, a14, hrl, hrok, rfl⟩
      refine ⟨_, rfl, ?_⟩
      have hjb : 0 ≤ (0 + (j : Int) * 1) ∧ (0 + (j : Int) * 1) ≤ 40 := by omega
      have mw : dMul (.int (0 + (j : Int) * 1)) (.int w) = .ok (.int ((0 + (j : Int) * 1) * w)) := dMul_r (by omega) (by omega)
      have hnn : 0 ≤ (0 + (j : Int) * 1) * w := Int.mul_nonneg (by omega) (by omega)
      generalize (0 + (j : Int) * 1) = rw' at *
      obtain ⟨seeds, hsl2, -, hsd⟩ := mapL_ex (α := Nat) (β := Int) (ed := fun i => D.int (0 + (i : Int) * 1)) (e := D.int) (Q := fun _ => True) (xs := List.range w)
        (f := fun d => noX (oR (gtN 14 d [S, .int first, .int c, .int w, .int h, .int dp, .int (pw - 1), .lst (cells.map .int), .lst (planes.map encP), .int nb, .int y7, .lst (rows.map encR), .int rw', a13, a14]) >>= fun ρ' => gtt ρ' >>= fun b => if b = true then (g2 dAdd (g2 dIx (gv 7) (g2 dMod (g2 dAdd (g2 dMul (gv 12) (gv 3)) (gv 14)) (gAll dLen (gsC (gv 7) gsN)))) (g2 dMul (gc (.int 7)) (gv 9))) ρ' >>= fun y => .ok (some y) else .ok none)) (fun k hk => by
          have hmd : dMod (.int (rw' * w + (0 + (k : Int) * 1))) (.int cells.length) = .ok (.int ((rw' * w + (0 + (k : Int) * 1)) % cells.length)) := dMod_s (by omega)
          have hix := ix_int (xs := cells) (i := (rw' * w + (0 + (k : Int) * 1)) % cells.length) (Int.emod_nonneg _ (by omega)) (Int.emod_lt_of_pos _ (by omega))
          refine ⟨cells.getD ((rw' * w + (0 + (k : Int) * 1)) % cells.length).toNat 0 + 7 * nb, trivial, ?_⟩
          simp_arith only [mw, hlen, hmd, hix, m7])
      rw [List.length_range] at hsl2
      refine Stp.seq (ρ1 := [S, .int first, .int c, .int w, .int h, .int dp, .int (pw - 1), .lst (cells.map .int), .lst (planes.map encP), .int nb, .int y7, .lst (rows.map encR), .int rw', .lst (seeds.map .int), a14]) (by
        simp -implicitDefEqProofs only [List.set_cons_succ, List.set_cons_zero, gSet, gLc, gI, gAll, gsC, gsN, gv, List.getD_cons_succ, List.getD_cons_zero, bind_ok, pure_ok, rgw]
        rw [hsd]
        simp_arith only []) ?_
      obtain ⟨pts, hpl2, hpt, hpd⟩ := mapL_ex (α := Nat) (β := Int) (ed := fun i => D.int (0 + (i : Int) * 1)) (e := D.int) (Q := fun p => 0 ≤ p ∧ p ≤ pw - 1) (xs := List.range w)
        (f := fun d => noX (oR (gtN 14 d [S, .int first, .int c, .int w, .int h, .int dp, .int (pw - 1), .lst (cells.map .int), .lst (planes.map encP), .int nb, .int y7, .lst (rows.map encR), .int rw', .lst (seeds.map .int), a14]) >>= fun ρ' => gtt ρ' >>= fun b => if b = true then (gAll f__law_point (gsC (g2 dIx (gv 13) (gv 14)) (gsC (gv 10) (gsC (gv 12) (gsC (gv 14) (gsC (gv 6) gsN)))))) ρ' >>= fun y => .ok (some y) else .ok none)) (fun k hk => by
          have hk' : k < w := List.mem_range.mp hk
          have hix := ix_int (xs := seeds) (i := 0 + (k : Int) * 1) (by omega) (by omega)
          obtain ⟨p, hp, ep⟩ := point_eq (seeds.getD (0 + (k : Int) * 1).toNat 0) y7 rw' (0 + (k : Int) * 1) (pw - 1) (by omega) (by omega) (by omega) (by omega) (by omega) (by omega)
          refine ⟨p, hp, ?_⟩
          simp_arith only [hix, ep])
      rw [List.length_range] at hpl2
      refine Stp.done (ρ1 := [S, .int first, .int c, .int w, .int h, .int dp, .int (pw - 1), .lst (cells.map .int), .lst (planes.map encP), .int nb, .int y7, .lst ((rows ++ [pts]).map encR), .int rw', .lst (seeds.map .int), a14]) ?_ ⟨rows ++ [pts], _, _, _, by rw [List.length_append, hrl]; rfl, fun r hr => ?_, rfl⟩
      · have hlt : (rows.map encR).length < sizeLine := by rw [List.length_map]; omega
        have hlc : gLc (gI dRng1 (gsC (gv 3) gsN)) (gtN 14) gtt (gAll f__law_point (gsC (g2 dIx (gv 13) (gv 14)) (gsC (gv 10) (gsC (gv 12) (gsC (gv 14) (gsC (gv 6) gsN)))))) [S, .int first, .int c, .int w, .int h, .int dp, .int (pw - 1), .lst (cells.map .int), .lst (planes.map encP), .int nb, .int y7, .lst (rows.map encR), .int rw', .lst (seeds.map .int), a14] = .ok (.lst (pts.map .int)) := by
          show (dRng1 [.int w] >>= fun ds => mapL _ ds >>= fun ys => R.ok (D.lst ys)) = _
          rw [rgw]
          show (mapL _ _ >>= fun ys => R.ok (D.lst ys)) = _
          rw [hpd]
          rfl
        have := gApp_s (i := 11) (g := gAll (dTuple false) (gsC (gLc (gI dRng1 (gsC (gv 3) gsN)) (gtN 14) gtt (gAll f__law_point (gsC (g2 dIx (gv 13) (gv 14)) (gsC (gv 10) (gsC (gv 12) (gsC (gv 14) (gsC (gv 6) gsN))))))) gsN)) (ds := rows.map encR) rfl ((gAll1 hlc).trans (dTuple_f _)) hlt
        rw [List.map_append]
        exact this
      · rcases List.mem_append.mp hr with q | q
        · exact hrok r q
        · have : r = pts := by simpa using q
          subst this
          exact ⟨hpl2, hpt⟩
    · rintro ρ ⟨rows, a12, a13, a14, hrl, hrok, rfl⟩
      refine Stp.done (ρ1 := [S, .int first, .int c, .int w, .int h, .int dp, .int (pw - 1), .lst (cells.map .int), .lst ((planes ++ [rows]).map encP), .int nb, .int y7, .lst (rows.map encR), a12, a13, a14]) ?_ ⟨planes ++ [rows], _, _, _, _, _, _, by rw [List.length_append, hpl]; rfl, fun pl hp => ?_, rfl⟩
      · have hlt : (planes.map encP).length < sizeLine := by rw [List.length_map]; omega
        have ht : dTuple true [.lst (rows.map encR)] = .ok (encP rows) := dTuple_tups (fun r : List Int => r.map D.int) rows
        simp_arith only [gApp, ht, hlt]
        rw [List.map_append]
        rfl
      · rcases List.mem_append.mp hp with q | q
        · exact hok pl q
        · have : pl = rows := by simpa using q
          subst this
          exact ⟨hrl, hrok⟩
  · rintro ρ ⟨planes, a9, a10, a11, a12, a13, a14, hpl, hok, rfl⟩
    refine ⟨w, h, dp, planes, hw, hh, hdp, by omega, by rw [hgp]; exact hok, ?_⟩
    have ht : dTuple true [.lst (planes.map encP)] = .ok (.tup (planes.map encP)) := dTuple_tups (fun r : List (List Int) => r.map encR) planes
    have t4 : ∀ a b c' d : D, dTup [a, b, c', d] = .ok (.tup [a, b, c', d]) := fun _ _ _ _ => tup_s (by simp)
    simp_arith only [ht, t4]
theorem run_ex {g : List D → R Fl} {ρ : List D} {P : D → Prop} (h : W g ρ (kO P)) : ∃ d, (g ρ >>= finF) = .ok d ∧ P d := by
  have := W.fn h
  cases e : (g ρ >>= finF) with
  | ok d => rw [e] at this; exact ⟨d, rfl, this⟩
  | exc x => rw [e] at this; exact (show False from this).elim
  | bad => rw [e] at this; exact (show False from this).elim
theorem gAll3 {f : List D → R D} {a b c : List D → R D} {ρ : List D} {x y z : D} (h1 : a ρ = .ok x) (h2 : b ρ = .ok y) (h3 : c ρ = .ok z) : gAll f (gsC a (gsC b (gsC c gsN))) ρ = f [x, y, z] := by
  show (gsC a (gsC b (gsC c gsN)) ρ >>= f) = _
  rw [gs3 h1 h2 h3]
  rfl
theorem joinL_len (a : List Nat) {k : Nat} : ∀ {ws : List (List Nat)}, (∀ w ∈ ws, w.length ≤ k) → (TL.joinL a ws).length ≤ ws.length * (k + a.length)
  | [], _ => Nat.zero_le _
  | [w], h => by
    have := h w List.mem_cons_self
    show w.length ≤ 1 * (k + a.length)
    omega
  | w :: x :: r, h => by
    have h1 := h w List.mem_cons_self
    have h2 := joinL_len a (ws := x :: r) fun y hy => h y (List.mem_cons_of_mem _ hy)
    show (w ++ (a ++ TL.joinL a (x :: r))).length ≤ _
    rw [List.length_append, List.length_append, List.length_cons (a := w), Nat.add_mul]
    omega
theorem joinL_mem (a : List Nat) : ∀ {ws : List (List Nat)} {c : Nat}, c ∈ TL.joinL a ws → c ∈ a ∨ ∃ w ∈ ws, c ∈ w
  | [], _, h => nomatch h
  | [w], c, h => .inr ⟨w, List.mem_cons_self, h⟩
  | w :: x :: r, c, h => by
    have h : c ∈ w ++ (a ++ TL.joinL a (x :: r)) := h
    rcases List.mem_append.mp h with h | h
    · exact .inr ⟨w, List.mem_cons_self, h⟩
    · rcases List.mem_append.mp h with h | h
      · exact .inl h
      · rcases joinL_mem a h with h | ⟨y, h1, h2⟩
        · exact .inl h
        · exact .inr ⟨y, List.mem_cons_of_mem _ h1, h2⟩
theorem tJoin {a : List Nat} {ws : List (List Nat)} {k n : Nat} (h : ∀ w ∈ ws, w.length ≤ k) (hn : ws.length ≤ n) (hb : n * k + n * a.length ≤ 16777216) : dJoin (tS a) (.lst (ws.map tS)) = .ok (tS (TL.joinL a ws)) := by
  have e : ws.map tS = (ws.map cS).map D.str := by rw [List.map_map]; rfl
  have sm : ∀ (l : List Nat) (k : Nat), (∀ x ∈ l, x ≤ k) → l.sum ≤ l.length * k := by
    intro l k
    induction l with
    | nil => intro _; exact Nat.zero_le _
    | cons x l ih =>
      intro h
      have := ih fun y hy => h y (List.mem_cons_of_mem _ hy)
      have := h x List.mem_cons_self
      rw [List.sum_cons, List.length_cons, Nat.add_mul, Nat.one_mul]
      omega
  have s1 := sm ((ws.map cS).map fun y : Str => y.length) k fun x hx => by
    obtain ⟨y, hy, rfl⟩ := List.mem_map.mp hx
    obtain ⟨w, hw, rfl⟩ := List.mem_map.mp hy
    exact h w hw
  rw [List.length_map, List.length_map] at s1
  rw [e]
  show (match tsD ((ws.map cS).map D.str) with
    | some ys => if (ys.map fun y : Str => y.length).sum + ys.length * (cS a).length ≤ 16777216 then R.ok (D.str (Txt.join (cS a) ys)) else .bad
    | none => .bad) = _
  rw [tsD_map]
  show (if ((ws.map cS).map fun y : Str => y.length).sum + (ws.map cS).length * (cS a).length ≤ 16777216 then R.ok (D.str (Txt.join (cS a) (ws.map cS))) else R.bad) = _
  have n1 : ws.length * k ≤ n * k := Nat.mul_le_mul_right _ hn
  have n2 : ws.length * a.length ≤ n * a.length := Nat.mul_le_mul_right _ hn
  rw [if_pos (by rw [List.length_map, cS_len]; omega), show Txt.join (cS a) (ws.map cS) = _ from SX.join_S a ws]
  rfl
theorem gJn_of {z : List Nat} {g : List D → R D} {ρ : List D} {e : D} (h : g ρ = .ok e) : gJn (gc (tS z)) g ρ = dJoin (tS z) e := by
  show (g ρ >>= fun e => dJoin (tS z) e) = _
  rw [h]
  rfl
theorem dSMul_of {a : Str} {n : Int} (h : -(2 ^ 63) ≤ n ∧ n < 2 ^ 63 ∧ a.length * n.toNat ≤ 16777216) : dSMul (.str a) (.int n) = .ok (.str (Txt.mul a n)) := if_pos h
theorem smul32 {m : Nat} (h : m ≤ 3) : dSMul (tS [32]) (.int (m : Nat)) = .ok (tS (List.replicate m 32)) := by
  refine (dSMul_of (a := cS [32]) (n := (m : Nat)) ⟨by omega, by omega, ?_⟩).trans ?_
  · rw [cS_len, Int.toNat_natCast]
    show 1 * m ≤ _
    omega
  have : m = 0 ∨ m = 1 ∨ m = 2 ∨ m = 3 := by omega
  rcases this with e | e | e | e <;> subst e <;> rfl
theorem pad4 {a b c d : Nat} (h : a ≤ 3 ∧ b ≤ 3 ∧ c ≤ 3 ∧ d ≤ 3) {k : Int} (h0 : 0 ≤ k) (h1 : k < 4) : ∃ m : Nat, (m = a ∨ m = b ∨ m = c ∨ m = d) ∧ m ≤ 3 ∧ dIx (.lst [.int (a : Nat), .int (b : Nat), .int (c : Nat), .int (d : Nat)]) (.int k) = .ok (.int (m : Nat)) := by
  have : k = 0 ∨ k = 1 ∨ k = 2 ∨ k = 3 := by omega
  rcases this with q | q | q | q <;> subst q
  · exact ⟨a, .inl rfl, h.1, rfl⟩
  · exact ⟨b, .inr (.inl rfl), h.2.1, rfl⟩
  · exact ⟨c, .inr (.inr (.inl rfl)), h.2.2.1, rfl⟩
  · exact ⟨d, .inr (.inr (.inr rfl)), h.2.2.2, rfl⟩
/-- a row's words, as a picture's text has them -/
structure TW (ws : List (List Nat)) : Prop where
  ne : ws ≠ []
  len : ws.length ≤ 41
  ok : ∀ w ∈ ws, w ≠ [] ∧ 32 ∉ w ∧ 10 ∉ w ∧ low w ∧ w.length ≤ 13
  ct : cnt ws = true
def lnT (ws : List (List Nat)) : List Nat := TL.joinL [32] ws
theorem TW.sp {ws : List (List Nat)} (h : TW ws) : LW.sp 32 (lnT ws) = ws := SX.spl_join h.ne fun w hw => (h.ok w hw).2.1
theorem TW.wd {ws : List (List Nat)} (h : TW ws) : LW.wd (lnT ws) = ws := wd_join fun w hw => ⟨(h.ok w hw).1, (h.ok w hw).2.1⟩
theorem TW.ln {ws : List (List Nat)} (h : TW ws) : (lnT ws).length ≤ 600 ∧ low (lnT ws) ∧ 10 ∉ lnT ws := by
  have h1 := joinL_len [32] (k := 13) fun w hw => (h.ok w hw).2.2.2.2
  have h2 := h.len
  refine ⟨Nat.le_trans h1 (Nat.le_trans (Nat.mul_le_mul_right _ h2) (by decide)), fun c hc => ?_, fun hc => ?_⟩
  · rcases joinL_mem [32] hc with q | ⟨w, hw, q⟩
    · rw [List.mem_singleton.mp q]; decide
    · exact (h.ok w hw).2.2.2.1 c q
  · rcases joinL_mem [32] hc with q | ⟨w, hw, q⟩
    · exact absurd (List.mem_singleton.mp q) (by decide)
    · exact (h.ok w hw).2.2.1 q
theorem TW.sub {ws : List (List Nat)} (h : TW ws) {w : List Nat} (hw : w ∈ ws) : ∀ x ∈ w, x ∈ lnT ws := by
  rw [← h.sp] at hw
  exact (sp_mem 32 _ _ (Nat.le_refl _) w hw).2.2
/-- a loose row: blanks more -/
theorem loose_eq {ws : List (List Nat)} (h : TW ws) (c : Int) : ∃ l, f__law_loose [tS (lnT ws), .int c] = .ok (tS l) ∧ wd l = ws ∧ 10 ∉ l ∧ low l ∧ l.length ≤ 600 := by
  obtain ⟨ln, lw, l10⟩ := h.ln
  have e32 : Str.ofString " " = cS [32] := by decide +kernel
  have x1 := mixed_eq c 1 4 (by omega) (by omega) (by omega)
  have b1 := mixI_lt c 1 4 (by omega)
  have x3 := mixed_eq c 3 3 (by omega) (by omega) (by omega)
  generalize mixI c 1 4 = y1 at *
  generalize mixI c 3 3 = y3 at *
  obtain ⟨m1, _, hm1, em1⟩ := pad4 (a := 0) (b := 0) (c := 1) (d := 3) (by decide) b1.1 b1.2
  have spl := split_eq (l := lnT ws) 32 (by decide) (by omega)
  rw [h.sp] at spl
  have key : ∃ d, f__law_loose [tS (lnT ws), .int c] = .ok d ∧ ∃ l, d = tS l ∧ wd l = ws ∧ 10 ∉ l ∧ low l ∧ l.length ≤ 600 := by
    rw [f__law_loose_run, g__law_loose, e32]
    refine run_ex ?_
    obtain ⟨T, eT⟩ : ∃ T, T = tS (lnT ws) := ⟨_, rfl⟩
    have spT : gIter (gT2 dSplit (gv 0) (gc (.str (cS [32])))) [T, .int c, tS (List.replicate m1 32), .non] = .ok (ws.map tS) := by
      show (gT2 dSplit (gv 0) (gc (tS [32])) _ >>= dIter) = _
      rw [gT2_of (l := lnT ws) (by rw [eT]; rfl) rfl, spl]
      rfl
    rw [← eT]
    refine W.step (ρ' := [T, .int c, tS (List.replicate m1 32), .non]) (set_of ((g2L rfl ((g2L (x := .lst [.int (0 : Nat), .int (0 : Nat), .int (1 : Nat), .int (3 : Nat)]) rfl ((gAll3 rfl rfl rfl).trans x1)).trans em1)).trans (smul32 hm1))) ?_
    refine W.forM (ed := tS) (xs := ws) (fun i ρ => ∃ b : List Nat, (wd b = ws.take i ∧ (b = [] ∨ ∃ b', b = b' ++ [32]) ∧ (∀ x ∈ b, x = 32 ∨ x ∈ lnT ws) ∧ b.length ≤ 3 + 16 * i) ∧ ∃ (j3 : D), ρ = [T, .int c, tS b, j3]) spT ⟨List.replicate m1 32, ⟨wd_rep m1, ?_, fun x hx => .inl (List.eq_of_mem_replicate hx), by rw [List.length_replicate]; omega⟩, _, rfl⟩ ?_ ?_
    · cases m1 with
      | zero => exact .inl rfl
      | succ m => exact .inr ⟨List.replicate m 32, List.replicate_succ'⟩
    · rintro i w hi ρ ⟨b, ⟨hw, he, hx, hl⟩, j3, rfl⟩
      have hil := (List.getElem?_eq_some_iff.mp hi).1
      have l41 := h.len
      have wk := h.ok w (List.mem_of_getElem? hi)
      have x2 := mixed_eq (c + b.length) 2 4 (by omega) (by omega) (by omega)
      have b2 := mixI_lt (c + b.length) 2 4 (by omega)
      generalize mixI (c + b.length) 2 4 = y2 at *
      obtain ⟨m2, hm, hm2, em2⟩ := pad4 (a := 1) (b := 1) (c := 2) (d := 3) (by decide) b2.1 b2.2
      have m0 : 1 ≤ m2 := by omega
      have ln2 := tLen (a := b) (by omega)
      have d1 := tAdd (a := b) (b := w) (by omega)
      have d2 := tAdd (a := b ++ w) (b := List.replicate m2 32) (by rw [List.length_append, List.length_replicate]; omega)
      refine ⟨[T, .int c, tS b, tS w], rfl, ?_⟩
      have lnb : gAll dLen (gsC (gv 2) gsN) [T, .int c, tS b, tS w] = .ok (.int b.length) := (gAll1 rfl).trans ln2
      have ad : g2 dAdd (gv 1) (gAll dLen (gsC (gv 2) gsN)) [T, .int c, tS b, tS w] = .ok (.int (c + b.length)) := (g2L (x := .int c) rfl lnb).trans rfl
      refine W.nx1 (ρ' := [T, .int c, tS (b ++ w ++ List.replicate m2 32), tS w]) (set_of ((g2L ((g2L rfl rfl).trans d1) ((g2L rfl ((g2L (x := .lst [.int (1 : Nat), .int (1 : Nat), .int (2 : Nat), .int (3 : Nat)]) rfl ((gAll3 ad rfl rfl).trans x2)).trans em2)).trans (smul32 hm2))).trans d2)) ⟨_, ⟨?_, .inr ?_, ?_, ?_⟩, _, rfl⟩
      · rw [wd_pr, List.take_add_one, hi, ← hw]
        rcases he with e | ⟨b', e⟩
        · rw [e, List.nil_append, wd_one wk.1 wk.2.1]
          rfl
        · rw [e, List.append_assoc, List.singleton_append, wd_sp, wd_sp, wd_nil, List.append_nil, wd_one wk.1 wk.2.1]
          rfl
      · obtain ⟨m, rfl⟩ : ∃ m, m2 = m + 1 := ⟨m2 - 1, by omega⟩
        exact ⟨b ++ w ++ List.replicate m 32, by rw [List.replicate_succ', ← List.append_assoc]⟩
      · intro x hm
        rcases List.mem_append.mp hm with q | q
        · rcases List.mem_append.mp q with q | q
          · exact hx x q
          · exact .inr (h.sub (List.mem_of_getElem? hi) x q)
        · exact .inl (List.eq_of_mem_replicate q)
      · rw [List.length_append, List.length_append, List.length_replicate]
        omega
    · rintro ρ ⟨b, ⟨hw, he, hx, hl⟩, j3, rfl⟩
      rw [List.take_of_length_le (Nat.le_refl _)] at hw
      have l41 := h.len
      refine W.bind (Q := fun ρ => ∃ b : List Nat, (wd b = ws ∧ (∀ x ∈ b, x = 32 ∨ x ∈ lnT ws) ∧ b.length ≤ 700) ∧ ρ = [T, .int c, tS b, j3]) ?_ ?_
      · have cond : gB (g2 dGt (gAll f__law_mixed (gsC (gv 1) (gsC (gc (.int 3)) (gsC (gc (.int 3)) gsN)))) (gc (.int 0))) [T, .int c, tS b, j3] = .ok (decide (y3 > 0)) := gB_bl ((g2L ((gAll3 rfl rfl rfl).trans x3) rfl).trans rfl)
        unfold Stp gIte
        rw [cond]
        by_cases q : y3 > 0
        · rw [decide_eq_true q]
          obtain ⟨i, j, m, e1, e2⟩ := strip_parts b
          refine ⟨[T, .int c, tS m, j3], set_of ((gT2_of (l := b) rfl rfl).trans ?_), m, ⟨(wd_strip e1).trans hw, fun x hx2 => hx x ?_, ?_⟩, rfl⟩
          · show (if (cS b).length ≤ sizeLine then R.ok (D.str (Txt.stripChars (cS b) (cS [32]))) else R.bad) = _
            rw [if_pos (by rw [cS_len, sizeLine_eq]; omega), e2]
            rfl
          · rw [e1]
            exact List.mem_append.mpr (.inr (List.mem_append.mpr (.inl hx2)))
          · have := congrArg List.length e1
            rw [List.length_append, List.length_append] at this
            omega
        · rw [decide_eq_false q]
          exact ⟨_, rfl, b, ⟨hw, hx, by omega⟩, rfl⟩
      · rintro ρ ⟨b, ⟨hw, hx, hl⟩, rfl⟩
        have ln2 := tLen (a := b) (by omega)
        refine W.iteS (p := b.length > 380) (gB_bl (((g2L ((gAll1 rfl).trans ln2) rfl).trans (dGt_i _ _)).trans (congrArg (fun z => R.ok (D.bl z)) (decide_eq_decide.mpr (by omega))))) (fun q => ?_) (fun q => W.nxS ?_)
        · exact W.rtS rfl ⟨lnT ws, eT, h.wd, l10, lw, ln⟩
        · refine W.rt1 (d := tS b) rfl ⟨b, rfl, hw, fun z => ?_, fun x hx2 => ?_, by omega⟩
          · rcases hx 10 z with q | q
            · exact absurd q (by decide)
            · exact l10 q
          · rcases hx x hx2 with q | q
            · rw [q]; decide
            · exact lw x q
  obtain ⟨d, e, l, rfl, q⟩ := key
  exact ⟨l, e, q⟩
theorem nS_ok {n : Nat} (h : n < 1000) : nS n ≠ [] ∧ 32 ∉ nS n ∧ 10 ∉ nS n ∧ low (nS n) ∧ (nS n).length ≤ 13 :=
  ⟨TL.numL_ne n, TL.numL_free (by omega), TL.numL_free (by omega), nS_low n, Nat.le_trans (nS_len (k := 3) (by decide) h) (by decide)⟩
def rowW (r : List Nat) : List (List Nat) := r.map nS
def hdW (x : Hd) : List (List Nat) := [picW, nS x.w, nS x.h, nS x.d, nS x.n]
def txW (x : Hd) (pls : List (List (List Nat))) : List (List (List Nat)) := hdW x :: pls.flatten.map rowW
theorem TW_hd {x : Hd} (h : HdOk x) : TW (hdW x) := by
  have hw := nS_ok (n := x.w) (by have := h.w; omega)
  have hh := nS_ok (n := x.h) (by have := h.h; omega)
  have hd := nS_ok (n := x.d) (by have := h.d; omega)
  have hn := nS_ok (n := x.n) (by rcases h.n with e | e <;> rw [e] <;> decide)
  refine ⟨List.cons_ne_nil _ _, by show 5 ≤ 41; decide, fun w hm => ?_, by show decide ((some 112 : Option Nat) ≠ some 35) = true; decide⟩
  unfold hdW at hm
  simp only [List.mem_cons, List.not_mem_nil, or_false] at hm
  rcases hm with q | q | q | q | q <;> subst q
  · exact ⟨by decide, by decide, by decide, picW_low, by decide⟩
  · exact hw
  · exact hh
  · exact hd
  · exact hn
theorem TW_row {r : List Nat} (h0 : r ≠ []) (hl : r.length ≤ 40) (h : ∀ p ∈ r, p ≤ 255) : TW (rowW r) := by
  refine ⟨fun z => h0 (List.map_eq_nil_iff.mp z), by unfold rowW; rw [List.length_map]; omega, fun w hm => ?_, ?_⟩
  · obtain ⟨p, hp, rfl⟩ := List.mem_map.mp hm
    have := h p hp
    exact nS_ok (by omega)
  · cases r with
    | nil => exact absurd rfl h0
    | cons p r =>
      show decide ((nS p).head? ≠ some 35) = true
      have d := TL.numL_digits p
      cases e : nS p with
      | nil => exact absurd e (TL.numL_ne p)
      | cons c s =>
        have := d c (by show c ∈ nS p; rw [e]; exact List.mem_cons_self)
        exact decide_eq_true fun z => by
          have z : c = 35 := Option.some.inj z
          omega
structure PlOk (x : Hd) (pls : List (List (List Nat))) : Prop where
  hd : HdOk x
  n : pls.length = x.n
  pl : ∀ pl ∈ pls, pl.length = x.h ∧ ∀ r ∈ pl, r.length = x.w ∧ ∀ p ∈ r, p ≤ 2 ^ x.d - 1
theorem PlOk.p8 {x : Hd} {pls : List (List (List Nat))} (h : PlOk x pls) {pl : List (List Nat)} (h1 : pl ∈ pls) {r : List Nat} (h2 : r ∈ pl) : r ≠ [] ∧ r.length ≤ 40 ∧ ∀ p ∈ r, p ≤ 255 := by
  obtain ⟨a, b⟩ := (h.pl pl h1).2 r h2
  have := h.hd.w
  have dd := h.hd.d.2
  have e : 2 ^ x.d ≤ 2 ^ 8 := Nat.pow_le_pow_right (by decide) dd
  exact ⟨fun z => by rw [z] at a; have a : 0 = x.w := a; omega, by omega, fun p hp => by have := b p hp; omega⟩
theorem PlOk.tw {x : Hd} {pls : List (List (List Nat))} (h : PlOk x pls) : ∀ ws ∈ txW x pls, TW ws := fun ws hm => by
  rcases List.mem_cons.mp hm with e | hm
  · rw [e]
    exact TW_hd h.hd
  · obtain ⟨r, hr, rfl⟩ := List.mem_map.mp hm
    obtain ⟨pl, h1, h2⟩ := List.mem_flatten.mp hr
    obtain ⟨a, b, c⟩ := h.p8 h1 h2
    exact TW_row a b c
theorem flat_len (h : Nat) : ∀ (pls : List (List (List Nat))), (∀ pl ∈ pls, pl.length = h) → pls.flatten.length = pls.length * h
  | [], _ => (Nat.zero_mul h).symm
  | p :: pls, k => by
    rw [List.flatten_cons, List.length_append, List.length_cons, flat_len h pls fun y hy => k y (List.mem_cons_of_mem _ hy), k p List.mem_cons_self, Nat.add_mul]
    omega
theorem PlOk.len {x : Hd} {pls : List (List (List Nat))} (h : PlOk x pls) : pls.flatten.length = x.n * x.h ∧ x.n * x.h ≤ 120 := by
  refine ⟨by rw [flat_len x.h pls fun pl hp => (h.pl pl hp).1, h.n], ?_⟩
  have := h.hd.h
  rcases h.hd.n with e | e <;> rw [e] <;> omega
theorem lines_eq {x : Hd} {pls : List (List (List Nat))} (h : PlOk x pls) : f__law_lines [pcD x pls] = .ok (.lst ((txW x pls).map fun ws => tS (lnT ws))) := by
  have hsz : sizeLine = 16777216 := sizeLine_eq
  have e32 : Str.ofString " " = cS [32] := by decide +kernel
  have hw := h.hd.w
  have hh := h.hd.h
  have hd := h.hd.d
  have hn := h.hd.n
  have s0 := strI_n (n := x.w) (by omega)
  have s1 := strI_n (n := x.h) (by omega)
  have s2 := strI_n (n := x.d) (by omega)
  have s3 := strI_n (n := x.n) (by omega)
  have i0 : dIx (pcD x pls) (.int 0) = .ok (.int (x.w : Nat)) := rfl
  have i1 : dIx (pcD x pls) (.int 1) = .ok (.int (x.h : Nat)) := rfl
  have i2 : dIx (pcD x pls) (.int 2) = .ok (.int (x.d : Nat)) := rfl
  have i3 : dIx (pcD x pls) (.int 3) = .ok (.tup (pls.map plnD)) := rfl
  have ln : dLen [.tup (pls.map plnD)] = .ok (.int (x.n : Nat)) := by
    show R.ok (D.int ((pls.map plnD).length : Nat)) = _
    rw [List.length_map, h.n]
  have it : dIter (.tup (pls.map plnD)) = .ok (pls.map plnD) := rfl
  have tw := h.tw
  obtain ⟨fl, f120⟩ := h.len
  rw [f__law_lines_run, g__law_lines, e32, picW_eq]
  have jh : dJoin (tS [32]) (.lst ((hdW x).map tS)) = .ok (tS (lnT (hdW x))) := tJoin (k := 13) (n := 41) (fun w hm => ((TW_hd h.hd).ok w hm).2.2.2.2) (TW_hd h.hd).len (by decide)
  obtain ⟨X, eX⟩ : ∃ X, X = pcD x pls := ⟨_, rfl⟩
  obtain ⟨PS, ePS⟩ : ∃ PS, PS = D.tup (pls.map plnD) := ⟨_, rfl⟩
  rw [← eX, ← ePS] at i3
  rw [← eX] at i0 i1 i2 ⊢
  rw [← ePS] at ln it
  have hl : gAll dLst (gsC (gc (.str (cS picW))) (gsC (gAll dStrI (gsC (g2 dIx (gv 0) (gc (.int 0))) gsN)) (gsC (gAll dStrI (gsC (g2 dIx (gv 0) (gc (.int 1))) gsN)) (gsC (gAll dStrI (gsC (g2 dIx (gv 0) (gc (.int 2))) gsN)) (gsC (gAll dStrI (gsC (gAll dLen (gsC (g2 dIx (gv 0) (gc (.int 3))) gsN)) gsN)) gsN))))) [X, .non, .non, .non, .non] = .ok (.lst ((hdW x).map tS)) := by
    show _ = R.ok (D.lst [tS picW, tS (nS x.w), tS (nS x.h), tS (nS x.d), tS (nS x.n)])
    have ep : D.str (cS picW) = tS picW := rfl
    rw [ep]
    generalize tS (nS x.w) = a1 at *
    generalize tS (nS x.h) = a2 at *
    generalize tS (nS x.d) = a3 at *
    generalize tS (nS x.n) = a4 at *
    generalize tS picW = a0 at *
    simp_arith only [i0, i1, i2, i3, ln, s0, s1, s2, s3]
  refine run_of ?_
  refine W.step (ρ' := [X, .lst [tS (lnT (hdW x))], .non, .non, .non]) (set_of ((gAll1 ((gJn_of hl).trans jh)).trans rfl)) ?_
  refine W.forM (ed := plnD) (xs := pls) (fun i ρ => ∃ (j2 : D) (j3 : D) (j4 : D), ρ = [X, .lst ((hdW x :: (pls.take i).flatten.map rowW).map fun ws => tS (lnT ws)), j2, j3, j4]) (by
    show (dIx X (.int 3) >>= dIter) = _
    rw [i3, bind_ok, it]) ⟨_, _, _, rfl⟩ ?_ ?_
  · rintro i pl hi ρ ⟨j2, j3, j4, rfl⟩
    have hm := List.mem_of_getElem? hi
    obtain ⟨pl1, pl2⟩ := h.pl pl hm
    have tk : (pls.take (i + 1)).flatten = (pls.take i).flatten ++ pl := by
      rw [List.take_add_one, hi, List.flatten_append]
      simp
    have len1 : (pls.take i).flatten.length ≤ 120 := by
      have e : pls.flatten = (pls.take i).flatten ++ (pls.drop i).flatten := by rw [← List.flatten_append, List.take_append_drop]
      have := congrArg List.length e
      rw [List.length_append] at this
      omega
    refine ⟨[X, .lst ((hdW x :: (pls.take i).flatten.map rowW).map fun ws => tS (lnT ws)), plnD pl, j3, j4], rfl, ?_⟩
    refine W.forM1 (ed := rowD) (xs := pl) (fun j ρ => ∃ (j3 : D) (j4 : D), ρ = [X, .lst ((hdW x :: ((pls.take i).flatten ++ pl.take j).map rowW).map fun ws => tS (lnT ws)), plnD pl, j3, j4]) rfl ⟨j3, j4, by rw [List.take_zero, List.append_nil]⟩ ?_ ?_
    · rintro j r hj ρ ⟨j3, j4, rfl⟩
      have hr := List.mem_of_getElem? hj
      obtain ⟨r0, r40, rp⟩ := h.p8 hm hr
      have twr := TW_row r0 r40 rp
      have hjl := (List.getElem?_eq_some_iff.mp hj).1
      have tk2 : pl.take (j + 1) = pl.take j ++ [r] := by rw [List.take_add_one, hj]; rfl
      have jr : dJoin (tS [32]) (.lst ((rowW r).map tS)) = .ok (tS (lnT (rowW r))) := tJoin (k := 13) (n := 41) (fun w hm => (twr.ok w hm).2.2.2.2) twr.len (by decide)
      refine ⟨[X, .lst ((hdW x :: ((pls.take i).flatten ++ pl.take j).map rowW).map fun ws => tS (lnT ws)), plnD pl, rowD r, j4], rfl, ?_⟩
      have lc : gLc (gIter (gv 3)) (gtN 4) gtt (gAll dStrI (gsC (gv 4) gsN)) [X, .lst ((hdW x :: ((pls.take i).flatten ++ pl.take j).map rowW).map fun ws => tS (lnT ws)), plnD pl, rowD r, j4] = .ok (.lst ((rowW r).map tS)) := by
        refine (gLc_map (src := gIter (gv 3)) (gt := gtN 4) (ge := gAll dStrI (gsC (gv 4) gsN)) (ed := dN) (xs := r) (h := fun p => tS (nS p)) rfl fun p hp => ⟨[X, .lst ((hdW x :: ((pls.take i).flatten ++ pl.take j).map rowW).map fun ws => tS (lnT ws)), plnD pl, rowD r, dN p], rfl, (gAll1 (g := gv 4) (d := .int (p : Nat)) rfl).trans (strI_n (by have := rp p hp; omega))⟩).trans ?_
        unfold rowW
        rw [List.map_map]
        rfl
      refine W.nx1 (ρ' := [X, .lst ((hdW x :: ((pls.take i).flatten ++ pl.take (j + 1)).map rowW).map fun ws => tS (lnT ws)), plnD pl, rowD r, j4]) (Eq.trans (gApp_s (ds := (hdW x :: ((pls.take i).flatten ++ pl.take j).map rowW).map fun ws => tS (lnT ws)) rfl ((gJn_of lc).trans jr) (by
        rw [List.length_map, List.length_cons, List.length_map, List.length_append, List.length_take, hsz]
        omega)) (by
        rw [tk2]
        simp only [List.map_cons, List.map_append, List.map_nil, List.cons_append, List.append_assoc]
        rfl)) ⟨_, _, rfl⟩
    · rintro ρ ⟨j3, j4, rfl⟩
      rw [List.take_of_length_le (Nat.le_refl _), ← tk]
      exact ⟨_, _, _, rfl⟩
  · rintro ρ ⟨j2, j3, j4, rfl⟩
    rw [List.take_of_length_le (Nat.le_refl _)]
    exact W.rt1 rfl rfl
/-- the rows put in -/
theorem extra6 {k : Int} (h0 : 0 ≤ k) (h1 : k < 6) : ∃ e : List Nat, dIx (.lst [.str (Str.ofString ""), .str (Str.ofString "  "), .str (Str.ofString "#"), .str (Str.ofString "# 1 2"), .str (Str.ofString "  #picture"), .str (Str.ofString "#9")]) (.int k) = .ok (tS e) ∧ cnt (wd e) = false ∧ low e ∧ 10 ∉ e ∧ e.length ≤ 600 := by
  have : k = 0 ∨ k = 1 ∨ k = 2 ∨ k = 3 ∨ k = 4 ∨ k = 5 := by omega
  rcases this with q | q | q | q | q | q <;> subst q
  · exact ⟨[], congrArg (fun s => R.ok (D.str s)) (by decide +kernel : Str.ofString "" = cS []), by decide +kernel, by unfold low; decide, by decide, by decide⟩
  · exact ⟨[32, 32], congrArg (fun s => R.ok (D.str s)) (by decide +kernel : Str.ofString "  " = cS [32, 32]), by decide +kernel, by unfold low; decide, by decide, by decide⟩
  · exact ⟨[35], congrArg (fun s => R.ok (D.str s)) (by decide +kernel : Str.ofString "#" = cS [35]), by decide +kernel, by unfold low; decide, by decide, by decide⟩
  · exact ⟨[35, 32, 49, 32, 50], congrArg (fun s => R.ok (D.str s)) (by decide +kernel : Str.ofString "# 1 2" = cS [35, 32, 49, 32, 50]), by decide +kernel, by unfold low; decide, by decide, by decide⟩
  · exact ⟨[32, 32, 35, 112, 105, 99, 116, 117, 114, 101], congrArg (fun s => R.ok (D.str s)) (by decide +kernel : Str.ofString "  #picture" = cS [32, 32, 35, 112, 105, 99, 116, 117, 114, 101]), by decide +kernel, by unfold low; decide, by decide, by decide⟩
  · exact ⟨[35, 57], congrArg (fun s => R.ok (D.str s)) (by decide +kernel : Str.ofString "#9" = cS [35, 57]), by decide +kernel, by unfold low; decide, by decide, by decide⟩
theorem loose_lines_eq {wss : List (List (List Nat))} (h : ∀ ws ∈ wss, TW ws) (hl : wss.length ≤ 200) (c : Int) : ∃ R0 : List (List Nat), f__law_loose_lines [.lst (wss.map fun ws => tS (lnT ws)), .int c] = .ok (.lst (R0.map tS)) ∧ (R0.map wd).filter cnt = wss ∧ (∀ r ∈ R0, low r ∧ 10 ∉ r ∧ r.length ≤ 600) ∧ R0.length ≤ 2 * wss.length := by
  have hsz : sizeLine = 16777216 := sizeLine_eq
  have key : ∃ d, f__law_loose_lines [.lst (wss.map fun ws => tS (lnT ws)), .int c] = .ok d ∧ ∃ R0 : List (List Nat), d = .lst (R0.map tS) ∧ (R0.map wd).filter cnt = wss ∧ (∀ r ∈ R0, low r ∧ 10 ∉ r ∧ r.length ≤ 600) ∧ R0.length ≤ 2 * wss.length := by
    rw [f__law_loose_lines_run, g__law_loose_lines]
    refine run_ex ?_
    have ln : dLen [.lst (wss.map fun ws => tS (lnT ws))] = .ok (.int (wss.length : Nat)) := by
      rw [dLen_l, List.length_map]
    have rg : dRng1 [.int (wss.length : Nat)] = .ok (DL.intsFrom 0 1 wss.length) := by rw [dRng1_s (by omega) (by omega), Int.toNat_natCast]
    have ix : ∀ (i : Nat) (ws : List (List Nat)), wss[i]? = some ws → dIx (.lst (wss.map fun ws => tS (lnT ws))) (.int (i : Nat)) = .ok (tS (lnT ws)) := fun i ws hi => ixL_get (by rw [List.getElem?_map, hi]; rfl)
    obtain ⟨L, eL⟩ : ∃ L, L = D.lst (wss.map fun ws => tS (lnT ws)) := ⟨_, rfl⟩
    rw [← eL] at ln ix ⊢
    refine W.step (ρ' := [L, .int c, .lst [], .non]) (by rfl) ?_
    refine W.forR (lo := 0) (cc := 1) (n := wss.length) (fun i ρ => ∃ R0 : List (List Nat), ((R0.map wd).filter cnt = wss.take i ∧ (∀ r ∈ R0, low r ∧ 10 ∉ r ∧ r.length ≤ 600) ∧ R0.length ≤ 2 * i) ∧ ∃ (j3 : D), ρ = [L, .int c, .lst (R0.map tS), j3]) (by
      show (gAll dLen (gsC (gv 0) gsN) _ >>= fun d => gsN _ >>= fun ds => R.ok (d :: ds)) >>= dRng1 = _
      rw [gAll1 (d := L) rfl, ln]
      exact rg) ⟨[], ⟨rfl, (fun _ h => nomatch h), Nat.le_refl _⟩, _, rfl⟩ ?_ ?_
    · rintro i hi ρ ⟨R0, ⟨w0, r0, l0⟩, j3, rfl⟩
      rw [show (0 : Int) + (i : Int) * 1 = (i : Nat) by omega]
      obtain ⟨ws, ews⟩ : ∃ ws, wss[i]? = some ws := ⟨_, List.getElem?_eq_getElem hi⟩
      have tw := h ws (List.mem_of_getElem? ews)
      have x4 := mixed_eq (c + i) 4 9 (by omega) (by omega) (by omega)
      have x5 := mixed_eq (c + i) 5 6 (by omega) (by omega) (by omega)
      have b5 := mixI_lt (c + i) 5 6 (by omega)
      obtain ⟨l, el, lw, l10, llow, ll⟩ := loose_eq tw (c + 3 * (i : Int))
      have m3 : dMul (.int 3) (.int (i : Nat)) = .ok (.int (3 * (i : Int))) := dMul_l (by decide) (by decide)
      generalize mixI (c + i) 4 9 = y4 at *
      obtain ⟨e, ex, ec, elow, e10, el6⟩ := extra6 b5.1 b5.2
      have tk : wss.take (i + 1) = wss.take i ++ [ws] := by rw [List.take_add_one, ews]; rfl
      refine ⟨[L, .int c, .lst (R0.map tS), .int (i : Nat)], rfl, ?_⟩
      have ad : ∀ z, g2 dAdd (gv 1) (gv 3) [L, .int c, z, .int (i : Nat)] = .ok (.int (c + i)) := fun _ => rfl
      refine W.bind (Q := fun ρ => ∃ R1 : List (List Nat), ((R1.map wd).filter cnt = wss.take i ∧ (∀ r ∈ R1, low r ∧ 10 ∉ r ∧ r.length ≤ 600) ∧ R1.length ≤ 2 * i + 1) ∧ ρ = [L, .int c, .lst (R1.map tS), .int (i : Nat)]) ?_ ?_
      · have cond : gB (g2 dEq (gAll f__law_mixed (gsC (g2 dAdd (gv 1) (gv 3)) (gsC (gc (.int 4)) (gsC (gc (.int 9)) gsN)))) (gc (.int 1))) [L, .int c, .lst (R0.map tS), .int (i : Nat)] = .ok (decide (y4 = 1)) := gB_bl ((g2L ((gAll3 (ad _) rfl rfl).trans x4) rfl).trans (dEq_i _ _))
        unfold Stp gIte
        rw [cond]
        by_cases q : y4 = 1
        · rw [decide_eq_true q]
          refine ⟨[L, .int c, .lst ((R0 ++ [e]).map tS), .int (i : Nat)], ?_, R0 ++ [e], ⟨?_, ?_, ?_⟩, rfl⟩
          · have ga := gApp_s (i := 2) (ρ := [L, .int c, .lst (R0.map tS), .int (i : Nat)]) (ds := R0.map tS) (d := tS e) (g := g2 dIx (gAll dLst (gsC (gc (.str (Str.ofString ""))) (gsC (gc (.str (Str.ofString "  "))) (gsC (gc (.str (Str.ofString "#"))) (gsC (gc (.str (Str.ofString "# 1 2"))) (gsC (gc (.str (Str.ofString "  #picture"))) (gsC (gc (.str (Str.ofString "#9"))) gsN))))))) (gAll f__law_mixed (gsC (g2 dAdd (gv 1) (gv 3)) (gsC (gc (.int 5)) (gsC (gc (.int 6)) gsN))))) rfl ((g2L (x := .lst [.str (Str.ofString ""), .str (Str.ofString "  "), .str (Str.ofString "#"), .str (Str.ofString "# 1 2"), .str (Str.ofString "  #picture"), .str (Str.ofString "#9")]) rfl ((gAll3 (ad _) rfl rfl).trans x5)).trans ex) (by rw [List.length_map, hsz]; omega)
            refine Eq.trans ga ?_
            rw [List.map_append]
            rfl
          · rw [List.map_append, List.filter_append, w0]
            have fl : List.filter cnt (List.map wd [e]) = [] := by
              rw [List.map_cons, List.filter_cons, if_neg (by rw [ec]; exact Bool.false_ne_true)]
              rfl
            rw [fl, List.append_nil]
          · intro r hr
            rcases List.mem_append.mp hr with z | z
            · exact r0 r z
            · rw [List.mem_singleton.mp z]
              exact ⟨elow, e10, el6⟩
          · rw [List.length_append]
            show R0.length + 1 ≤ _
            omega
        · rw [decide_eq_false q]
          exact ⟨_, rfl, R0, ⟨w0, r0, by omega⟩, rfl⟩
      · rintro ρ ⟨R1, ⟨w1, r1, l1⟩, rfl⟩
        refine W.nx1 (ρ' := [L, .int c, .lst ((R1 ++ [l]).map tS), .int (i : Nat)]) (Eq.trans (gApp_s (ds := R1.map tS) (d := tS l) rfl ((gAll2 ((g2L rfl rfl).trans (ix i ws ews)) ((g2L (x := .int c) rfl ((g2L rfl rfl).trans m3)).trans (dAdd_i _ _))).trans el) (by rw [List.length_map, hsz]; omega)) (by rw [List.map_append]; rfl)) ⟨R1 ++ [l], ⟨?_, ?_, ?_⟩, _, rfl⟩
        · rw [List.map_append, List.filter_append, w1, tk]
          have fl : List.filter cnt (List.map wd [l]) = [ws] := by
            rw [List.map_cons, lw, List.filter_cons, if_pos tw.ct]
            rfl
          rw [fl]
        · intro r hr
          rcases List.mem_append.mp hr with z | z
          · exact r1 r z
          · rw [List.mem_singleton.mp z]
            exact ⟨llow, l10, ll⟩
        · rw [List.length_append]
          show R1.length + 1 ≤ _
          omega
    · rintro ρ ⟨R0, ⟨w0, r0, l0⟩, j3, rfl⟩
      rw [List.take_of_length_le (Nat.le_refl _)] at w0
      exact W.rt1 rfl ⟨R0, rfl, w0, r0, l0⟩
  obtain ⟨d, e, R0, rfl, q⟩ := key
  exact ⟨R0, e, q⟩
def numI (w : List Nat) : Int := match numB w with
  | some n => (n : Int)
  | none => -1
theorem gAll1T {f : List D → R D} {g : List D → R D} {ρ : List D} {d e : D} (h : g ρ = .ok d) (h2 : f [d] = .ok e) : gAll f (gsC g gsN) ρ = .ok e := (gAll1 h).trans h2
theorem gNotT {a : List D → R Bool} {ρ : List D} (h : a ρ = .ok true) : gNot a ρ = .ok false := by
  unfold gNot
  rw [h]
  rfl
theorem lnumber_eq {w : List Nat} (h : low w) (hl : w.length ≤ 16777216) : f__law_number [tS w] = .ok (.int (numI w)) := by
  have ln := tLen hl
  have it := tIter hl
  have e0 : Str.ofString "" = cS [] := by decide +kernel
  rw [f__law_number_run, g__law_number, figs10_eq, e0]
  have q0 := tEq h low_nil
  obtain ⟨T, eT⟩ : ∃ T, T = tS w := ⟨_, rfl⟩
  have lc : gLc (gIter (gv 0)) (gtN 1) gtt (g2 (dInS false) (gv 1) (gc (.str (cS figs10)))) [T, .non] = .ok (.lst (w.map fun c => .bl (dgC c))) := by
    refine gLc_map (ed := fun c => tS [c]) (xs := w) (h := fun c => .bl (dgC c)) (by rw [eT]; exact it) fun c hc => ⟨[T, tS [c]], rfl, ?_⟩
    show (R.ok (tS [c]) >>= fun a => R.ok (tS figs10) >>= fun b => dInS false a b) = _
    rw [bind_ok, bind_ok, tIn, dgC_in c (h c hc)]
  have al : dAll [.lst (w.map fun c => .bl (dgC c))] = .ok (.bl (w.all dgC)) := by
    have e : w.map (fun c => D.bl (dgC c)) = (w.map dgC).map D.bl := by rw [List.map_map]; rfl
    show oR ((dBls _).map _) = _
    rw [e, dBls_map]
    show R.ok (D.bl _) = _
    congr 2
    rw [List.all_map]
    rfl
  rw [← eT] at ln q0 ⊢
  refine run_of ?_
  by_cases z : (1 ≤ w.length ∧ w.length ≤ 9) ∧ w.all dgC = true
  · obtain ⟨z1, z2⟩ := z
    have dv : NumText.digitsVal w < 10 ^ 9 := Nat.lt_of_lt_of_le (dVal_lt w.length w rfl z2) (Nat.pow_le_pow_right (by decide) z1.2)
    have ii : dIntT [T] = .ok (.int (NumText.digitsVal w : Nat)) := by
      rw [eT]
      show (if (cS w).length ≤ 640 then oR ((PySem.intText? (cS w)).map D.int) else R.bad) = _
      rw [if_pos (by rw [cS_len]; omega), show PySem.intText? (cS w) = _ from SX.int_S (a := w) z2 (fun y => by rw [y] at z1; exact absurd z1.1 (by decide)) (by omega)]
      rfl
    have ss := strI_n (n := NumText.digitsVal w) (Nat.lt_trans dv (by decide))
    have ne := tNe (nS_low (NumText.digitsVal w)) h
    rw [← eT] at ne
    have ne0 : w ≠ [] := fun y => by rw [y] at z1; exact absurd z1.1 (by decide)
    refine W.iteS (p := ¬ nS (NumText.digitsVal w) = w) (gOr_F (gB_bl ((g2L rfl rfl).trans (q0.trans (by rw [decide_eq_false ne0])))) (gOr_F (gB_bl ((g2L (gAll1T rfl ln) rfl).trans ((dGt_i _ _).trans (by rw [decide_eq_false (by omega)])))) (gOr_F (gNotT (gB_bl (gAll1T lc (al.trans (by rw [z2]))))) (gB_bl ((g2L (gAll1T (gAll1T rfl ii) ss) rfl).trans (ne.trans (by rw [decide_not]))))))) (fun y => ?_) (fun y => W.nxS ?_)
    · refine W.rtS (d := .int (-1)) rfl ?_
      show D.int (-1) = D.int (numI w)
      unfold numI numB
      rw [if_neg fun q => y q.2.2]
    · refine W.rt1 (gAll1T rfl ii) ?_
      show D.int _ = D.int (numI w)
      unfold numI numB
      rw [if_pos ⟨z1, z2, Classical.byContradiction y⟩]
  · have nn : numI w = -1 := by
      unfold numI numB
      rw [if_neg fun q => z ⟨q.1, q.2.1⟩]
    refine W.iteST ?_ (W.rtS (d := .int (-1)) rfl (by show D.int (-1) = D.int (numI w); rw [nn]))
    by_cases c1 : w = []
    · exact gOr_T (gB_bl ((g2L rfl rfl).trans (q0.trans (by rw [decide_eq_true c1]))))
    refine gOr_F (gB_bl ((g2L rfl rfl).trans (q0.trans (by rw [decide_eq_false c1])))) ?_
    have lp := List.length_pos_iff.mpr c1
    by_cases c2 : 9 < w.length
    · exact gOr_T (gB_bl ((g2L (gAll1T rfl ln) rfl).trans ((dGt_i _ _).trans (by rw [decide_eq_true (by omega)]))))
    refine gOr_F (gB_bl ((g2L (gAll1T rfl ln) rfl).trans ((dGt_i _ _).trans (by rw [decide_eq_false (by omega)])))) ?_
    have c3 : w.all dgC = false := Bool.eq_false_iff.mpr fun y => z ⟨⟨by omega, by omega⟩, y⟩
    refine gOr_T ?_
    unfold gNot
    rw [gB_bl (gAll1T lc (al.trans (by rw [c3])))]
    rfl
theorem lclass08 (cx : Nat → Addr) (d : D) : f__law_class cx [.ex (cx 1) [d]] = .ok (.str (Str.ofString "picture")) := by
  rw [f__law_class_run, g__law_class]
  have is : ∀ b : Bool, dIsKA [(cx 1, b)] (.ex (cx 1) [d]) = .ok (.bl b) := fun b => by
    show oR ((List.lookup (cx 1) [(cx 1, b)]).map D.bl) = _
    rw [List.lookup_cons, beq_self_eq_true]
    rfl
  have l3 := dLst_3 (.bl true) (.bl false) (.bl false)
  have i1 := is false
  have i4 := is true
  generalize D.ex (cx 1) [d] = X at *
  refine run_of (W.step (ρ' := [X, .lst [.bl true, .bl false, .bl false]]) (by simp_arith only [i1, i4, l3]; first | done | exact rfl) ?_)
  have cnt : gCntB 1 (gc (.bl true)) [X, .lst [.bl true, .bl false, .bl false]] = .ok (.int 1) := rfl
  have idx : gIdxB 1 (gc (.bl true)) [X, .lst [.bl true, .bl false, .bl false]] = .ok (.int 0) := rfl
  have n1 : dNe (.int 1) (.int 1) = .ok (.bl false) := dNe_self (.int _)
  have ls := dLst_3 (.str (Str.ofString "picture")) (.str (Str.ofString "plan")) (.str (Str.ofString "file"))
  have ix : dIx (.lst [.str (Str.ofString "picture"), .str (Str.ofString "plan"), .str (Str.ofString "file")]) (.int 0) = .ok (.str (Str.ofString "picture")) := rfl
  refine W.iteSF (gOr_F ?_ ?_) (W.nxS (W.rt1 (d := .str (Str.ofString "picture")) ?_ rfl))
  · refine gB_bl ?_
    show (gCntB 1 (gc (.bl true)) _ >>= fun a => gc (.int 1) _ >>= fun b => dNe a b) = _
    rw [cnt]
    exact n1
  · generalize D.lst [.bl true, .bl false, .bl false] = LL at *
    simp_arith only [i4]
  · show (gAll dLst _ _ >>= fun a => gIdxB 1 (gc (.bl true)) _ >>= fun b => dIx a b) = _
    rw [idx]
    generalize D.lst [.bl true, .bl false, .bl false] = LL at *
    simp_arith only [ls, ix]
/-- within bounds, all of four -/
theorem numI_in {w : List Nat} {lo hi : Nat} : (∃ n, numB w = some n ∧ lo ≤ n ∧ n ≤ hi) ↔ ((lo : Int) ≤ numI w ∧ numI w ≤ (hi : Int)) := by
  unfold numI
  cases e : numB w with
  | none => exact ⟨fun ⟨_, h, _⟩ => (nomatch h), fun h => by have h : (lo : Int) ≤ -1 ∧ (-1 : Int) ≤ hi := h; omega⟩
  | some n => exact ⟨fun ⟨m, h, a, b⟩ => by cases h; exact ⟨by show (lo : Int) ≤ (n : Nat); omega, by show ((n : Nat) : Int) ≤ hi; omega⟩, fun h => by have h : (lo : Int) ≤ (n : Nat) ∧ ((n : Nat) : Int) ≤ hi := h; exact ⟨n, rfl, by omega, by omega⟩⟩
theorem allN_none {lo hi : Nat} : ∀ {ws : List (List Nat)}, allN lo hi ws = none ↔ ∃ w ∈ ws, ¬ ((lo : Int) ≤ numI w ∧ numI w ≤ (hi : Int))
  | [] => ⟨fun h => (nomatch h), fun ⟨_, h, _⟩ => nomatch h⟩
  | w :: ws => by
    have ih := allN_none (lo := lo) (hi := hi) (ws := ws)
    have eq : allN lo hi (w :: ws) = match numB w with
      | none => none
      | some n => if lo ≤ n ∧ n ≤ hi then (allN lo hi ws).map (n :: ·) else none := rfl
    by_cases q : (lo : Int) ≤ numI w ∧ numI w ≤ (hi : Int)
    · obtain ⟨n, e, a, b⟩ := numI_in.mpr q
      rw [eq, e]
      show (if lo ≤ n ∧ n ≤ hi then (allN lo hi ws).map (n :: ·) else none) = none ↔ _
      rw [if_pos ⟨a, b⟩, Option.map_eq_none_iff, ih]
      exact ⟨fun ⟨v, hv, p⟩ => ⟨v, List.mem_cons_of_mem _ hv, p⟩, fun ⟨v, hv, p⟩ => (List.mem_cons.mp hv).elim (fun z => absurd q (z ▸ p)) fun hv => ⟨v, hv, p⟩⟩
    · refine ⟨fun _ => ⟨w, List.mem_cons_self, q⟩, fun _ => ?_⟩
      rw [eq]
      cases e : numB w with
      | none => rfl
      | some n =>
        show (if lo ≤ n ∧ n ≤ hi then (allN lo hi ws).map (n :: ·) else none) = none
        rw [if_neg fun z => q (numI_in.mp ⟨n, e, z⟩)]
theorem allN_four {a b c d : List Nat} (ha : 1 ≤ numI a ∧ numI a ≤ 40) (hb : 1 ≤ numI b ∧ numI b ≤ 40) (hc : 1 ≤ numI c ∧ numI c ≤ 40) (hd : 1 ≤ numI d ∧ numI d ≤ 40) : allN 1 40 [a, b, c, d] = some [(numI a).toNat, (numI b).toNat, (numI c).toNat, (numI d).toNat] := by
  have one : ∀ {w : List Nat}, 1 ≤ numI w ∧ numI w ≤ 40 → numB w = some (numI w).toNat ∧ 1 ≤ (numI w).toNat ∧ (numI w).toNat ≤ 40 := fun {w} h => by
    obtain ⟨n, e, x, y⟩ := (numI_in (w := w) (lo := 1) (hi := 40)).mpr h
    have : numI w = (n : Nat) := by unfold numI; rw [e]
    rw [this, Int.toNat_natCast]
    exact ⟨e, x, y⟩
  have step : ∀ {w : List Nat} {ws : List (List Nat)} {ns : List Nat}, 1 ≤ numI w ∧ numI w ≤ 40 → allN 1 40 ws = some ns → allN 1 40 (w :: ws) = some ((numI w).toNat :: ns) := fun {w ws ns} h h2 => by
    obtain ⟨e, x, y⟩ := one h
    show (match numB w with
      | none => none
      | some n => if 1 ≤ n ∧ n ≤ 40 then (allN 1 40 ws).map (n :: ·) else none) = _
    rw [e]
    show (if 1 ≤ (numI w).toNat ∧ (numI w).toNat ≤ 40 then (allN 1 40 ws).map ((numI w).toNat :: ·) else none) = _
    rw [if_pos ⟨x, y⟩, h2]
    rfl
  exact step ha (step hb (step hc (step hd rfl)))
/-- what makes a head -/
theorem headB_four {a b c d : List Nat} : headB [picW, a, b, c, d] = if (1 ≤ numI a ∧ numI a ≤ 40) ∧ (1 ≤ numI b ∧ numI b ≤ 40) ∧ (1 ≤ numI c ∧ numI c ≤ 8) ∧ (numI d = 1 ∨ numI d = 3) then some ⟨(numI a).toNat, (numI b).toNat, (numI c).toNat, (numI d).toNat⟩ else none := by
  show (if picW = picW then hdOf (if [a, b, c, d].length = 4 then allN 1 40 [a, b, c, d] else none) else none) = _
  rw [if_pos rfl, if_pos (show [a, b, c, d].length = 4 from rfl)]
  by_cases h : (1 ≤ numI a ∧ numI a ≤ 40) ∧ (1 ≤ numI b ∧ numI b ≤ 40) ∧ (1 ≤ numI c ∧ numI c ≤ 8) ∧ (numI d = 1 ∨ numI d = 3)
  · rw [if_pos h, allN_four h.1 h.2.1 ⟨h.2.2.1.1, by omega⟩ (by omega)]
    show (if (numI c).toNat ≤ 8 ∧ ((numI d).toNat = 1 ∨ (numI d).toNat = 3) then some (⟨(numI a).toNat, (numI b).toNat, (numI c).toNat, (numI d).toNat⟩ : Hd) else none) = _
    rw [if_pos (by omega)]
  · rw [if_neg h]
    cases e : allN 1 40 [a, b, c, d] with
    | none => rfl
    | some ns =>
      have all : ∀ w ∈ [a, b, c, d], (1 : Int) ≤ numI w ∧ numI w ≤ 40 := fun w hw => Classical.byContradiction fun q => by
        have := allN_none.mpr ⟨w, hw, q⟩
        rw [e] at this
        cases this
      have ha := all a (by simp)
      have hb := all b (by simp)
      have hc := all c (by simp)
      have hd := all d (by simp)
      rw [allN_four ha hb hc hd] at e
      cases e
      show (if (numI c).toNat ≤ 8 ∧ ((numI d).toNat = 1 ∨ (numI d).toNat = 3) then some (⟨(numI a).toNat, (numI b).toNat, (numI c).toNat, (numI d).toNat⟩ : Hd) else none) = none
      rw [if_neg fun q => h ⟨ha, hb, ⟨hc.1, by omega⟩, by omega⟩]
theorem headB_len {w : List Nat} {ws : List (List Nat)} (h : ws.length ≠ 4) : headB (w :: ws) = none := by
  show (if w = picW then hdOf (if ws.length = 4 then allN 1 40 ws else none) else none) = none
  rw [if_neg h]
  split <;> rfl
theorem headB_pic {w : List Nat} {ws : List (List Nat)} (h : w ≠ picW) : headB (w :: ws) = none := if_neg h
theorem cutD_m1 {α : Type} (xs : List α) : cutD xs none (some (-1)) = xs.take (xs.length - 1) := by
  have e1 : HT.sIx xs.length xs.length (some (-1)) = xs.length - 1 := by
    show (if (-1 : Int) < 0 then ((-1 : Int) + (xs.length : Int)).toNat else min (-1 : Int).toNat xs.length) = _
    rw [if_pos (by decide)]
    omega
  unfold cutD
  rw [e1, show HT.sIx xs.length 0 none = 0 from rfl, List.drop_zero, Nat.sub_zero]
def leftI : Option Hd → List (List Nat) → Int
  | none, _ => -1
  | some x, rows => ((x.h * x.n : Nat) : Int) - rows.length
def sizeD : Option Hd → D
  | none => .tup [.int 0, .int 0]
  | some x => .tup [.int (x.w : Nat), .int (2 ^ x.d)]
def faultD : Nat ⊕ (Hd × List (List Nat)) → D
  | .inl n => .int (n : Nat)
  | .inr _ => .non
theorem minL_of {ns : List Int} (h0 : ns ≠ []) : ∃ m, minL ns = some m ∧ m ∈ ns ∧ ∀ y ∈ ns, m ≤ y := by
  cases ns with
  | nil => exact absurd rfl h0
  | cons n ns =>
    obtain ⟨s1, s2, s3⟩ := foldl_min_spec ns n
    exact ⟨_, rfl, s1.elim (fun e => by rw [e]; exact List.mem_cons_self) (List.mem_cons_of_mem _), fun y hy => (List.mem_cons.mp hy).elim (fun e => e ▸ s2) (s3 y)⟩
theorem maxL_of {ns : List Int} (h0 : ns ≠ []) : ∃ m, maxL ns = some m ∧ m ∈ ns ∧ ∀ y ∈ ns, y ≤ m := by
  cases ns with
  | nil => exact absurd rfl h0
  | cons n ns =>
    obtain ⟨s1, s2, s3⟩ := foldl_max_spec ns n
    exact ⟨_, rfl, s1.elim (fun e => by rw [e]; exact List.mem_cons_self) (List.mem_cons_of_mem _), fun y hy => (List.mem_cons.mp hy).elim (fun e => e ▸ s2) (s3 y)⟩
theorem ints_min {xs : List Int} (h : xs ≠ []) : ∃ m, dMin [.lst (xs.map D.int)] = .ok (.int m) ∧ m ∈ xs ∧ ∀ y ∈ xs, m ≤ y := by
  obtain ⟨m, e, hm, hle⟩ := minL_of h
  refine ⟨m, ?_, hm, hle⟩
  show oR ((dInts (xs.map D.int)).bind fun ns => (minL ns).map D.int) = _
  rw [dInts_map]
  show oR ((minL _).map D.int) = _
  rw [e]
  rfl
theorem ints_max {xs : List Int} (h : xs ≠ []) : ∃ m, dMax [.lst (xs.map D.int)] = .ok (.int m) ∧ m ∈ xs ∧ ∀ y ∈ xs, y ≤ m := by
  obtain ⟨m, e, hm, hle⟩ := maxL_of h
  refine ⟨m, ?_, hm, hle⟩
  show oR ((dInts (xs.map D.int)).bind fun ns => (maxL ns).map D.int) = _
  rw [dInts_map]
  show oR ((maxL _).map D.int) = _
  rw [e]
  rfl
theorem lele_of {a b c : List D → R D} {ρ : List D} {x y z : Int} (h1 : a ρ = .ok (.int x)) (h2 : b ρ = .ok (.int y)) (h3 : c ρ = .ok (.int z)) : gB (gChain oLe oLe a b c) ρ = .ok (decide (x ≤ y ∧ y ≤ z)) := by
  refine gB_bl ?_
  show (a ρ >>= fun x => b ρ >>= fun y => dChain oLe oLe x y (c ρ)) = _
  rw [h1, bind_ok, h2, bind_ok, h3]
  show (if decide (x ≤ y) = true then R.ok (D.bl (decide (y ≤ z))) else R.ok (.bl false)) = _
  by_cases p : x ≤ y
  · rw [if_pos (decide_eq_true p)]
    congr 2
    exact decide_eq_decide.mpr ⟨fun q => ⟨p, q⟩, fun q => q.2⟩
  · rw [if_neg (by rw [decide_eq_true_eq]; exact p), decide_eq_false fun q => p q.1]
theorem dNotIn_L13 (m : Int) : dNotIn (.int m) (.lst [.int 1, .int 3]) = .ok (.bl (decide (¬ (m = 1 ∨ m = 3)))) := dNotIn_13 m
theorem dNe_q (i j : Int) : dNe (.int i) (.int j) = .ok (.bl (decide (¬ i = j))) := dNe_p i j
theorem four4 {α : Type} {l : List α} (h : l.length = 4) : ∃ a b c d, l = [a, b, c, d] := by
  match l, h with
  | [a, b, c, d], _ => exact ⟨a, b, c, d, rfl⟩
theorem fault_step {cx : Unit} {P : List (List Nat)} {i : Nat} {l : List Nat} (h : P[i]? = some l) : tlR i (P.drop i) = (if cnt (wd l) = true then [(i, wd l)] else []) ++ tlR (i + 1) (P.drop (i + 1)) := by
  obtain ⟨hi, e⟩ := List.getElem?_eq_some_iff.mp h
  rw [List.drop_eq_getElem_cons hi, e]
  rfl
theorem rdR_head {n : Nat} {ws : List (List Nat)} {ls : List (Nat × List (List Nat))} {rows : List (List Nat)} : rdR ((n, ws) :: ls) none rows = match headB ws with
    | none => .inl n
    | some x => rdR ls (some x) rows := rfl
theorem rdR_row {n : Nat} {ws : List (List Nat)} {ls : List (Nat × List (List Nat))} {x : Hd} {rows : List (List Nat)} : rdR ((n, ws) :: ls) (some x) rows = match numsB ws x.w 0 (2 ^ x.d - 1) with
    | none => .inl n
    | some r => if rows.length = x.h * x.n then .inl n else rdR ls (some x) (rows ++ [r]) := rfl
theorem fault_eq {t : List Nat} (h : low t) (hl : t.length ≤ 1000000) : f__law_fault [tS t] = .ok (faultD (readO t)) := by
  have hsz : sizeLine = 16777216 := sizeLine_eq
  have e10 : Str.ofString "\n" = cS [10] := by decide +kernel
  have e0 : Str.ofString "" = cS [] := by decide +kernel
  have e32 : Str.ofString " " = cS [32] := by decide +kernel
  have e35 : Str.ofString "#" = cS [35] := by decide +kernel
  have ne := sp_pos 10 t
  have mem := sp_mem 10 t.length t (Nat.le_refl _)
  have len := sp_len 10 t.length t (Nat.le_refl _)
  rw [f__law_fault_run, g__law_fault, e10, e0, e32, e35, picW_eq]
  have spl := split_eq (l := t) 10 (by decide) (by omega)
  have last := ix_last ne
  have lq : low ((sp 10 t).getLast ne) := fun c hc => h c ((mem _ (List.getLast_mem ne)).2.2 c hc)
  have eq := tEq lq low_nil
  unfold readO
  obtain ⟨P, eP⟩ : ∃ P, P = popE (sp 10 t) := ⟨_, rfl⟩
  have eP2 : P = if (sp 10 t).getLast ne = [] then (sp 10 t).dropLast else sp 10 t := by
    rw [eP]
    unfold popE
    rw [List.getLast?_eq_some_getLast ne]
    by_cases q : (sp 10 t).getLast ne = []
    · rw [if_pos q, if_pos (congrArg some q)]
    · rw [if_neg q, if_neg fun z => q (Option.some.inj z)]
  have memP : ∀ l ∈ P, low l ∧ l.length ≤ 1000000 := fun l hl1 => by
    have : l ∈ sp 10 t := by
      rw [eP2] at hl1
      split at hl1
      · exact List.dropLast_subset _ hl1
      · exact hl1
    obtain ⟨_, a, b⟩ := mem l this
    exact ⟨fun c hc => h c (b c hc), by omega⟩
  have lenP : P.length ≤ 1000001 := by
    rw [eP2]
    split
    · rw [List.length_dropLast]; omega
    · omega
  rw [← eP]
  refine run_of ?_
  refine W.step (ρ' := [tS t, .lst ((sp 10 t).map tS), .non, .non, .non, .non, .non, .non]) (set_of ((gT2_of (l := t) rfl rfl).trans spl)) ?_
  refine W.bind (Q := fun ρ => ρ = [tS t, .lst (P.map tS), .non, .non, .non, .non, .non, .non]) ?_ ?_
  · have cond : gB (g2 dEq (g2 dIx (gv 1) (g1 dNeg (gc (.int 1)))) (gc (.str (cS [])))) [tS t, .lst ((sp 10 t).map tS), .non, .non, .non, .non, .non, .non] = .ok (decide ((sp 10 t).getLast ne = [])) := gB_bl (by
      show (dIx (.lst ((sp 10 t).map tS)) (.int (-1)) >>= fun a => R.ok (tS []) >>= fun b => dEq a b) = _
      rw [last, bind_ok, bind_ok, eq])
    unfold Stp gIte
    rw [cond, eP2]
    by_cases q : (sp 10 t).getLast ne = []
    · rw [decide_eq_true q, if_pos q]
      have s1 : dSl false (.lst ((sp 10 t).map tS)) none (some (-1)) = .ok (.lst ((sp 10 t).dropLast.map tS)) := by
        rw [dSl_l, cutD_map, cutD_m1, List.dropLast_eq_take]
      exact ⟨_, set_of (i := 1) (ρ := [tS t, .lst ((sp 10 t).map tS), .non, .non, .non, .non, .non, .non]) (show gSl false (gv 1) goN (goS (g1 dNeg (gc (.int 1)))) _ = _ from s1), rfl⟩
    · rw [decide_eq_false q, if_neg q]
      exact ⟨_, rfl, rfl⟩
  rintro ρ rfl
  have lenL : dLen [.lst (P.map tS)] = .ok (.int (P.length : Nat)) := by rw [dLen_l, List.length_map]
  have rg : dRng1 [.int (P.length : Nat)] = .ok (DL.intsFrom 0 1 P.length) := rng1N (by omega)
  have ixP : ∀ (i : Nat) (l : List Nat), P[i]? = some l → dIx (.lst (P.map tS)) (.int (i : Nat)) = .ok (tS l) := fun i l hi => ixL_get (by rw [List.getElem?_map, hi]; rfl)
  obtain ⟨L, eL⟩ : ∃ L, L = D.lst (P.map tS) := ⟨_, rfl⟩
  obtain ⟨T, eT⟩ : ∃ T, T = tS t := ⟨_, rfl⟩
  rw [← eL] at lenL ixP ⊢
  rw [← eT]
  clear eL eT
  refine W.step (ρ' := [T, L, .int (-1), .non, .non, .non, .non, .non]) rfl ?_
  refine W.step (ρ' := [T, L, .int (-1), .tup [.int 0, .int 0], .non, .non, .non, .non]) rfl ?_
  have inv0 : ∀ r, r = rdR (tlR 0 P) none [] → rdE P.length r = rdE P.length (rdR (tlR 0 P) none []) := fun r e => by rw [e]
  refine W.forR (lo := 0) (cc := 1) (n := P.length) (fun i ρ => ∃ (hd : Option Hd) (rows : List (List Nat)), (rdR (tlR 0 P) none [] = rdR (tlR i (P.drop i)) hd rows ∧ (∀ x, hd = some x → HdOk x ∧ rows.length ≤ x.h * x.n) ∧ (hd = none → rows = [])) ∧ ∃ (j4 : D) (j5 : D) (j6 : D) (j7 : D), ρ = [T, L, .int (leftI hd rows), sizeD hd, j4, j5, j6, j7]) (by
    show (gsC (gAll dLen (gsC (gv 1) gsN)) gsN _ >>= dRng1) = _
    have e1 : gsC (gAll dLen (gsC (gv 1) gsN)) gsN [T, L, .int (-1), .tup [.int 0, .int 0], .non, .non, .non, .non] = .ok [.int (P.length : Nat)] := by
      show (gAll dLen (gsC (gv 1) gsN) _ >>= fun d => gsN _ >>= fun ds => R.ok (d :: ds)) = _
      rw [gAll1 (d := L) rfl, lenL]
      rfl
    rw [e1]
    exact rg) ⟨none, [], ⟨rfl, (fun _ h => nomatch h), fun _ => rfl⟩, _, _, _, _, rfl⟩ ?_ ?_
  · rintro i hi ρ ⟨hd, rows, ⟨inv, hok, hno⟩, j4, j5, j6, j7, rfl⟩
    rw [show (0 + (i : Int) * 1) = ((i : Nat) : Int) by omega]
    obtain ⟨l, gl⟩ : ∃ l, P[i]? = some l := ⟨_, List.getElem?_eq_getElem hi⟩
    obtain ⟨low1, len1⟩ := memP l (List.mem_of_getElem? gl)
    have fs := fault_step (cx := ()) gl
    refine ⟨[T, L, .int (leftI hd rows), sizeD hd, .int (i : Nat), j5, j6, j7], rfl, ?_⟩
    have spl2 := split_eq (l := l) 32 (by decide) (by omega)
    have words : gLc (gIter (gT2 dSplit (g2 dIx (gv 1) (gv 4)) (gc (.str (cS [32]))))) (gtN 7) (gB (g2 dNe (gv 7) (gc (.str (cS []))))) (gv 7) [T, L, .int (leftI hd rows), sizeD hd, .int (i : Nat), j5, j6, j7] = .ok (.lst ((wd l).map tS)) := by
      refine gLc_filt (ed := tS) (xs := sp 32 l) (p := neB) (h := tS) ?_ fun w hw => ⟨[T, L, .int (leftI hd rows), sizeD hd, .int (i : Nat), j5, j6, tS w], rfl, ?_, fun _ => rfl⟩
      · show (gT2 dSplit (g2 dIx (gv 1) (gv 4)) (gc (tS [32])) _ >>= dIter) = _
        rw [gT2_of (l := l) (e := tS [32]) ((g2L rfl rfl).trans (ixP i l gl)) rfl, spl2]
        rfl
      · have lw : low w := fun c hc => low1 c ((sp_mem 32 l.length l (Nat.le_refl _) w hw).2.2 c hc)
        refine gB_bl ((g2L rfl rfl).trans ((tNe lw low_nil).trans ?_))
        unfold neB
        rw [decide_not]
    refine W.step (ρ' := [T, L, .int (leftI hd rows), sizeD hd, .int (i : Nat), .lst ((wd l).map tS), j6, j7]) (set_of words) ?_
    have wm := fun w (hw : w ∈ wd l) => wd_mem hw
    have wl := wd_len l
    cases ew : wd l with
    | nil =>
      rw [ew] at fs
      refine W.iteST (gOr_T rfl) (W.ctS ⟨hd, rows, ⟨inv.trans ?_, hok, hno⟩, _, _, _, _, rfl⟩)
      rw [fs]
      rfl
    | cons w ws =>
      rw [ew] at fs wm wl
      have okw : ∀ v ∈ w :: ws, low v ∧ v.length ≤ 1000000 := fun v hv => by
        obtain ⟨_, _, a, b⟩ := wm v hv
        exact ⟨fun c hc => low1 c (b c hc), by omega⟩
      have ne1 := (wm w List.mem_cons_self).1
      have i0 : dIx (.lst ((w :: ws).map tS)) (.int 0) = .ok (tS w) := ixL_get (i := 0) rfl
      have lenW : dLen [.lst ((w :: ws).map tS)] = .ok (.int ((ws.length + 1 : Nat) : Int)) := by rw [dLen_l, List.length_map]; rfl
      have nem : dEq (.lst ((w :: ws).map tS)) (.lst []) = .ok (.bl false) := by
        have ok1 : OkD 64 (.lst ((w :: ws).map tS)) := .lst (OkDs.of fun d hd => by
          obtain ⟨v, hv, rfl⟩ := List.mem_map.mp hd
          exact .str (low_str (okw v hv).1))
        have ok2 : OkD 64 (.lst []) := .lst .nil
        unfold dEq
        rw [ok1.eqOk, ok2.eqOk]
        rfl
      obtain ⟨c, r, ecr⟩ : ∃ c r, w = c :: r := by
        cases w with
        | nil => exact absurd rfl ne1
        | cons c r => exact ⟨c, r, rfl⟩
      have low0 := (okw w List.mem_cons_self).1
      have c0 : dIx (tS w) (.int 0) = .ok (tS [c]) := by
        have := tIx (a := w) (i := 0) (by rw [ecr]; exact Nat.succ_pos _) (by have := (okw w List.mem_cons_self).2; omega)
        rw [ecr] at this ⊢
        exact this
      have lowc : low [c] := fun y hy => low0 y (by rw [ecr, List.mem_singleton.mp hy]; exact List.mem_cons_self)
      have low35 : low [35] := fun y hy => by rw [List.mem_singleton.mp hy]; decide
      have eqc := tEq lowc low35
      have cn : cnt (w :: ws) = decide (¬ c = 35) := by
        rw [ecr]
        show decide ((some c : Option Nat) ≠ some 35) = _
        exact decide_eq_decide.mpr ⟨fun a b => a (congrArg some b), fun a b => a (Option.some.inj b)⟩
      have lcn : gLc (gIter (gv 5)) (gtN 7) gtt (gAll f__law_number (gsC (gv 7) gsN)) [T, L, .int (leftI hd rows), sizeD hd, .int (i : Nat), .lst ((w :: ws).map tS), j6, j7] = .ok (.lst (((w :: ws).map numI).map D.int)) := by
        rw [List.map_map]
        refine gLc_map (ed := tS) (xs := w :: ws) (h := fun v => .int (numI v)) rfl fun v hv => ⟨[T, L, .int (leftI hd rows), sizeD hd, .int (i : Nat), .lst ((w :: ws).map tS), j6, tS v], rfl, ?_⟩
        exact (gAll1 rfl).trans (lnumber_eq (okw v hv).1 (by have := (okw v hv).2; omega))
      have lenT : dLen [.lst (((w :: ws).map numI).map D.int)] = .ok (.int ((ws.length + 1 : Nat) : Int)) := by rw [dLen_l, List.length_map, List.length_map]; rfl
      obtain ⟨mn, emn, mn1, mn2⟩ := ints_min (xs := (w :: ws).map numI) (fun z => nomatch z)
      obtain ⟨mx, emx, mx1, mx2⟩ := ints_max (xs := (w :: ws).map numI) (fun z => nomatch z)
      have ixT : ∀ (j : Nat) (v : List Nat), (w :: ws)[j]? = some v → dIx (.lst (((w :: ws).map numI).map D.int)) (.int (j : Nat)) = .ok (.int (numI v)) := fun j v hj => ixL_get (by rw [List.getElem?_map, List.getElem?_map, hj]; rfl)
      have nep := tNe low0 picW_low
      obtain ⟨WL, eWL⟩ : ∃ WL, WL = D.lst ((w :: ws).map tS) := ⟨_, rfl⟩
      obtain ⟨TL, eTL⟩ : ∃ TL, TL = D.lst (((w :: ws).map numI).map D.int) := ⟨_, rfl⟩
      rw [← eWL] at i0 lenW nem lcn ⊢
      rw [← eTL] at lcn lenT emn emx ixT
      clear eWL eTL
      refine W.iteS (p := c = 35) (gOr_F (gB_bl ((g2L rfl rfl).trans nem)) (gB_bl ((g2L ((g2L ((g2L rfl rfl).trans i0) rfl).trans c0) rfl).trans (eqc.trans ?_)))) (fun z => ?_) (fun z => W.nxS ?_)
      · congr 2
        exact decide_eq_decide.mpr ⟨fun a => by simpa using a, fun a => by rw [a]⟩
      · rw [cn, decide_eq_false (fun y => y z)] at fs
        refine W.ctS ⟨hd, rows, ⟨inv.trans ?_, hok, hno⟩, _, _, _, _, rfl⟩
        rw [fs]
        rfl
      · rw [cn, decide_eq_true z] at fs
        have fs : tlR i (P.drop i) = (i, w :: ws) :: tlR (i + 1) (P.drop (i + 1)) := fs
        rw [fs] at inv
        refine W.step (ρ' := [T, L, .int (leftI hd rows), sizeD hd, .int (i : Nat), WL, TL, j7]) (set_of lcn) ?_
        cases hd with
        | none =>
          rw [rdR_head] at inv
          have back : headB (w :: ws) = none → (D.int (i : Nat)) = faultD (rdE P.length (rdR (tlR 0 P) none [])) := fun q => by
            rw [inv, q]
            rfl
          refine W.iteT (gB_bl ((g2L rfl rfl).trans ((dLt_i _ _).trans (by rw [decide_eq_true (show leftI none rows < 0 by show (-1 : Int) < 0; decide)])))) ?_
          by_cases hp : w = picW
          · have n0 := gB_bl ((g2L (f := dNe) (ρ := [T, L, .int (leftI none rows), sizeD none, .int (i : Nat), WL, TL, j7]) (a := g2 dIx (gv 5) (gc (.int 0))) (b := gc (.str (cS picW))) ((g2L rfl rfl).trans i0) rfl).trans (nep.trans (by rw [decide_eq_true hp, Bool.not_true])))
            by_cases hl4 : ws.length = 4
            · obtain ⟨a, b, c', d, e4⟩ := four4 hl4
              subst e4 hp
              have t1 := ixT 1 a rfl
              have t2 := ixT 2 b rfl
              have t3 := ixT 3 c' rfl
              have t4 := ixT 4 d rfl
              have hb4 := headB_four (a := a) (b := b) (c := c') (d := d)
              have n5 := gB_bl ((g2L (f := dNe) (ρ := [T, L, .int (leftI none rows), sizeD none, .int (i : Nat), WL, TL, j7]) (a := gAll dLen (gsC (gv 5) gsN)) (b := gc (.int 5)) (gAll1T rfl lenW) rfl).trans ((dNe_q _ _).trans (by rw [decide_eq_false (by show ¬ ¬ (((4 + 1 : Nat) : Int) = 5); decide)])))
              have ch1 := lele_of (ρ := [T, L, .int (leftI none rows), sizeD none, .int (i : Nat), WL, TL, j7]) (a := gc (.int 1)) (b := g2 dIx (gv 6) (gc (.int 1))) (c := gc (.int 40)) rfl ((g2L rfl rfl).trans t1) rfl
              have ch2 := lele_of (ρ := [T, L, .int (leftI none rows), sizeD none, .int (i : Nat), WL, TL, j7]) (a := gc (.int 1)) (b := g2 dIx (gv 6) (gc (.int 2))) (c := gc (.int 40)) rfl ((g2L rfl rfl).trans t2) rfl
              have ch3 := lele_of (ρ := [T, L, .int (leftI none rows), sizeD none, .int (i : Nat), WL, TL, j7]) (a := gc (.int 1)) (b := g2 dIx (gv 6) (gc (.int 3))) (c := gc (.int 8)) rfl ((g2L rfl rfl).trans t3) rfl
              refine W.iteS (p := (¬ (1 ≤ numI a ∧ numI a ≤ 40)) ∨ ¬ (1 ≤ numI b ∧ numI b ≤ 40)) (gOr_F n0 (gOr_F n5 (gOr_dec (gNot_dec ch1) (gNot_dec ch2)))) (fun q => W.rtS rfl (back (by rw [hb4, if_neg (fun y => q.elim (fun p => p y.1) fun p => p y.2.1)]))) (fun q => W.nxS ?_)
              have qa : 1 ≤ numI a ∧ numI a ≤ 40 := Classical.byContradiction fun y => q (.inl y)
              have qb : 1 ≤ numI b ∧ numI b ≤ 40 := Classical.byContradiction fun y => q (.inr y)
              refine W.iteS (p := (¬ (1 ≤ numI c' ∧ numI c' ≤ 8)) ∨ ¬ (numI d = 1 ∨ numI d = 3)) (gOr_dec (gNot_dec ch3) (gB_bl ((g2L ((g2L rfl rfl).trans t4) rfl).trans (dNotIn_L13 _)))) (fun q2 => W.rtS rfl (back (by rw [hb4, if_neg (fun y => q2.elim (fun p => p y.2.2.1) fun p => p y.2.2.2)]))) (fun q2 => W.nxS ?_)
              have qc : 1 ≤ numI c' ∧ numI c' ≤ 8 := Classical.byContradiction fun y => q2 (.inl y)
              have qd : numI d = 1 ∨ numI d = 3 := Classical.byContradiction fun y => q2 (.inr y)
              rw [if_pos ⟨qa, qb, qc, qd⟩] at hb4
              have ok4 := headB_ok hb4
              rw [hb4] at inv
              have mm : dMul (.int (numI b)) (.int (numI d)) = .ok (.int (leftI (some ⟨(numI a).toNat, (numI b).toNat, (numI c').toNat, (numI d).toNat⟩) rows)) := by
                have e : dMul (.int (numI b)) (.int (numI d)) = .ok (.int (numI b * numI d)) := dMul_l (by omega) (by omega)
                rw [e, hno rfl]
                show _ = R.ok (D.int ((((numI b).toNat * (numI d).toNat : Nat) : Int) - (0 : Nat)))
                rw [Int.natCast_mul, Int.toNat_of_nonneg (by omega), Int.toNat_of_nonneg (by omega)]
                congr 2
                omega
              have pw := power_eq (numI c').toNat (by omega)
              rw [Int.toNat_of_nonneg (by omega)] at pw
              refine W.step (ρ' := [T, L, .int (leftI (some ⟨(numI a).toNat, (numI b).toNat, (numI c').toNat, (numI d).toNat⟩) rows), sizeD none, .int (i : Nat), WL, TL, j7]) (set_of ((g2L ((g2L rfl rfl).trans t2) ((g2L rfl rfl).trans t4)).trans mm)) ?_
              refine W.nx1 (ρ' := [T, L, .int (leftI (some ⟨(numI a).toNat, (numI b).toNat, (numI c').toNat, (numI d).toNat⟩) rows), sizeD (some ⟨(numI a).toNat, (numI b).toNat, (numI c').toNat, (numI d).toNat⟩), .int (i : Nat), WL, TL, j7]) (set_of ?_) ⟨some ⟨(numI a).toNat, (numI b).toNat, (numI c').toNat, (numI d).toNat⟩, rows, ⟨inv, fun x hx => ?_, fun z => nomatch z⟩, _, _, _, _, rfl⟩
              · refine (gAllB ((g2L rfl rfl).trans t1) (gAll1T ((g2L rfl rfl).trans t3) pw)).trans ((dTup_2 _ _).trans ?_)
                show _ = R.ok (D.tup [.int (((numI a).toNat : Nat) : Int), .int (2 ^ (numI c').toNat)])
                rw [Int.toNat_of_nonneg (by omega)]
              · cases hx
                refine ⟨ok4, ?_⟩
                rw [hno rfl]
                exact Nat.zero_le _
            · have n5 := gB_bl ((g2L (f := dNe) (ρ := [T, L, .int (leftI none rows), sizeD none, .int (i : Nat), WL, TL, j7]) (a := gAll dLen (gsC (gv 5) gsN)) (b := gc (.int 5)) (gAll1T rfl lenW) rfl).trans ((dNe_q _ _).trans (by rw [decide_eq_true (show ¬ (((ws.length + 1 : Nat) : Int) = 5) by omega)])))
              exact W.iteST (gOr_F n0 (gOr_T n5)) (W.rtS rfl (back (headB_len hl4)))
          · have n0 := gB_bl ((g2L (f := dNe) (ρ := [T, L, .int (leftI none rows), sizeD none, .int (i : Nat), WL, TL, j7]) (a := g2 dIx (gv 5) (gc (.int 0))) (b := gc (.str (cS picW))) ((g2L rfl rfl).trans i0) rfl).trans (nep.trans (by rw [decide_eq_false hp, Bool.not_false])))
            exact W.iteST (gOr_T n0) (W.rtS rfl (back (headB_pic hp)))
        | some x =>
          obtain ⟨xok, rl⟩ := hok x rfl
          have left0 : 0 ≤ leftI (some x) rows := by
            show (0 : Int) ≤ ((x.h * x.n : Nat) : Int) - rows.length
            omega
          refine W.iteF (gB_bl ((g2L rfl rfl).trans ((dLt_i _ _).trans (by rw [decide_eq_false (by omega)])))) ?_
          rw [rdR_row] at inv
          have sz0 : dIx (sizeD (some x)) (.int 0) = .ok (.int (x.w : Nat)) := rfl
          have sz1 : dIx (sizeD (some x)) (.int 1) = .ok (.int (2 ^ x.d)) := rfl
          have two : (2 ^ x.d : Int) = ((2 ^ x.d : Nat) : Int) := by rw [Int.natCast_pow]; rfl
          have two1 : 1 ≤ 2 ^ x.d := Nat.one_le_two_pow
          have cond : gOr (gB (g2 dEq (gv 2) (gc (.int 0)))) (gOr (gB (g2 dNe (gAll dLen (gsC (gv 6) gsN)) (g2 dIx (gv 3) (gc (.int 0))))) (gOr (gB (g2 dLt (gAll dMin (gsC (gv 6) gsN)) (gc (.int 0)))) (gB (g2 dGe (gAll dMax (gsC (gv 6) gsN)) (g2 dIx (gv 3) (gc (.int 1))))))) [T, L, .int (leftI (some x) rows), sizeD (some x), .int (i : Nat), WL, TL, j7]
              = .ok (decide (rows.length = x.h * x.n ∨ numsB (w :: ws) x.w 0 (2 ^ x.d - 1) = none)) := by
            by_cases c1 : rows.length = x.h * x.n
            · rw [decide_eq_true (.inl c1)]
              refine gOr_T (gB_bl ((g2L rfl rfl).trans ((dEq_i _ _).trans ?_)))
              rw [decide_eq_true (show leftI (some x) rows = 0 by show ((x.h * x.n : Nat) : Int) - rows.length = 0; omega)]
            refine gOr_F (gB_bl ((g2L rfl rfl).trans ((dEq_i _ _).trans (by rw [decide_eq_false (show ¬ leftI (some x) rows = 0 by show ¬ ((x.h * x.n : Nat) : Int) - rows.length = 0; omega)])))) ?_
            by_cases c2 : (w :: ws).length = x.w
            · have c2' : ws.length + 1 = x.w := c2
              refine gOr_F (gB_bl ((g2L (gAll1T rfl lenT) ((g2L rfl rfl).trans sz0)).trans ((dNe_q _ _).trans (by rw [decide_eq_false (by omega)])))) ?_
              have nn : numsB (w :: ws) x.w 0 (2 ^ x.d - 1) = allN 0 (2 ^ x.d - 1) (w :: ws) := if_pos c2
              rw [nn]
              have key : (rows.length = x.h * x.n ∨ allN 0 (2 ^ x.d - 1) (w :: ws) = none) ↔ (mn < 0 ∨ mx ≥ 2 ^ x.d) := by
                rw [allN_none]
                constructor
                · rintro (q | ⟨v, hv, q⟩)
                  · exact absurd q c1
                  · have a1 := mn2 (numI v) (List.mem_map.mpr ⟨v, hv, rfl⟩)
                    have a2 := mx2 (numI v) (List.mem_map.mpr ⟨v, hv, rfl⟩)
                    rw [two]
                    omega
                · rintro (q | q)
                  · obtain ⟨v, hv, e⟩ := List.mem_map.mp mn1
                    exact .inr ⟨v, hv, by omega⟩
                  · obtain ⟨v, hv, e⟩ := List.mem_map.mp mx1
                    rw [two] at q
                    exact .inr ⟨v, hv, by omega⟩
              rw [decide_eq_decide.mpr key]
              exact gOr_dec (gB_bl ((g2L (gAll1T rfl emn) rfl).trans (dLt_i _ _))) (gB_bl ((g2L (gAll1T rfl emx) ((g2L rfl rfl).trans sz1)).trans (dGe_i _ _)))
            · have c2' : ¬ ws.length + 1 = x.w := c2
              rw [decide_eq_true (.inr (if_neg c2))]
              exact gOr_T (gB_bl ((g2L (gAll1T rfl lenT) ((g2L rfl rfl).trans sz0)).trans ((dNe_q _ _).trans (by rw [decide_eq_true (by omega)]))))
          refine W.ite cond (fun q => ?_) (fun q => ?_)
          · refine W.rt1 rfl ?_
            rw [inv]
            cases en : numsB (w :: ws) x.w 0 (2 ^ x.d - 1) with
            | none => rfl
            | some r' =>
              have c1 : rows.length = x.h * x.n := q.resolve_right fun y => by rw [en] at y; cases y
              show D.int (i : Nat) = faultD (rdE P.length (if rows.length = x.h * x.n then .inl i else rdR (tlR (i + 1) (P.drop (i + 1))) (some x) (rows ++ [r'])))
              rw [if_pos c1]
              rfl
          · cases en : numsB (w :: ws) x.w 0 (2 ^ x.d - 1) with
            | none => exact absurd (.inr en) q
            | some r' =>
              have c1 : ¬ rows.length = x.h * x.n := fun y => q (.inl y)
              rw [en] at inv
              have inv : rdR (tlR 0 P) none [] = if rows.length = x.h * x.n then .inl i else rdR (tlR (i + 1) (P.drop (i + 1))) (some x) (rows ++ [r']) := inv
              rw [if_neg c1] at inv
              refine W.nx1 (ρ' := [T, L, .int (leftI (some x) (rows ++ [r'])), sizeD (some x), .int (i : Nat), WL, TL, j7]) (set_of ((g2L rfl rfl).trans ((dSub_i _ _).trans ?_))) ⟨some x, rows ++ [r'], ⟨inv, fun y hy => ?_, fun z => nomatch z⟩, _, _, _, _, rfl⟩
              · show R.ok (D.int (((x.h * x.n : Nat) : Int) - rows.length - 1)) = R.ok (D.int (((x.h * x.n : Nat) : Int) - (rows ++ [r']).length))
                rw [List.length_append]
                congr 2
                show _ = ((x.h * x.n : Nat) : Int) - ((rows.length + 1 : Nat) : Int)
                omega
              · cases hy
                refine ⟨xok, ?_⟩
                rw [List.length_append]
                show rows.length + 1 ≤ _
                omega
  · rintro ρ ⟨hd, rows, ⟨inv, hok, hno⟩, j4, j5, j6, j7, rfl⟩
    rw [List.drop_of_length_le (Nat.le_refl _)] at inv
    have inv : rdR (tlR 0 P) none [] = .inr (hd, rows) := inv
    rw [inv]
    have l2 : gAll dLst (gsC (gAll dLen (gsC (gv 1) gsN)) (gsC (gc .non) gsN)) [T, L, .int (leftI hd rows), sizeD hd, j4, j5, j6, j7] = .ok (.lst [.int (P.length : Nat), .non]) := (gAllB (gAll1T rfl lenL) rfl).trans (dLst_2 _ _)
    have fin : ∀ b : Bool, decide (leftI hd rows = 0) = b → g2 dIx (gAll dLst (gsC (gAll dLen (gsC (gv 1) gsN)) (gsC (gc .non) gsN))) (gAll dToInt (gsC (g2 dEq (gv 2) (gc (.int 0))) gsN)) [T, L, .int (leftI hd rows), sizeD hd, j4, j5, j6, j7] = .ok (if b = true then .non else .int (P.length : Nat)) := fun b hb => by
      refine (g2L (y := .int (if b = true then 1 else 0)) l2 (gAll1T ((g2L rfl rfl).trans ((dEq_i _ _).trans (by rw [hb]))) ?_)).trans ?_
      · cases b <;> rfl
      · cases b <;> rfl
    cases hd with
    | none => exact W.rt1 (fin false (decide_eq_false (by show ¬ (-1 : Int) = 0; decide))) rfl
    | some x =>
      obtain ⟨xok, rl⟩ := hok x rfl
      by_cases q : rows.length < x.h * x.n
      · refine W.rt1 (fin false (decide_eq_false (by show ¬ ((x.h * x.n : Nat) : Int) - rows.length = 0; omega))) ?_
        show _ = faultD (if rows.length < x.h * x.n then .inl P.length else .inr (x, rows))
        rw [if_pos q]
        rfl
      · refine W.rt1 (fin true (decide_eq_true (by show ((x.h * x.n : Nat) : Int) - rows.length = 0; omega))) ?_
        show _ = faultD (if rows.length < x.h * x.n then .inl P.length else .inr (x, rows))
        rw [if_neg q]
        rfl
theorem strip_parts2 (a : List Nat) : ∃ (i j : Nat) (m : List Nat), a = List.replicate i 32 ++ (m ++ List.replicate j 32) ∧ (∀ x r, m = x :: r → x ≠ 32) ∧ Txt.stripChars (cS a) (cS [32]) = cS m := by
  let g : Nat → Bool := (cS [32]).cps.contains
  have hg : ∀ x, g x = true → x = 32 := fun x hx => by
    have hx : (#[32] : Array Nat).contains x = true := hx
    simpa using hx
  have all : ∀ l : List Nat, ∀ x ∈ l.takeWhile g, x = 32 := fun l x hx => hg x (List.all_eq_true.mp List.all_takeWhile x hx)
  obtain ⟨tw, etw⟩ : ∃ tw, tw = a.takeWhile g := ⟨_, rfl⟩
  obtain ⟨dw, edw⟩ : ∃ dw, dw = a.dropWhile g := ⟨_, rfl⟩
  obtain ⟨t2, et2⟩ : ∃ t2, t2 = dw.reverse.takeWhile g := ⟨_, rfl⟩
  obtain ⟨d2, ed2⟩ : ∃ d2, d2 = dw.reverse.dropWhile g := ⟨_, rfl⟩
  have e1 : a = tw ++ dw := by rw [etw, edw]; exact List.takeWhile_append_dropWhile.symm
  have e2 : dw.reverse = t2 ++ d2 := by rw [et2, ed2]; exact List.takeWhile_append_dropWhile.symm
  have e3 : dw = d2.reverse ++ t2.reverse := by rw [← List.reverse_append, ← e2, List.reverse_reverse]
  have r1 : tw = List.replicate tw.length 32 := List.eq_replicate_of_mem fun x hx => all a x (etw ▸ hx)
  have r2 : t2 = List.replicate t2.length 32 := List.eq_replicate_of_mem fun x hx => all dw.reverse x (et2 ▸ hx)
  have r3 : t2.reverse = List.replicate t2.length 32 := by
    conv => lhs; rw [r2]
    rw [List.reverse_replicate]
  refine ⟨tw.length, t2.length, d2.reverse, by rw [← r1, ← r3, ← e3]; exact e1, fun x r e => ?_, ?_⟩
  · have e4 : a.dropWhile g = x :: (r ++ t2.reverse) := by rw [← edw, e3, e]; rfl
    have hd := List.head?_dropWhile_not g a
    rw [e4] at hd
    intro z
    have hd : g x = false := by simpa using hd
    rw [z] at hd
    exact absurd hd (by decide +kernel)
  have lo : stripLo g true (cS a) = tw.length := by rw [etw]; rfl
  have dr : a.drop tw.length = dw := by
    conv => lhs; rw [e1]
    exact List.drop_left
  have hi : stripHi g true (cS a) tw.length = a.length - t2.length := by
    show a.length - ((a.drop tw.length).reverse.takeWhile g).length = _
    rw [dr, ← et2]
  have la : a.length = tw.length + (d2.length + t2.length) := by
    have := congrArg List.length e1
    have z := congrArg List.length e3
    rw [List.length_append] at this z
    rw [List.length_reverse, List.length_reverse] at z
    omega
  show (if stripSame g true true (cS a) = true then cS a else PySem.Builtin.Str.strSub (cS a) (stripLo g true (cS a)) (stripHi g true (cS a) (stripLo g true (cS a)))) = _
  have same : stripSame g true true (cS a) = (tw.length == 0 && a.length - t2.length == a.length) := by
    show (stripLo g true (cS a) == 0 && stripHi g true (cS a) (stripLo g true (cS a)) == (cS a).length) = _
    rw [lo, hi]
    rfl
  rw [same, lo, hi]
  split
  · rename_i h
    rw [Bool.and_eq_true, beq_iff_eq, beq_iff_eq] at h
    have t1 : tw = [] := List.length_eq_zero_iff.mp h.1
    have t3 : t2 = [] := List.length_eq_zero_iff.mp (by omega)
    rw [e1, e3, t1, t3]
    show cS (d2.reverse ++ []) = _
    rw [List.append_nil]
  · refine TL.ext_tl ?_
    show (a.toArray.extract tw.length (a.length - t2.length)).toList = d2.reverse
    rw [List.extract_toArray, List.extract_eq_take_drop]
    show (a.drop tw.length).take (a.length - t2.length - tw.length) = _
    rw [dr, e3, show a.length - t2.length - tw.length = d2.reverse.length by rw [List.length_reverse]; omega]
    exact List.take_left
theorem setI_x {i j : Nat} {d : D} {g gi : List D → R D} {ρ ds : List D} (h4 : g ρ = .ok d) (h1 : gi ρ = .ok (.int (j : Nat))) (h2 : ρ.getD i .non = .lst ds) (h3 : j < ds.length) :
    gSetI i g gi ρ = .ok (.nx (ρ.set i (.lst (ds.set j d)))) := by
  unfold gSetI
  rw [h4, bind_ok, h1, bind_ok]
  show (match ρ.getD i .non with
    | .lst ds => oR (ixN ds.length (j : Int)) >>= fun j => R.ok (Fl.nx (ρ.set i (.lst (ds.set j d))))
    | _ => .bad) = _
  rw [h2]
  show (oR (ixN ds.length (j : Int)) >>= _) = _
  unfold ixN
  rw [if_pos (by omega), if_pos (by omega), Int.toNat_natCast]
  rfl
def wt (ws : List (List Nat)) : Nat := (ws.map fun w => w.length + 1).sum
theorem wt_app (a b : List (List Nat)) : wt (a ++ b) = wt a + wt b := by unfold wt; rw [List.map_append, List.sum_append]
theorem wt_sp (c : Nat) : ∀ (n : Nat) (a : List Nat), a.length ≤ n → wt (sp c a) = a.length + 1
  | n, a, hn => by
    rcases sp_cases c a with ⟨h1, h2⟩ | ⟨p, q, h1, h2, h3⟩
    · rw [h2]; rfl
    · have hl : a.length = p.length + (q.length + 1) := by rw [h2, List.length_append, List.length_cons]
      cases n with
      | zero => omega
      | succ n =>
        have := wt_sp c n q (by omega)
        rw [h3]
        show p.length + 1 + wt (sp c q) = _
        omega
theorem wt_filter (p : List Nat → Bool) : ∀ ws : List (List Nat), wt (ws.filter p) ≤ wt ws
  | [] => Nat.le_refl _
  | w :: ws => by
    have := wt_filter p ws
    rw [List.filter_cons]
    show _ ≤ w.length + 1 + wt ws
    split
    · show w.length + 1 + wt _ ≤ _
      omega
    · omega
theorem wt_wd (a : List Nat) : wt (wd a) ≤ a.length + 1 := Nat.le_trans (wt_filter _ _) (Nat.le_of_eq (wt_sp 32 _ a (Nat.le_refl _)))
theorem joinL_wt : ∀ ws : List (List Nat), (TL.joinL [32] ws).length ≤ wt ws
  | [] => Nat.zero_le _
  | [w] => by show w.length ≤ w.length + 1 + 0; omega
  | w :: x :: r => by
    have := joinL_wt (x :: r)
    show (w ++ ([32] ++ TL.joinL [32] (x :: r))).length ≤ w.length + 1 + wt (x :: r)
    rw [List.length_append, List.length_append, List.length_singleton]
    omega
theorem len_wt : ∀ ws : List (List Nat), ws.length ≤ wt ws ∧ ∀ w ∈ ws, w.length ≤ wt ws
  | [] => ⟨Nat.le_refl _, fun _ h => nomatch h⟩
  | w :: ws => by
    obtain ⟨a, b⟩ := len_wt ws
    have e : wt (w :: ws) = w.length + 1 + wt ws := rfl
    rw [e, List.length_cons]
    exact ⟨by omega, fun v hv => (List.mem_cons.mp hv).elim (fun z => by rw [z]; omega) fun hv => by have := b v hv; omega⟩
theorem joinW {ws : List (List Nat)} (h : ∀ w ∈ ws, low w) (hl : wt ws ≤ 3200) : dJoin (tS [32]) (.lst (ws.map tS)) = .ok (tS (TL.joinL [32] ws)) ∧ low (TL.joinL [32] ws) ∧ (TL.joinL [32] ws).length ≤ wt ws := by
  obtain ⟨a, b⟩ := len_wt ws
  refine ⟨tJoin (k := 3200) (n := 3200) (fun w hw => Nat.le_trans (b w hw) hl) (by omega) (by decide), fun c hc => ?_, joinL_wt ws⟩
  rcases joinL_mem [32] hc with q | ⟨w, hw, q⟩
  · rw [List.mem_singleton.mp q]; decide
  · exact h w hw c q
def odd08 : List Str := ([Str.ofString "0", Str.ofString "1", Str.ofString "2", Str.ofString "3", Str.ofString "4", Str.ofString "7", Str.ofString "8", Str.ofString "9", Str.ofString "15", Str.ofString "16", Str.ofString "31", Str.ofString "39", Str.ofString "40", Str.ofString "41", Str.ofString "127", Str.ofString "128"] ++
  [Str.ofString "63", Str.ofString "64", Str.ofString "255", Str.ofString "256", Str.ofString "00", Str.ofString "01"] ++ [Str.ofString "007", Str.ofString "-1", Str.ofString "+1", Str.ofString "1.", Str.ofString "x", Str.ofString "picture", Str.ofString "Picture", Str.ofString "#", Str.ofString "1000000000", Str.ofString "9999"] ++
  [Txt.mul (Str.ofString "1") 60, Str.ofString "1 1", Str.ofString "0 0"]) ++ (List.replicate 3 [Str.ofString "00", Str.ofString "01", Str.ofString "007", Str.ofString "00"]).flatten
theorem odd08_ok : ∀ s ∈ odd08, low s.cps.toList ∧ s.cps.toList.length ≤ 60 := by
  have h : odd08.all (fun s => s.cps.toList.all (· < 128) && decide (s.cps.toList.length ≤ 60)) = true := by decide +kernel
  intro s hs
  have q := List.all_eq_true.mp h s hs
  rw [Bool.and_eq_true, decide_eq_true_eq] at q
  exact ⟨fun c hc => of_decide_eq_true (List.all_eq_true.mp q.1 c hc), q.2⟩
theorem odd08_len : odd08.length = 47 := by decide +kernel
theorem tOf (x : Str) : D.str x = tS x.cps.toList := by
  obtain ⟨⟨l⟩⟩ := x
  rfl
theorem strs_nl (ss : List Str) : (ss.map D.str).all nlB = true := by
  rw [List.all_eq_true]
  intro d hd
  obtain ⟨s, _, rfl⟩ := List.mem_map.mp hd
  rfl
theorem tS_nl (ss : List (List Nat)) : (ss.map tS).all nlB = true := by
  rw [List.all_eq_true]
  intro d hd
  obtain ⟨s, _, rfl⟩ := List.mem_map.mp hd
  rfl
theorem add_ss {a b : List Str} (h : a.length + b.length ≤ 1000000) : dAdd (.lst (a.map D.str)) (.lst (b.map D.str)) = .ok (.lst ((a ++ b).map D.str)) := (dAdd_lst (strs_nl a) (strs_nl b) (by rw [List.length_map, List.length_map]; exact h)).trans (by rw [List.map_append])
theorem add_ts {a b : List (List Nat)} (h : a.length + b.length ≤ 1000000) : dAdd (.lst (a.map tS)) (.lst (b.map tS)) = .ok (.lst ((a ++ b).map tS)) := (dAdd_lst (tS_nl a) (tS_nl b) (by rw [List.length_map, List.length_map]; exact h)).trans (by rw [List.map_append])
theorem dEq_any {x y : D} (h1 : OkD 64 x) (h2 : OkD 64 y) : ∃ b, dEq x y = .ok (.bl b) := by
  unfold dEq
  rw [h1.eqOk, h2.eqOk]
  exact ⟨_, rfl⟩
theorem gAnd_any {a b : List D → R Bool} {ρ : List D} {p q : Bool} (h1 : a ρ = .ok p) (h2 : b ρ = .ok q) : gAnd a b ρ = .ok (p && q) := by
  unfold gAnd
  rw [h1, bind_ok, h2]
  cases p <;> rfl
theorem pick12 {i j : Int} (hi : 0 ≤ i ∧ i < 4) (hj : 0 ≤ j ∧ j < 3) : ∃ (L d : D) (s : Str), dIx (.lst [.lst [.str (Str.ofString "41"), .str (Str.ofString "0"), .str (Str.ofString "40")], .lst [.str (Str.ofString "41"), .str (Str.ofString "0"), .str (Str.ofString "1")], .lst [.str (Str.ofString "9"), .str (Str.ofString "0"), .str (Str.ofString "8")], .lst [.str (Str.ofString "2"), .str (Str.ofString "4"), .str (Str.ofString "0")]]) (.int i) = .ok L ∧ dIx L (.int j) = .ok (.str s) ∧ low s.cps.toList ∧ s.cps.toList.length ≤ 60 := by
  have all : ∀ s ∈ [Str.ofString "41", Str.ofString "0", Str.ofString "40", Str.ofString "1", Str.ofString "9", Str.ofString "8", Str.ofString "2", Str.ofString "4"], low s.cps.toList ∧ s.cps.toList.length ≤ 60 := by
    have h : [Str.ofString "41", Str.ofString "0", Str.ofString "40", Str.ofString "1", Str.ofString "9", Str.ofString "8", Str.ofString "2", Str.ofString "4"].all (fun s => s.cps.toList.all (· < 128) && decide (s.cps.toList.length ≤ 60)) = true := by decide +kernel
    intro s hs
    have q := List.all_eq_true.mp h s hs
    rw [Bool.and_eq_true, decide_eq_true_eq] at q
    exact ⟨fun c hc => of_decide_eq_true (List.all_eq_true.mp q.1 c hc), q.2⟩
  have i4 : i = 0 ∨ i = 1 ∨ i = 2 ∨ i = 3 := by omega
  have j3 : j = 0 ∨ j = 1 ∨ j = 2 := by omega
  rcases i4 with q | q | q | q <;> rcases j3 with r | r | r <;> subst q r <;> exact ⟨_, .non, _, rfl, rfl, all _ (by simp)⟩
theorem changed08 {l : List Nat} (hl : l.length ≤ 1400) (h : low l) (c : Int) : ∃ l' : List Nat, low l' ∧ l'.length ≤ 2 * l.length + 100 ∧ f__law_changed [tS l, .int c] = .ok (tS l') := by
  have hsz : sizeLine = 16777216 := sizeLine_eq
  have e32 : Str.ofString " " = cS [32] := by decide +kernel
  have e0 : Str.ofString "" = cS [] := by decide +kernel
  have e10 : Str.ofString "\n" = cS [10] := by decide +kernel
  have spl := split_eq (l := l) 32 (by decide) (by omega)
  have ln := tLen (a := l) (by omega)
  have wtl := wt_wd l
  have lw : ∀ w ∈ wd l, low w := fun w hw y hy => h y ((wd_mem hw).2.2.2 y hy)
  obtain ⟨lenw, lenw2⟩ := len_wt (wd l)
  have sgl : (Str.ofString " !\"#$&'()*+,-./0123456789:;<=>?@ABCDEFGHIJKLMNOPQRSTUVWXYZ[\\]^_`{|}~\n").cps.toList.all (· < 128) = true ∧ (Str.ofString " !\"#$&'()*+,-./0123456789:;<=>?@ABCDEFGHIJKLMNOPQRSTUVWXYZ[\\]^_`{|}~\n").cps.toList.length = 69 := by decide +kernel
  have key : Ok (f__law_changed [tS l, .int c]) fun d => ∃ l' : List Nat, d = tS l' ∧ low l' ∧ l'.length ≤ 2 * l.length + 100 := by
    rw [f__law_changed_run, g__law_changed, e32, e0, e10]
    refine W.fn ?_
    have words : gLc (gIter (gT2 dSplit (gv 0) (gc (.str (cS [32]))))) (gtN 5) (gB (g2 dNe (gv 5) (gc (.str (cS []))))) (gv 5) [tS l, .int c, .non, .non, .non, .non, .non, .non, .non] = .ok (.lst ((wd l).map tS)) := by
      refine gLc_filt (ed := tS) (xs := sp 32 l) (p := neB) (h := tS) ?_ fun w hw => ⟨[tS l, .int c, .non, .non, .non, tS w, .non, .non, .non], rfl, ?_, fun _ => rfl⟩
      · show (gT2 dSplit (gv 0) (gc (tS [32])) _ >>= dIter) = _
        rw [gT2_of (l := l) (e := tS [32]) rfl rfl, spl]
        rfl
      · have lw : low w := fun c hc => h c ((sp_mem 32 l.length l (Nat.le_refl _) w hw).2.2 c hc)
        refine gB_bl ((g2L rfl rfl).trans ((tNe lw low_nil).trans ?_))
        unfold neB
        rw [decide_not]
    refine W.step (ρ' := [tS l, .int c, .lst ((wd l).map tS), .non, .non, .non, .non, .non, .non]) (set_of words) ?_
    have lenW : dLen [.lst ((wd l).map tS)] = .ok (.int ((wd l).length : Nat)) := by rw [dLen_l, List.length_map]
    have x1 := mixed_eq c 1 (((wd l).length : Nat) + 1) (by omega) (by omega) (by omega)
    have b1 := mixI_lt c 1 (((wd l).length : Nat) + 1) (by omega)
    obtain ⟨a, ea⟩ : ∃ a : Nat, mixI c 1 (((wd l).length : Nat) + 1) = a := ⟨(mixI c 1 (((wd l).length : Nat) + 1)).toNat, by omega⟩
    rw [ea] at x1 b1
    refine W.step (ρ' := [tS l, .int c, .lst ((wd l).map tS), .int (a : Nat), .non, .non, .non, .non, .non]) (set_of ((gAll3 rfl rfl ((g2L (gAll1T rfl lenW) rfl).trans (dAdd_i _ _))).trans x1)) ?_
    let A1 : List Str := [Str.ofString "0", Str.ofString "1", Str.ofString "2", Str.ofString "3", Str.ofString "4", Str.ofString "7", Str.ofString "8", Str.ofString "9", Str.ofString "15", Str.ofString "16", Str.ofString "31", Str.ofString "39", Str.ofString "40", Str.ofString "41", Str.ofString "127", Str.ofString "128"]
    let A2 : List Str := [Str.ofString "63", Str.ofString "64", Str.ofString "255", Str.ofString "256", Str.ofString "00", Str.ofString "01"]
    let A3 : List Str := [Str.ofString "007", Str.ofString "-1", Str.ofString "+1", Str.ofString "1.", Str.ofString "x", Str.ofString "picture", Str.ofString "Picture", Str.ofString "#", Str.ofString "1000000000", Str.ofString "9999"]
    let A4 : List Str := [Txt.mul (Str.ofString "1") 60, Str.ofString "1 1", Str.ofString "0 0"]
    let A5 : List Str := (List.replicate 3 [Str.ofString "00", Str.ofString "01", Str.ofString "007", Str.ofString "00"]).flatten
    have m60 : dSMul (.str (Str.ofString "1")) (.int 60) = .ok (.str (Txt.mul (Str.ofString "1") 60)) := dSMul_of (by decide +kernel)
    have rep3 : dRep (.lst [.str (Str.ofString "00"), .str (Str.ofString "01"), .str (Str.ofString "007"), .str (Str.ofString "00")]) (.int 3) = .ok (.lst (A5.map D.str)) := rfl
    refine W.step (ρ' := [tS l, .int c, .lst ((wd l).map tS), .int (a : Nat), .lst (A1.map D.str), .non, .non, .non, .non]) rfl ?_
    refine W.step (ρ' := [tS l, .int c, .lst ((wd l).map tS), .int (a : Nat), .lst ((A1 ++ A2).map D.str), .non, .non, .non, .non]) (set_of ((g2L (y := .lst (A2.map D.str)) rfl rfl).trans (add_ss (by decide)))) ?_
    refine W.step (ρ' := [tS l, .int c, .lst ((wd l).map tS), .int (a : Nat), .lst ((A1 ++ A2 ++ A3).map D.str), .non, .non, .non, .non]) (set_of ((g2L (y := .lst (A3.map D.str)) rfl rfl).trans (add_ss (by decide)))) ?_
    refine W.step (ρ' := [tS l, .int c, .lst ((wd l).map tS), .int (a : Nat), .lst ((A1 ++ A2 ++ A3 ++ A4 ++ A5).map D.str), .non, .non, .non, .non]) (set_of ((g2L ((g2L (y := .lst (A4.map D.str)) rfl ((gAll3 ((g2L rfl rfl).trans m60) rfl rfl).trans (dLst_3 _ _ _))).trans (add_ss (by decide))) ((g2L (x := .lst [.str (Str.ofString "00"), .str (Str.ofString "01"), .str (Str.ofString "007"), .str (Str.ofString "00")]) rfl rfl).trans rep3)).trans (add_ss (by decide)))) ?_
    rw [show A1 ++ A2 ++ A3 ++ A4 ++ A5 = odd08 from rfl]
    have lenS : dLen [.lst (odd08.map D.str)] = .ok (.int 47) := by rw [dLen_l, List.length_map, odd08_len]; rfl
    have x2 := mixed_eq c 2 47 (by omega) (by omega) (by omega)
    have b2 := mixI_lt c 2 47 (by omega)
    obtain ⟨k2, ek2⟩ : ∃ a : Nat, mixI c 2 47 = a := ⟨(mixI c 2 47).toNat, by omega⟩
    rw [ek2] at x2 b2
    obtain ⟨w0, ew0⟩ : ∃ s, odd08[k2]? = some s := ⟨_, List.getElem?_eq_getElem (by rw [odd08_len]; omega)⟩
    obtain ⟨w0l, w0n⟩ := odd08_ok w0 (List.mem_of_getElem? ew0)
    have ixw : dIx (.lst (odd08.map D.str)) (.int (k2 : Nat)) = .ok (.str w0) := ixL_get (by rw [List.getElem?_map, ew0]; rfl)
    obtain ⟨SL, eSL⟩ : ∃ SL, SL = D.lst (odd08.map D.str) := ⟨_, rfl⟩
    rw [← eSL] at lenS ixw ⊢
    rw [tOf] at ixw
    refine W.step (ρ' := [tS l, .int c, .lst ((wd l).map tS), .int (a : Nat), SL, tS w0.cps.toList, .non, .non, .non]) (set_of ((g2L rfl ((gAll3 rfl rfl (gAll1T rfl lenS)).trans x2)).trans ixw)) ?_
    generalize w0.cps.toList = w0 at *
    have x3 := mixed_eq c 3 9 (by omega) (by omega) (by omega)
    have b3 := mixI_lt c 3 9 (by omega)
    generalize mixI c 3 9 = y at *
    refine W.step (ρ' := [tS l, .int c, .lst ((wd l).map tS), .int (a : Nat), SL, tS w0, .int y, .non, .non]) (set_of ((gAll3 rfl rfl rfl).trans x3)) ?_
    refine W.bind (Q := fun ρ => ∃ (a : Nat) (w : List Nat) (y : Int), low w ∧ w.length ≤ 60 ∧ ρ = [tS l, .int c, .lst ((wd l).map tS), .int (a : Nat), SL, tS w, .int y, .non, .non]) ?_ ?_
    · obtain ⟨q1, eq1⟩ := dEq_any (x := .lst (((wd l).take 1).map tS)) (y := .lst [.str (Str.ofString "picture")]) (.lst (OkDs.of fun d hd => by
        obtain ⟨v, hv, rfl⟩ := List.mem_map.mp hd
        exact .str (low_str (lw v (List.mem_of_mem_take hv))))) (.lst (OkDs.of fun d hd => by
        rw [List.mem_singleton.mp hd]
        exact .str (by decide +kernel)))
      obtain ⟨q2, eq2⟩ : ∃ b, dIn (.int y) (.lst [.int 1, .int 2, .int 3, .int 4]) = .ok (.bl b) := ⟨_, rfl⟩
      have s1 : dSl false (.lst ((wd l).map tS)) none (some 1) = .ok (.lst (((wd l).take 1).map tS)) := by
        rw [dSl_l, cutD_map, cutD_to _ (by omega)]
        rfl
      have c1 : gSl false (gv 2) goN (goS (gc (.int 1))) [tS l, .int c, .lst ((wd l).map tS), .int (a : Nat), SL, tS w0, .int y, .non, .non] = .ok (.lst (((wd l).take 1).map tS)) := s1
      have c2 : gAll dLen (gsC (gv 2) gsN) [tS l, .int c, .lst ((wd l).map tS), .int (a : Nat), SL, tS w0, .int y, .non, .non] = .ok (.int ((wd l).length : Nat)) := gAll1T rfl lenW
      have cond := gAnd_any (gB_bl ((g2L (f := dEq) c1 (b := gAll dLst (gsC (gc (.str (Str.ofString "picture"))) gsN)) rfl).trans eq1)) (gAnd_any (gB_bl ((g2L (f := dIn) (ρ := [tS l, .int c, .lst ((wd l).map tS), .int (a : Nat), SL, tS w0, .int y, .non, .non]) (a := gv 6) (b := gAll dLst (gsC (gc (.int 1)) (gsC (gc (.int 2)) (gsC (gc (.int 3)) (gsC (gc (.int 4)) gsN))))) rfl rfl).trans eq2)) (gB_bl ((g2L (f := dEq) (b := gc (.int 5)) c2 rfl).trans (dEq_i _ _))))
      unfold Stp gIte
      rw [cond]
      generalize (q1 && (q2 && decide (((wd l).length : Int) = 5))) = bb
      cases bb with
      | false => exact ⟨_, rfl, a, w0, y, w0l, w0n, rfl⟩
      | true =>
        have x4 := mixed_eq c 4 4 (by omega) (by omega) (by omega)
        have b4 := mixI_lt c 4 4 (by omega)
        have x5 := mixed_eq c 5 3 (by omega) (by omega) (by omega)
        have b5 := mixI_lt c 5 3 (by omega)
        generalize mixI c 5 3 = k5 at *
        obtain ⟨k4, ek4⟩ : ∃ a : Nat, mixI c 4 4 = a := ⟨(mixI c 4 4).toNat, by omega⟩
        rw [ek4] at x4 b4
        obtain ⟨L1, _, s, p1, p2, p3, p4⟩ := pick12 (i := (k4 : Nat)) (j := k5) ⟨by omega, by omega⟩ b5
        rw [tOf] at p2
        refine ⟨[tS l, .int c, .lst ((wd l).map tS), .int ((1 + k4 : Nat) : Int), SL, tS s.cps.toList, .int 3, .non, .non], ?_, 1 + k4, s.cps.toList, 3, p3, p4, rfl⟩
        show gSeq (gSet 6 (gc (.int 3))) (gSeq (gSet 3 _) (gSet 5 _)) _ = _
        refine (gSeq_nx (ρ' := [tS l, .int c, .lst ((wd l).map tS), .int (a : Nat), SL, tS w0, .int 3, .non, .non]) rfl).trans ?_
        refine (gSeq_nx (ρ' := [tS l, .int c, .lst ((wd l).map tS), .int ((1 + k4 : Nat) : Int), SL, tS w0, .int 3, .non, .non]) (set_of ((g2L (x := .int 1) rfl ((gAll3 rfl rfl rfl).trans x4)).trans ((dAdd_i _ _).trans (by rw [Int.natCast_add]; rfl))))).trans ?_
        exact set_of ((g2L ((g2L rfl ((g2L rfl rfl).trans ((dSub_i _ _).trans (by rw [show (((1 + k4 : Nat) : Int) - 1) = (k4 : Nat) by omega])))).trans p1) ((gAll3 rfl rfl rfl).trans x5)).trans p2)
    clear w0n w0l ixw b3 x3
    rintro ρ ⟨a, w, y, wl, wn, rfl⟩
    have sA : ∀ (lo hi : Option Int) (ys : List (List Nat)), cutD (wd l) lo hi = ys → dSl false (.lst ((wd l).map tS)) lo hi = .ok (.lst (ys.map tS)) := fun lo hi ys e => by rw [dSl_l, cutD_map, e]
    have s1 := sA none (some (a : Nat)) _ ((cutD_to _ (by omega)).trans (by rw [Int.toNat_natCast]))
    have s2 := sA (some ((a : Nat) : Int)) none _ ((cutD_from _ (by omega)).trans (by rw [Int.toNat_natCast]))
    have s3 := sA (some (((a : Nat) : Int) + 1)) none ((wd l).drop (a + 1)) ((cutD_from _ (by omega)).trans (by rw [show (((a : Nat) : Int) + 1).toNat = a + 1 by omega]))
    have wA : wt ((wd l).take a) + wt ((wd l).drop a) = wt (wd l) := by rw [← wt_app, List.take_append_drop]
    have wB : wt ((wd l).drop (a + 1)) ≤ wt ((wd l).drop a) := by
      cases e : (wd l).drop a with
      | nil =>
        have : (wd l).drop (a + 1) = [] := by rw [← List.drop_drop, e]; rfl
        rw [this]
        exact Nat.le_refl _
      | cons x r =>
        have : (wd l).drop (a + 1) = r := by rw [← List.drop_drop, e]; rfl
        rw [this]
        show wt r ≤ x.length + 1 + wt r
        omega
    have lA : ∀ v ∈ (wd l).take a, low v := fun v hv => lw v (List.mem_of_mem_take hv)
    have lB : ∀ v ∈ (wd l).drop a, low v := fun v hv => lw v (List.mem_of_mem_drop hv)
    have lB1 : ∀ v ∈ (wd l).drop (a + 1), low v := fun v hv => lw v (List.mem_of_mem_drop hv)
    have nA := (len_wt ((wd l).take a)).1
    have nB := (len_wt ((wd l).drop a)).1
    have nB1 := (len_wt ((wd l).drop (a + 1))).1
    generalize (wd l).take a = A at *
    generalize (wd l).drop a = B at *
    generalize (wd l).drop (a + 1) = B1 at *
    have app : ∀ {p q : List (List Nat)}, (∀ v ∈ p, low v) → (∀ v ∈ q, low v) → ∀ v ∈ p ++ q, low v := fun hp hq v hv => (List.mem_append.mp hv).elim (hp v) (hq v)
    have l1 : ∀ v ∈ [w], low v := fun v hv => by rw [List.mem_singleton.mp hv]; exact wl
    have w1 : wt [w] = w.length + 1 := rfl
    generalize D.lst ((wd l).map tS) = WL at *
    refine W.iteS (p := y < 2) (gB_bl ((g2L rfl rfl).trans (dLt_i _ _))) (fun _ => ?_) (fun _ => W.nxS ?_)
    · have wt1 : wt (A ++ B1) ≤ l.length + 1 := by rw [wt_app]; omega
      obtain ⟨j1, j2, j3⟩ := joinW (app lA lB1) (by omega)
      exact W.rtS ((gJn_of ((g2L s1 s3).trans (add_ts (by omega)))).trans j1) ⟨_, rfl, j2, by omega⟩
    refine W.iteS (p := y = 2) (gB_bl ((g2L rfl rfl).trans (dEq_i _ _))) (fun _ => ?_) (fun _ => W.nxS ?_)
    · have wt1 : wt (A ++ [w] ++ B) ≤ l.length + 62 := by rw [wt_app, wt_app, w1]; omega
      obtain ⟨j1, j2, j3⟩ := joinW (app (app lA l1) lB) (by omega)
      exact W.rtS ((gJn_of ((g2L ((g2L s1 (y := .lst ([w].map tS)) rfl).trans (add_ts (by show _ + 1 ≤ _; omega))) s2).trans (add_ts (by rw [List.length_append]; show _ + 1 + _ ≤ _; omega)))).trans j1) ⟨_, rfl, j2, by omega⟩
    refine W.iteS (p := y < 6) (gB_bl ((g2L rfl rfl).trans (dLt_i _ _))) (fun _ => ?_) (fun _ => W.nxS ?_)
    · have wt1 : wt (A ++ [w] ++ B1) ≤ l.length + 62 := by rw [wt_app, wt_app, w1]; omega
      obtain ⟨j1, j2, j3⟩ := joinW (app (app lA l1) lB1) (by omega)
      exact W.rtS ((gJn_of ((g2L ((g2L s1 (y := .lst ([w].map tS)) rfl).trans (add_ts (by show _ + 1 ≤ _; omega))) s3).trans (add_ts (by rw [List.length_append]; show _ + 1 + _ ≤ _; omega)))).trans j1) ⟨_, rfl, j2, by omega⟩
    refine W.iteS (p := y = 6) (gB_bl ((g2L rfl rfl).trans (dEq_i _ _))) (fun _ => W.assoc ?_) (fun _ => W.nxS ?_)
    · rw [tOf (Str.ofString " !\"#$&'()*+,-./0123456789:;<=>?@ABCDEFGHIJKLMNOPQRSTUVWXYZ[\\]^_`{|}~\n")]
      have lsg : low (Str.ofString " !\"#$&'()*+,-./0123456789:;<=>?@ABCDEFGHIJKLMNOPQRSTUVWXYZ[\\]^_`{|}~\n").cps.toList := fun c hc => of_decide_eq_true (List.all_eq_true.mp sgl.1 c hc)
      have nsg := sgl.2
      generalize (Str.ofString " !\"#$&'()*+,-./0123456789:;<=>?@ABCDEFGHIJKLMNOPQRSTUVWXYZ[\\]^_`{|}~\n").cps.toList = sg at *
      refine W.step (ρ' := [tS l, .int c, WL, .int (a : Nat), SL, tS w, .int y, tS sg, .non]) rfl (W.assoc ?_)
      have x4 := mixed_eq c 4 ((l.length : Nat) + 1) (by omega) (by omega) (by omega)
      have b4 := mixI_lt c 4 ((l.length : Nat) + 1) (by omega)
      obtain ⟨k4, ek4⟩ : ∃ a : Nat, mixI c 4 ((l.length : Nat) + 1) = a := ⟨(mixI c 4 ((l.length : Nat) + 1)).toNat, by omega⟩
      rw [ek4] at x4 b4
      refine W.step (ρ' := [tS l, .int c, WL, .int (a : Nat), SL, tS w, .int y, tS sg, .int (k4 : Nat)]) (set_of ((gAll3 rfl rfl ((g2L (gAll1T rfl ln) rfl).trans (dAdd_i _ _))).trans x4)) ?_
      have x5 := mixed_eq c 5 69 (by omega) (by omega) (by omega)
      have b5 := mixI_lt c 5 69 (by omega)
      obtain ⟨k5, ek5⟩ : ∃ a : Nat, mixI c 5 69 = a := ⟨(mixI c 5 69).toNat, by omega⟩
      rw [ek5] at x5 b5
      have lns := tLen (a := sg) (by omega)
      rw [nsg] at lns
      have ixs := tIx (a := sg) (i := k5) (by omega) (by omega)
      have s128 : sg.getD k5 0 < 128 := lsg _ (by rw [List.getD_eq_getElem?_getD, List.getElem?_eq_getElem (by omega)]; exact List.getElem_mem (by omega))
      have m2 : dMod (.int c) (.int 2) = .ok (.int (c % 2)) := dMod_s (by decide)
      have t1 := tSl (a := l) (by omega) false none (some ((k4 : Nat) : Int))
      rw [cutD_to _ (by omega), Int.toNat_natCast] at t1
      have t2 := tSl (a := l) (by omega) false (some (((k4 : Nat) : Int) + c % 2)) none
      rw [cutD_from _ (by omega)] at t2
      have la : (l.take k4).length ≤ l.length := by rw [List.length_take]; omega
      have lb : (l.drop (((k4 : Nat) : Int) + c % 2).toNat).length ≤ l.length := by rw [List.length_drop]; omega
      have lla := low_take k4 h
      have llb := low_drop (((k4 : Nat) : Int) + c % 2).toNat h
      generalize l.take k4 = LA at *
      generalize l.drop (((k4 : Nat) : Int) + c % 2).toNat = LB at *
      have d1 : dAdd (tS LA) (tS [sg.getD k5 0]) = .ok (tS (LA ++ [sg.getD k5 0])) := tAdd (by show _ + 1 ≤ _; omega)
      have d2 : dAdd (tS (LA ++ [sg.getD k5 0])) (tS LB) = .ok (tS (LA ++ [sg.getD k5 0] ++ LB)) := tAdd (by rw [List.length_append]; show _ + 1 + _ ≤ _; omega)
      have one : low [sg.getD k5 0] := fun y hy => by rw [List.mem_singleton.mp hy]; exact s128
      have gt2 : gSl false (gv 0) (goS (g2 dAdd (gv 8) (g2 dMod (gv 1) (gc (.int 2))))) goN [tS l, .int c, WL, .int (a : Nat), SL, tS w, .int y, tS sg, .int (k4 : Nat)] = .ok (tS LB) := by
        have e : g2 dAdd (gv 8) (g2 dMod (gv 1) (gc (.int 2))) [tS l, .int c, WL, .int (a : Nat), SL, tS w, .int y, tS sg, .int (k4 : Nat)] = .ok (.int (((k4 : Nat) : Int) + c % 2)) := (g2L rfl ((g2L rfl rfl).trans m2)).trans (dAdd_i _ _)
        unfold gSl goS
        rw [e]
        exact t2
      exact W.rtS ((g2L ((g2L t1 ((g2L rfl ((gAll3 rfl rfl (gAll1T rfl lns)).trans x5)).trans ixs)).trans d1) gt2).trans d2) ⟨_, rfl, low_app (low_app lla one) llb, by rw [List.length_append, List.length_append]; show _ + 1 + _ ≤ _; omega⟩
    · have x6 := mixed_eq c 6 4 (by omega) (by omega) (by omega)
      have b6 := mixI_lt c 6 4 (by omega)
      generalize mixI c 6 4 = k6 at *
      obtain ⟨u, eu, ul, un⟩ : ∃ u : List Nat, dIx (.lst [tS l, .str (Str.ofString "0"), .str (Str.ofString "picture 1 1 1 1"), .str (Str.ofString "1 1")]) (.int k6) = .ok (tS u) ∧ low u ∧ u.length ≤ l.length + 15 := by
        have r4 : k6 = 0 ∨ k6 = 1 ∨ k6 = 2 ∨ k6 = 3 := by omega
        have st : ∀ s : Str, s.cps.toList.all (· < 128) = true → s.cps.toList.length ≤ 15 → low s.cps.toList ∧ s.cps.toList.length ≤ l.length + 15 := fun s h1 h2 => ⟨fun c hc => of_decide_eq_true (List.all_eq_true.mp h1 c hc), by omega⟩
        rcases r4 with q | q | q | q <;> subst q
        · exact ⟨l, rfl, h, by omega⟩
        · exact ⟨_, (show _ = R.ok (D.str (Str.ofString "0")) from rfl).trans (by rw [tOf]), st _ (by decide +kernel) (by decide +kernel)⟩
        · exact ⟨_, (show _ = R.ok (D.str (Str.ofString "picture 1 1 1 1")) from rfl).trans (by rw [tOf]), st _ (by decide +kernel) (by decide +kernel)⟩
        · exact ⟨_, (show _ = R.ok (D.str (Str.ofString "1 1")) from rfl).trans (by rw [tOf]), st _ (by decide +kernel) (by decide +kernel)⟩
      have d1 : dAdd (tS l) (tS [10]) = .ok (tS (l ++ [10])) := tAdd (by show _ + 1 ≤ _; omega)
      have d2 : dAdd (tS (l ++ [10])) (tS u) = .ok (tS (l ++ [10] ++ u)) := tAdd (by rw [List.length_append]; show _ + 1 + _ ≤ _; omega)
      have one : low [10] := fun y hy => by rw [List.mem_singleton.mp hy]; decide
      exact W.rt1 ((g2L ((g2L rfl rfl).trans d1) ((g2L (x := .lst [tS l, .str (Str.ofString "0"), .str (Str.ofString "picture 1 1 1 1"), .str (Str.ofString "1 1")]) rfl ((gAll3 rfl rfl rfl).trans x6)).trans eu)).trans d2) ⟨_, rfl, low_app (low_app h one) ul, by rw [List.length_append, List.length_append]; show _ + 1 + _ ≤ _; omega⟩
  obtain ⟨d, e, l', rfl, h1, h2⟩ := key.ex
  exact ⟨l', h1, h2, e⟩
def stp (r : List Nat) : List Nat := (Txt.stripChars (cS r) (cS [32])).cps.toList
def fw (r : List Nat) : List Nat := (sp 32 (stp r)).headD []
theorem strip_stp {r : List Nat} (hl : r.length ≤ 16777216) : dStrip (cS r) (tS [32]) = .ok (tS (stp r)) := by
  show (if (cS r).length ≤ sizeLine then R.ok (D.str (Txt.stripChars (cS r) (cS [32]))) else R.bad) = _
  rw [if_pos (by rw [cS_len, sizeLine_eq]; exact hl), tOf]
  rfl
theorem stp_sub {r : List Nat} : (stp r).length ≤ r.length ∧ ∀ x ∈ stp r, x ∈ r := by
  obtain ⟨i, j, m, e, _, h⟩ := strip_parts2 r
  unfold stp
  rw [h, cS_toList]
  refine ⟨?_, fun x hx => ?_⟩
  · have := congrArg List.length e
    rw [List.length_append, List.length_append] at this
    omega
  · rw [e]
    exact List.mem_append.mpr (.inr (List.mem_append.mpr (.inl hx)))
theorem fw_pic {r : List Nat} {w : List Nat} {ws : List (List Nat)} (h : wd r = w :: ws) : fw r = w := by
  obtain ⟨i, j, m, e, nb, hs⟩ := strip_parts2 r
  have wm := wd_strip e
  rw [h] at wm
  unfold fw stp
  rw [hs, cS_toList]
  rcases sp_cases 32 m with ⟨h1, h2⟩ | ⟨p, q, h1, h2, h3⟩
  · rw [h2]
    by_cases m0 : m = []
    · rw [m0] at wm; cases wm
    · rw [wd_one m0 h1] at wm
      cases wm
      rfl
  · rw [h3]
    show p = w
    cases p with
    | nil => exact absurd rfl (nb 32 q h2)
    | cons x p =>
      rw [h2, wd_sp, wd_one (List.cons_ne_nil _ _) h1] at wm
      cases wm
      rfl
theorem sIx_mem {k : Str} : ∀ {ys : List Str}, (∃ y ∈ ys, (y == k) = true) → ∃ j, sIx k ys = some j ∧ j < ys.length
  | [], ⟨_, h, _⟩ => nomatch h
  | y :: ys, ⟨z, hz, e⟩ => by
    show ∃ j, (if (y == k) = true then some 0 else (sIx k ys).map (· + 1)) = some j ∧ _
    by_cases q : (y == k) = true
    · rw [if_pos q]
      exact ⟨0, rfl, Nat.succ_pos _⟩
    · rw [if_neg q]
      obtain ⟨j, h1, h2⟩ := sIx_mem (ys := ys) ⟨z, (List.mem_cons.mp hz).resolve_left fun w => q (w ▸ e), e⟩
      exact ⟨j + 1, by rw [h1]; rfl, Nat.succ_lt_succ h2⟩
theorem read_exc (cx : Nat → Addr) {t : List Nat} (h : low t) (hl : t.length ≤ 1000000) {n : Nat} (e : readO t = .inl n) : f_read cx [tS t] = .exc ⟨cx 1, [.int (n : Nat)]⟩ := by
  rw [f_read_run]
  exact rp_exc (W.fnX (read_W cx h hl (fun x rows e' _ _ => by rw [e] at e'; cases e') fun n' e' => by rw [e] at e'; cases e'; rfl))
theorem read_val (cx : Nat → Addr) {t : List Nat} (h : low t) (hl : t.length ≤ 1000000) {p : Hd × List (List Nat)} (e : readO t = .inr p) : ∃ d, f_read cx [tS t] = .ok d := by
  rw [f_read_run]
  obtain ⟨d, hd, _⟩ := Ok.ex (P := fun _ => True) (W.fn (read_W cx h hl (k := kO fun _ => True) (fun x rows e' _ _ => trivial) fun n' e' => by rw [e] at e'; cases e'))
  exact ⟨d, hd⟩
theorem faultD_ok (r : Nat ⊕ (Hd × List (List Nat))) : OkD 64 (faultD r) := by
  cases r with
  | inl n => exact .int _
  | inr p => exact .non
theorem lread_eq (cx : Nat → Addr) {t : List Nat} (h : low t) (hl : t.length ≤ 1000000) : f__law_read cx [tS t] = .ok (faultD (readO t)) := by
  rw [f__law_read_run, g__law_read]
  refine run_of ?_
  refine W.step (ρ' := [tS t, .non, .non]) rfl ?_
  have gc0 : gDrop (gCallN (f_read cx) (gsC (gv 0) gsN)) [tS t, .non, .non] = (f_read cx [tS t] >>= fun _ => .ok (.nx [tS t, .non, .non])) := rfl
  cases e : readO t with
  | inr p =>
    obtain ⟨d, ed⟩ := read_val cx h hl e
    refine W.step (ρ' := [tS t, .non, .non]) (by
      unfold gTryKR
      rw [gc0, ed]
      rfl) ?_
    exact W.iteST rfl (W.rtS rfl rfl)
  | inl n =>
    have ed := read_exc cx h hl e
    refine W.step (ρ' := [tS t, .ex (cx 1) [.int (n : Nat)], .non]) (by
      unfold gTryKR
      rw [gc0, ed]
      show (if cx 1 ∈ [cx 1] ∧ [D.int (n : Nat)].length ≤ 1 then R.ok (Fl.nx [tS t, .ex (cx 1) [.int (n : Nat)], .non]) else R.bad) = _
      rw [if_pos ⟨List.mem_singleton.mpr rfl, Nat.le_refl _⟩]) ?_
    have rw1 : dRow [cx 1] (.ex (cx 1) [.int (n : Nat)]) = .ok (.int (n : Nat)) := if_pos (List.mem_singleton.mpr rfl)
    have cl := lclass08 cx (.int (n : Nat))
    have eqf := dNe_self (show OkD 64 (.str (Str.ofString "picture")) from .str (by decide +kernel))
    have wh := whole_eq (n : Nat)
    have isn : dIsN (.ex (cx 1) [.int (n : Nat)]) .non = .ok (.bl false) := rfl
    generalize D.ex (cx 1) [.int (n : Nat)] = EX at *
    refine W.iteSF (gB_bl ((g2L rfl rfl).trans isn)) (W.nxS ?_)
    refine W.iteSF (gOr_F (gB_bl ((g2L (gAll1T rfl cl) rfl).trans eqf)) (gNotT (gB_bl (gAll1T (show g1 (dRow [cx 1]) (gv 1) _ = _ from rw1) wh)))) (W.nxS ?_)
    exact W.rt1 (show g1 (dRow [cx 1]) (gv 1) _ = _ from rw1) rfl
/-- the law's picture, by natural numbers -/
theorem picture_N (ns : List Int) (first : Nat) (hl : ns.length ≤ 63) : ∃ (x : Hd) (pls : List (List (List Nat))), PlOk x pls ∧ f__law_picture [.lst (ns.map .int), .int first] = .ok (pcD x pls) := by
  obtain ⟨w, h, dp, planes, hw, hh, hdp, hnp, hok, e⟩ := picture_eq ns first hl
  refine ⟨⟨w, h, dp, planes.length⟩, planes.map fun pl => pl.map fun r => r.map Int.toNat, ⟨⟨hw, hh, hdp, hnp⟩, List.length_map _, fun pl hp => ?_⟩, ?_⟩
  · obtain ⟨q, hq, rfl⟩ := List.mem_map.mp hp
    obtain ⟨a, b⟩ := hok q hq
    refine ⟨by rw [List.length_map]; exact a, fun r hr => ?_⟩
    obtain ⟨s, hs, rfl⟩ := List.mem_map.mp hr
    obtain ⟨c, d⟩ := b s hs
    refine ⟨by rw [List.length_map]; exact c, fun p hp => ?_⟩
    obtain ⟨z, hz, rfl⟩ := List.mem_map.mp hp
    obtain ⟨z0, z1⟩ := d z hz
    have pw : (2 ^ dp : Int) = ((2 ^ dp : Nat) : Int) := by rw [Int.natCast_pow]; rfl
    show z.toNat ≤ 2 ^ dp - 1
    omega
  · rw [e]
    show R.ok (D.tup [D.int (w : Nat), D.int (h : Nat), D.int (dp : Nat), D.tup (planes.map encP)]) = R.ok (D.tup [D.int (w : Nat), D.int (h : Nat), D.int (dp : Nat), D.tup ((planes.map fun pl => pl.map fun r => r.map Int.toNat).map plnD)])
    rw [List.map_map]
    refine congrArg (fun l => R.ok (D.tup [D.int (w : Nat), D.int (h : Nat), D.int (dp : Nat), D.tup l])) ?_
    refine List.map_congr_left fun pl hp => ?_
    show D.tup (pl.map encR) = D.tup ((pl.map fun r => r.map Int.toNat).map rowD)
    rw [List.map_map]
    congr 1
    refine List.map_congr_left fun r hr => ?_
    show D.tup (r.map D.int) = D.tup ((r.map Int.toNat).map dN)
    rw [List.map_map]
    congr 1
    refine List.map_congr_left fun z hz => ?_
    have := (((hok pl hp).2 r hr).2 z hz).1
    show D.int z = D.int (z.toNat : Nat)
    rw [Int.toNat_of_nonneg this]
theorem pick10 {k : Int} (h0 : 0 ≤ k) (h1 : k < 10) : ∃ n : Nat, n ≤ 2 ∧ dIx (.lst [.int 0, .int 1, .int 1, .int 1, .int 1, .int 1, .int 2, .int 2, .int 1, .int 1]) (.int k) = .ok (.int (n : Nat)) := by
  have : k = 0 ∨ k = 1 ∨ k = 2 ∨ k = 3 ∨ k = 4 ∨ k = 5 ∨ k = 6 ∨ k = 7 ∨ k = 8 ∨ k = 9 := by omega
  rcases this with q | q | q | q | q | q | q | q | q | q <;> subst q
  · exact ⟨0, by decide, rfl⟩
  · exact ⟨1, by decide, rfl⟩
  · exact ⟨1, by decide, rfl⟩
  · exact ⟨1, by decide, rfl⟩
  · exact ⟨1, by decide, rfl⟩
  · exact ⟨1, by decide, rfl⟩
  · exact ⟨2, by decide, rfl⟩
  · exact ⟨2, by decide, rfl⟩
  · exact ⟨1, by decide, rfl⟩
  · exact ⟨1, by decide, rfl⟩
theorem smul10 {m : Nat} (h : m ≤ 2) : dSMul (tS [10]) (.int (m : Nat)) = .ok (tS (List.replicate m 10)) := by
  refine (dSMul_of (a := cS [10]) (n := (m : Nat)) ⟨by omega, by omega, ?_⟩).trans ?_
  · rw [cS_len, Int.toNat_natCast]
    show 1 * m ≤ _
    omega
  have : m = 0 ∨ m = 1 ∨ m = 2 := by omega
  rcases this with e | e | e <;> subst e <;> rfl
theorem f_law_true (cx : Nat → Addr) (ns : List Int) (hl : ns.length ≤ 63) (hz : ∀ z ∈ ns, Builtin.Int.intBits z ≤ 1048576) : f_law cx [.lst (ns.map D.int)] = .ok (.bl true) := by
  have hsz : sizeLine = 16777216 := sizeLine_eq
  obtain ⟨x, pls, h, ep⟩ := picture_N ns 2 hl
  have cell := cell_at_eq ns 0 (by decide)
  have othr := cell_at_eq ns 1 (by decide)
  have li := lines_eq h
  have tw := h.tw
  have n120 := h.len
  have lx : (txW x pls).length ≤ 121 := by
    unfold txW
    rw [List.length_cons, List.length_map]
    omega
  generalize ns.getD (0 : Int).toNat 0 = c at *
  generalize ns.getD (1 : Int).toNat 0 = o at *
  obtain ⟨R0, er, rw0, rok, rl⟩ := loose_lines_eq tw (by omega) c
  have e10 : Str.ofString "\n" = cS [10] := by decide +kernel
  have e32 : Str.ofString " " = cS [32] := by decide +kernel
  -- the head's row
  obtain ⟨r0, hr0, wr0⟩ : ∃ r ∈ R0, wd r = hdW x := by
    have hm : hdW x ∈ (R0.map wd).filter cnt := by rw [rw0]; exact List.mem_cons_self
    obtain ⟨h1, _⟩ := List.mem_filter.mp hm
    obtain ⟨r, h2, h3⟩ := List.mem_map.mp h1
    exact ⟨r, h2, h3⟩
  have fw0 : fw r0 = picW := fw_pic (ws := [nS x.w, nS x.h, nS x.d, nS x.n]) wr0
  obtain ⟨hd, ehd, hdl⟩ := sIx_mem (k := cS picW) (ys := R0.map fun r => cS (fw r)) ⟨cS (fw r0), List.mem_map.mpr ⟨r0, hr0, rfl⟩, by rw [fw0]; exact beq_self_eq_true _⟩
  rw [List.length_map] at hdl
  rw [f_law_run, g_law, e10, e32, picW_eq]
  have ep : f__law_picture [.lst (ns.map D.int), .int 2] = .ok (pcD x pls) := ep
  obtain ⟨S, eS⟩ : ∃ S, S = D.lst (ns.map D.int) := ⟨_, rfl⟩
  rw [← eS] at ep cell othr ⊢
  obtain ⟨PC, ePC⟩ : ∃ PC, PC = pcD x pls := ⟨_, rfl⟩
  rw [← ePC] at ep li
  refine run_of ?_
  refine W.step (ρ' := [S, PC, .non, .non, .non, .non, .non, .non, .non, .non]) (set_of ((gAllB rfl rfl).trans ep)) ?_
  refine W.step (ρ' := [S, PC, .int c, .non, .non, .non, .non, .non, .non, .non]) (set_of ((gAllB rfl rfl).trans cell)) ?_
  refine W.step (ρ' := [S, PC, .int c, .int o, .non, .non, .non, .non, .non, .non]) (set_of ((gAllB rfl rfl).trans othr)) ?_
  refine W.step (ρ' := [S, PC, .int c, .int o, .lst (R0.map tS), .non, .non, .non, .non, .non]) (set_of ((gAllB ((gAll1 rfl).trans li) rfl).trans er)) ?_
  have lcH : gLc (gIter (gv 4)) (gtN 9) gtt (g2 dIx (gT2 dSplit (gT2 dStrip (gv 9) (gc (.str (cS [32])))) (gc (.str (cS [32])))) (gc (.int 0))) [S, PC, .int c, .int o, .lst (R0.map tS), .non, .non, .non, .non, .non] = .ok (.lst (R0.map fun r => tS (fw r))) := by
    refine gLc_map (ed := tS) (xs := R0) (h := fun r => tS (fw r)) rfl fun r hr => ⟨[S, PC, .int c, .int o, .lst (R0.map tS), .non, .non, .non, .non, tS r], rfl, ?_⟩
    obtain ⟨_, _, r600⟩ := rok r hr
    obtain ⟨s1, s2⟩ := stp_sub (r := r)
    have st := strip_stp (r := r) (by omega)
    have sp1 := split_eq (l := stp r) 32 (by decide) (by omega)
    refine (g2L ((gT2_of (l := stp r) (e := tS [32]) ((gT2_of (l := r) (e := tS [32]) rfl rfl).trans st) rfl).trans sp1) rfl).trans ?_
    unfold fw
    have := sp_pos 32 (stp r)
    cases e : sp 32 (stp r) with
    | nil => exact absurd e this
    | cons w ws => exact ixL_get (i := 0) rfl
  have idx : gIdxS (gLc (gIter (gv 4)) (gtN 9) gtt (g2 dIx (gT2 dSplit (gT2 dStrip (gv 9) (gc (.str (cS [32])))) (gc (.str (cS [32])))) (gc (.int 0)))) (gc (.str (cS picW))) [S, PC, .int c, .int o, .lst (R0.map tS), .non, .non, .non, .non, .non] = .ok (.int (hd : Nat)) := by
    unfold gIdxS
    rw [lcH]
    show (match (tsD (R0.map fun r => tS (fw r))).bind (sIx (cS picW)) with
      | some j => R.ok (D.int (j : Nat))
      | none => .bad) = _
    have e : (R0.map fun r => tS (fw r)) = (R0.map fun r => cS (fw r)).map D.str := by rw [List.map_map]; rfl
    rw [e, tsD_map, Option.bind_some, ehd]
  refine W.step (ρ' := [S, PC, .int c, .int o, .lst (R0.map tS), .int (hd : Nat), .non, .non, .non, .non]) (set_of idx) ?_
  have x8 := mixed_eq o 8 10 (by omega) (by omega) (by omega)
  have b8 := mixI_lt o 8 10 (by omega)
  obtain ⟨n, n2, en⟩ := pick10 b8.1 b8.2
  have rg : dRng1 [.int (n : Nat)] = .ok (DL.intsFrom 0 1 n) := rng1N (by omega)
  refine W.forR (lo := 0) (cc := 1) (n := n) (fun k ρ => ∃ R : List (List Nat), ((∀ r ∈ R, low r ∧ r.length ≤ 700 * 2 ^ k - 100) ∧ R.length = R0.length) ∧ ∃ (j6 : D) (j8 : D), ρ = [S, PC, .int c, .int o, .lst (R.map tS), .int (hd : Nat), j6, .non, j8, .non]) (by
    show (gsC (g2 dIx _ _) gsN _ >>= dRng1) = _
    have e1 : ∀ (g : List D → R D) (ρ : List D) (d : D), g ρ = .ok d → gsC g gsN ρ = .ok [d] := fun g ρ d e => by
      show (g ρ >>= fun d => gsN ρ >>= fun ds => R.ok (d :: ds)) = _
      rw [e]
      rfl
    rw [e1 _ _ _ ((g2L (x := .lst [.int 0, .int 1, .int 1, .int 1, .int 1, .int 1, .int 2, .int 2, .int 1, .int 1]) rfl ((gAll3 rfl rfl rfl).trans x8)).trans en)]
    exact rg) ⟨R0, ⟨fun r hr => ⟨(rok r hr).1, (rok r hr).2.2⟩, rfl⟩, _, _, rfl⟩ ?_ ?_
  · rintro k hk ρ ⟨R, ⟨rR, lR⟩, j6, j8, rfl⟩
    rw [show (0 + (k : Int) * 1) = ((k : Nat) : Int) by omega]
    refine ⟨[S, PC, .int c, .int o, .lst (R.map tS), .int (hd : Nat), .int (k : Nat), .non, j8, .non], rfl, ?_⟩
    have lenR : dLen [.lst (R.map tS)] = .ok (.int (R.length : Nat)) := by rw [dLen_l, List.length_map]
    have x9 := mixed_eq (o + (k : Nat)) 9 (R.length : Nat) (by omega) (by omega) (by omega)
    have b9 := mixI_lt (o + (k : Nat)) 9 (R.length : Nat) (by omega)
    obtain ⟨a0, ea0⟩ : ∃ a : Nat, mixI (o + (k : Nat)) 9 (R.length : Nat) = a := ⟨(mixI (o + (k : Nat)) 9 (R.length : Nat)).toNat, by omega⟩
    rw [ea0] at x9 b9
    refine W.step (ρ' := [S, PC, .int c, .int o, .lst (R.map tS), .int (hd : Nat), .int (k : Nat), .non, .int (a0 : Nat), .non]) (set_of ((gAll3 ((g2L rfl rfl).trans (dAdd_i _ _)) rfl ((gAll1 rfl).trans lenR)).trans x9)) ?_
    have x6 := mixed_eq (o + (k : Nat)) 6 3 (by omega) (by omega) (by omega)
    refine W.bind (Q := fun ρ => ∃ a : Nat, a < R.length ∧ ρ = [S, PC, .int c, .int o, .lst (R.map tS), .int (hd : Nat), .int (k : Nat), .non, .int (a : Nat), .non]) ?_ ?_
    · have cond : gB (g2 dEq (gAll f__law_mixed (gsC (g2 dAdd (gv 3) (gv 6)) (gsC (gc (.int 6)) (gsC (gc (.int 3)) gsN)))) (gc (.int 1))) [S, PC, .int c, .int o, .lst (R.map tS), .int (hd : Nat), .int (k : Nat), .non, .int (a0 : Nat), .non] = .ok (decide (mixI (o + (k : Nat)) 6 3 = 1)) := gB_bl ((g2L ((gAll3 ((g2L rfl rfl).trans (dAdd_i _ _)) rfl rfl).trans x6) rfl).trans (dEq_i _ _))
      unfold Stp gIte
      rw [cond]
      by_cases q : mixI (o + (k : Nat)) 6 3 = 1
      · rw [decide_eq_true q]
        exact ⟨_, rfl, hd, by omega, rfl⟩
      · rw [decide_eq_false q]
        exact ⟨_, rfl, a0, by omega, rfl⟩
    rintro ρ ⟨a, al, rfl⟩
    obtain ⟨l, el⟩ : ∃ l, R[a]? = some l := ⟨_, List.getElem?_eq_getElem al⟩
    obtain ⟨lo, ll⟩ := rR l (List.mem_of_getElem? el)
    have ixa : dIx (.lst (R.map tS)) (.int (a : Nat)) = .ok (tS l) := ixL_get (by rw [List.getElem?_map, el]; rfl)
    have k2 : k = 0 ∨ k = 1 := by omega
    have bk : 700 * 2 ^ k - 100 ≤ 1300 ∧ 2 * (700 * 2 ^ k - 100) + 100 ≤ 700 * 2 ^ (k + 1) - 100 := by rcases k2 with q | q <;> subst q <;> decide
    have d3 : dDiv (.int o) (.int 3) = .ok (.int (o / 3)) := dDiv_s (by decide) (by decide)
    have m7 : dMul (.int 7) (.int (k : Nat)) = .ok (.int (7 * (k : Int))) := dMul_l (by decide) (by decide)
    obtain ⟨l', l1, l2, l3⟩ := changed08 (l := l) (by omega) lo (o / 3 + 7 * (k : Int))
    refine W.nx1 (ρ' := [S, PC, .int c, .int o, .lst ((R.set a l').map tS), .int (hd : Nat), .int (k : Nat), .non, .int (a : Nat), .non]) (Eq.trans (setI_x (d := tS l') (ds := R.map tS) ((gAllB ((g2L rfl rfl).trans ixa) ((g2L ((g2L rfl rfl).trans d3) ((g2L rfl rfl).trans m7)).trans (dAdd_i _ _))).trans l3) rfl rfl (by rw [List.length_map]; exact al)) (by rw [List.map_set]; rfl)) ⟨R.set a l', ⟨fun r hr => ?_, by rw [List.length_set]; exact lR⟩, _, _, rfl⟩
    rcases List.mem_or_eq_of_mem_set hr with q | q
    · obtain ⟨u1, u2⟩ := rR r q
      exact ⟨u1, by omega⟩
    · rw [q]
      exact ⟨l1, by omega⟩
  · rintro ρ ⟨R, ⟨rR, lR⟩, j6, j8, rfl⟩
    have bn : 700 * 2 ^ n - 100 ≤ 2700 := by
      have : n = 0 ∨ n = 1 ∨ n = 2 := by omega
      rcases this with q | q | q <;> subst q <;> decide
    have lenR : dLen [.lst (R.map tS)] = .ok (.int (R.length : Nat)) := by rw [dLen_l, List.length_map]
    have xa := mixed_eq o 10 6 (by omega) (by omega) (by omega)
    have x7 := mixed_eq o 7 ((R.length : Nat) + 1) (by omega) (by omega) (by omega)
    have b7 := mixI_lt o 7 ((R.length : Nat) + 1) (by omega)
    obtain ⟨m, em⟩ : ∃ a : Nat, mixI o 7 ((R.length : Nat) + 1) = a := ⟨(mixI o 7 ((R.length : Nat) + 1)).toNat, by omega⟩
    rw [em] at x7
    refine W.bind (Q := fun ρ => ∃ R' : List (List Nat), ((∀ r ∈ R', low r ∧ r.length ≤ 2700) ∧ R'.length ≤ 242) ∧ ρ = [S, PC, .int c, .int o, .lst (R'.map tS), .int (hd : Nat), j6, .non, j8, .non]) ?_ ?_
    · have cond : gB (g2 dEq (gAll f__law_mixed (gsC (gv 3) (gsC (gc (.int 10)) (gsC (gc (.int 6)) gsN)))) (gc (.int 1))) [S, PC, .int c, .int o, .lst (R.map tS), .int (hd : Nat), j6, .non, j8, .non] = .ok (decide (mixI o 10 6 = 1)) := gB_bl ((g2L ((gAll3 rfl rfl rfl).trans xa) rfl).trans (dEq_i _ _))
      unfold Stp gIte
      rw [cond]
      by_cases q : mixI o 10 6 = 1
      · rw [decide_eq_true q]
        have sT : dSl true (.lst (R.map tS)) none (some (m : Nat)) = .ok (.lst ((R.take m).map tS)) := by
          show (if true = true → (R.map tS).all nlB = true then (DL.R.ok (D.lst (cutD (R.map tS) none (some (m : Nat)))) : DL.R D) else .bad) = _
          rw [if_pos fun _ => tS_nl R, cutD_map, cutD_to _ (by omega), Int.toNat_natCast]
        have gt1 : gSl true (gv 4) goN (goS (gAll f__law_mixed (gsC (gv 3) (gsC (gc (.int 7)) (gsC (g2 dAdd (gAll dLen (gsC (gv 4) gsN)) (gc (.int 1))) gsN))))) [S, PC, .int c, .int o, .lst (R.map tS), .int (hd : Nat), j6, .non, j8, .non] = .ok (.lst ((R.take m).map tS)) := by
          have e : gAll f__law_mixed (gsC (gv 3) (gsC (gc (.int 7)) (gsC (g2 dAdd (gAll dLen (gsC (gv 4) gsN)) (gc (.int 1))) gsN))) [S, PC, .int c, .int o, .lst (R.map tS), .int (hd : Nat), j6, .non, j8, .non] = .ok (.int (m : Nat)) := (gAll3 rfl rfl ((g2L ((gAll1 rfl).trans lenR) rfl).trans (dAdd_i _ _))).trans x7
          unfold gSl goS
          rw [e]
          exact sT
        exact ⟨_, set_of gt1, R.take m, ⟨fun r hr => by obtain ⟨u1, u2⟩ := rR r (List.mem_of_mem_take hr); exact ⟨u1, by omega⟩, by rw [List.length_take]; omega⟩, rfl⟩
      · rw [decide_eq_false q]
        exact ⟨_, rfl, R, ⟨fun r hr => by obtain ⟨u1, u2⟩ := rR r hr; exact ⟨u1, by omega⟩, by omega⟩, rfl⟩
    rintro ρ ⟨R', ⟨rR', lR'⟩, rfl⟩
    have md : dMod (.int c) (.int 3) = .ok (.int (c % 3)) := dMod_s (by decide)
    obtain ⟨q, eq⟩ : ∃ q : Nat, c % 3 = q := ⟨(c % 3).toNat, by omega⟩
    rw [eq] at md
    have q2 : q ≤ 2 := by omega
    have jn : dJoin (tS [10]) (.lst (R'.map tS)) = .ok (tS (TL.joinL [10] R')) := tJoin (k := 2700) (n := 242) (fun w hw => (rR' w hw).2) lR' (by decide)
    have jl := joinL_len [10] (k := 2700) fun w hw => (rR' w hw).2
    have jl2 : (TL.joinL [10] R').length ≤ 242 * 2701 := Nat.le_trans jl (Nat.mul_le_mul_right _ lR')
    have jlow : low (TL.joinL [10] R') := fun c hc => by
      rcases joinL_mem [10] hc with q | ⟨w, hw, q⟩
      · rw [List.mem_singleton.mp q]; decide
      · exact (rR' w hw).1 c q
    have rlow : low (List.replicate q 10) := fun c hc => by rw [List.eq_of_mem_replicate hc]; decide
    have ad : dAdd (tS (TL.joinL [10] R')) (tS (List.replicate q 10)) = .ok (tS (TL.joinL [10] R' ++ List.replicate q 10)) := tAdd (by rw [List.length_replicate]; omega)
    have tl : (TL.joinL [10] R' ++ List.replicate q 10).length ≤ 1000000 := by rw [List.length_append, List.length_replicate]; omega
    have tlow := low_app jlow rlow
    refine W.step (ρ' := [S, PC, .int c, .int o, .lst (R'.map tS), .int (hd : Nat), j6, tS (TL.joinL [10] R' ++ List.replicate q 10), j8, .non]) (set_of ((g2L ((gJn_of rfl).trans jn) ((g2L (x := tS [10]) rfl ((g2L rfl rfl).trans md)).trans (smul10 q2))).trans ad)) ?_
    generalize TL.joinL [10] R' ++ List.replicate q 10 = t at *
    have lr := lread_eq cx tlow tl
    have lf := fault_eq tlow tl
    exact W.rt1 ((g2L ((gAll1 rfl).trans lr) ((gAll1 rfl).trans lf)).trans (dEq_self (faultD_ok _))) rfl
end LW
namespace DL
open PySem PySem.Spec PyProof.Rows L2 LamX
end DL
namespace DL
open PySem L2 PySem.Spec PyProof.Rows LamX
end DL
namespace DL
open PySem L2 PySem.Spec PyProof.Rows LamX
/-- walk_lawT, the written part of the heap known only to be there -/
theorem walk_lawTE {l : PySem.W.OpenLaw} {k : Nat} {q : Program} {loose : List Str} {XP : (Str → Option Value) → Heap → Prop} {YP : World → Heap → Prop} {d : DefRec} {x : Str}
    (hn : l.most = some 63) (hdf : d.params.defaults = []) (hr : Room k callerA)
    (F : ∀ (w : World) (mg : Str → Option Value) (fa : Addr) (h : Heap), YP w h → h.Ns mainGlobals mg → mg d.name = some (.ref fa) → ∃ K : Frag, K.In h ∧
      ∃ (fd : FuncData) (T : List (Addr × Str)) (cs : List (Addr × Addr)), (∀ p ∈ T, ∃ c, (c, p.1) ∈ cs) ∧ (∀ p ∈ cs, h.get? p.2 = some { cls := .none, data := .fields #[] }) ∧ (∀ p ∈ cs, K.lookup p.2 = none) ∧ (∀ p ∈ cs, PySem.W.CodeHd h p.1 p.2) ∧
        (∀ (s : Shared) (u : Value), BindsTo s fd ⟨[u], []⟩ [(x, u)]) ∧
        ∀ base : Heap, K.In base → base.Ns mainGlobals mg → (∀ p ∈ cs, TabB base mg p.1 p.2) → FnOk l.prog w K mg base (L2.CX l.prog w) k fa fd [x] (@spT (tbsOf T) K)) :
    PySem.W.WalkO q loose XP YP l.row.toRowW d [] (fun f vs => PySem.call f vs) :=
  walk_ofTsE (n := 63) (k := k) (x := x) (CX := fun w => L2.CX l.prog w) hn (by decide) hdf hr
    (fun w mg fa h Y G hm => by
      obtain ⟨K, KX, fd, T, cs, hT, h1, h2, h3, h4, h5⟩ := F w mg fa h Y G hm
      exact ⟨K, KX, fd, cs, @spT (tbsOf T) K, h1, h2, h3, h4, fun H a ns hl hb ht hS => ⟨a, ns, rfl, hS, hl, hb, tbs_start ht hT, fun _ => rfl⟩, h5⟩)
    fun w H s e s' h => by
        obtain ⟨_, _, _, _, _, _, _, _, _, _, _, _, z⟩ := h
        exact z
/-- the same without repr and without tables -/
theorem walk_lawFE {l : PySem.W.OpenLaw} {k : Nat} {q : Program} {loose : List Str} {XP : (Str → Option Value) → Heap → Prop} {YP : World → Heap → Prop} {d : DefRec} {x : Str}
    (hn : l.most = some 63) (hdf : d.params.defaults = []) (hr : Room k callerA)
    (F : ∀ (w : World) (mg : Str → Option Value) (fa : Addr) (h : Heap), YP w h → h.Ns mainGlobals mg → mg d.name = some (.ref fa) → ∃ K : Frag, K.In h ∧
      ∃ fd : FuncData, (∀ (s : Shared) (u : Value), BindsTo s fd ⟨[u], []⟩ [(x, u)]) ∧ ∀ base : Heap, K.In base → base.Ns mainGlobals mg → FnOk l.prog w K mg base (L2.CX l.prog w) k fa fd [x] (@spT noTbs K)) :
    PySem.W.WalkO q loose XP YP l.row.toRowW d [] (fun f vs => PySem.call f vs) :=
  walk_lawTE hn hdf hr fun w mg fa h Y G hm => by
    obtain ⟨K, KX, fd, hb, h5⟩ := F w mg fa h Y G hm
    exact ⟨K, KX, fd, [], [], (fun _ h => nomatch h), (fun _ h => nomatch h), (fun _ h => nomatch h), (fun _ h => nomatch h), hb, fun base a b _ => h5 base a b⟩
end DL
namespace LW
open PySem L2 DL
theorem all_mk {l : PySem.W.OpenLaw} {w : World} {K : Frag} {h : Heap} {mg : Str → Option Value} {fa : Addr} (X : K.In h) (G : h.Ns mainGlobals mg) (hfa : mg "law" = some (.ref fa))
    {od0 an0 : Option Addr} {sl0 : Array (Option Value)} {oc0 kV0 dc0 pm0 cd0 ct0 : Value} {p0 : Addr}
    {od1 an1 : Option Addr} {sl1 : Array (Option Value)} {oc1 kV1 dc1 pm1 cd1 ct1 : Value} {p1 : Addr}
    {od2 an2 : Option Addr} {sl2 : Array (Option Value)} {oc2 kV2 dc2 pm2 cd2 ct2 : Value} {p2 : Addr}
    {od3 an3 : Option Addr} {sl3 : Array (Option Value)} {oc3 kV3 dc3 pm3 cd3 ct3 : Value} {p3 : Addr}
    {od4 an4 : Option Addr} {sl4 : Array (Option Value)} {oc4 kV4 dc4 pm4 cd4 ct4 : Value} {p4 : Addr}
    {od5 an5 : Option Addr} {sl5 : Array (Option Value)} {oc5 kV5 dc5 pm5 cd5 ct5 : Value} {p5 : Addr}
    {od6 an6 : Option Addr} {sl6 : Array (Option Value)} {oc6 kV6 dc6 pm6 cd6 ct6 : Value} {p6 : Addr}
    {od7 an7 : Option Addr} {sl7 : Array (Option Value)} {oc7 kV7 dc7 pm7 cd7 ct7 : Value} {p7 : Addr}
    {od8 an8 : Option Addr} {sl8 : Array (Option Value)} {oc8 kV8 dc8 pm8 cd8 ct8 : Value} {p8 : Addr}
    {od9 an9 : Option Addr} {sl9 : Array (Option Value)} {oc9 kV9 dc9 pm9 cd9 ct9 : Value} {p9 : Addr}
    {od10 an10 : Option Addr} {sl10 : Array (Option Value)} {oc10 kV10 dc10 pm10 cd10 ct10 : Value} {p10 : Addr}
    {od11 an11 : Option Addr} {sl11 : Array (Option Value)} {oc11 kV11 dc11 pm11 cd11 ct11 : Value} {p11 : Addr}
    {od12 an12 : Option Addr} {sl12 : Array (Option Value)} {oc12 kV12 dc12 pm12 cd12 ct12 : Value} {p12 : Addr}
    {od13 an13 : Option Addr} {sl13 : Array (Option Value)} {oc13 kV13 dc13 pm13 cd13 ct13 : Value} {p13 : Addr}
    {od14 an14 : Option Addr} {sl14 : Array (Option Value)} {oc14 kV14 dc14 pm14 cd14 ct14 : Value} {p14 : Addr}
    {od15 an15 : Option Addr} {sl15 : Array (Option Value)} {oc15 kV15 dc15 pm15 cd15 ct15 : Value} {p15 : Addr}
    {od16 an16 : Option Addr} {sl16 : Array (Option Value)} {oc16 kV16 dc16 pm16 cd16 ct16 : Value} {p16 : Addr}
    {od17 an17 : Option Addr} {sl17 : Array (Option Value)} {oc17 kV17 dc17 pm17 cd17 ct17 : Value} {p17 : Addr}
    {od18 an18 : Option Addr} {sl18 : Array (Option Value)} {oc18 kV18 dc18 pm18 cd18 ct18 : Value} {p18 : Addr}
    {od19 an19 : Option Addr} {sl19 : Array (Option Value)} {oc19 kV19 dc19 pm19 cd19 ct19 : Value} {p19 : Addr}
    {t_MOST_SIDE : Tok}
    {t_MOST_DEPTH : Tok}
    {t_FIGURES : Tok}
    {t_MOST_FIGURES : Tok}
    {ca_NoFile : Addr}
    {ca_NoPicture : Addr}
    {ca_NoPlan : Addr}
    {ca_PressError : Addr}
    {pR_NoPicture : Addr} {odR_NoPicture anR_NoPicture : Option Addr} {slR_NoPicture : Array (Option Value)} {ocR_NoPicture kVR_NoPicture dcR_NoPicture pmR_NoPicture cdR_NoPicture ctR_NoPicture : Value}
    (a0 : nsIn K mainGlobals "number_by" = some (some (.ref p0)))
    (l0 : K.lookup p0 = some ⟨oc0, od0, .func (fnOf "number_by" "number_by" (defArgs s_number_by) (defBody s_number_by) (defScope s_number_by) .none kV0 dc0 pm0 an0 cd0 ct0), sl0⟩)
    (c0 : codeIn K cd0 "number_by" = true) (k0 : keepIn K (.ref p0) = true)
    (a1 : nsIn K mainGlobals "numbers_by" = some (some (.ref p1)))
    (l1 : K.lookup p1 = some ⟨oc1, od1, .func (fnOf "numbers_by" "numbers_by" (defArgs s_numbers_by) (defBody s_numbers_by) (defScope s_numbers_by) .none kV1 dc1 pm1 an1 cd1 ct1), sl1⟩)
    (c1 : codeIn K cd1 "numbers_by" = true) (k1 : keepIn K (.ref p1) = true)
    (a2 : nsIn K mainGlobals "head_by" = some (some (.ref p2)))
    (l2 : K.lookup p2 = some ⟨oc2, od2, .func (fnOf "head_by" "head_by" (defArgs s_head_by) (defBody s_head_by) (defScope s_head_by) .none kV2 dc2 pm2 an2 cd2 ct2), sl2⟩)
    (c2 : codeIn K cd2 "head_by" = true) (k2 : keepIn K (.ref p2) = true)
    (a3 : nsIn K mainGlobals "told_lines" = some (some (.ref p3)))
    (l3 : K.lookup p3 = some ⟨oc3, od3, .func (fnOf "told_lines" "told_lines" (defArgs s_told_lines) (defBody s_told_lines) (defScope s_told_lines) .none kV3 dc3 pm3 an3 cd3 ct3), sl3⟩)
    (c3 : codeIn K cd3 "told_lines" = true) (k3 : keepIn K (.ref p3) = true)
    (a4 : nsIn K mainGlobals "read" = some (some (.ref p4)))
    (l4 : K.lookup p4 = some ⟨oc4, od4, .func (fnOf "read" "read" (defArgs s_read) (defBody s_read) (defScope s_read) .none kV4 dc4 pm4 an4 cd4 ct4), sl4⟩)
    (c4 : codeIn K cd4 "read" = true) (k4 : keepIn K (.ref p4) = true)
    (a5 : nsIn K mainGlobals "_law_cell_at" = some (some (.ref p5)))
    (l5 : K.lookup p5 = some ⟨oc5, od5, .func (fnOf "_law_cell_at" "_law_cell_at" (defArgs s__law_cell_at) (defBody s__law_cell_at) (defScope s__law_cell_at) .none kV5 dc5 pm5 an5 cd5 ct5), sl5⟩)
    (c5 : codeIn K cd5 "_law_cell_at" = true) (k5 : keepIn K (.ref p5) = true)
    (a6 : nsIn K mainGlobals "_law_whole" = some (some (.ref p6)))
    (l6 : K.lookup p6 = some ⟨oc6, od6, .func (fnOf "_law_whole" "_law_whole" (defArgs s__law_whole) (defBody s__law_whole) (defScope s__law_whole) .none kV6 dc6 pm6 an6 cd6 ct6), sl6⟩)
    (c6 : codeIn K cd6 "_law_whole" = true) (k6 : keepIn K (.ref p6) = true)
    (a7 : nsIn K mainGlobals "_law_mixed" = some (some (.ref p7)))
    (l7 : K.lookup p7 = some ⟨oc7, od7, .func (fnOf "_law_mixed" "_law_mixed" (defArgs s__law_mixed) (defBody s__law_mixed) (defScope s__law_mixed) .none kV7 dc7 pm7 an7 cd7 ct7), sl7⟩)
    (c7 : codeIn K cd7 "_law_mixed" = true) (k7 : keepIn K (.ref p7) = true)
    (a8 : nsIn K mainGlobals "_law_power" = some (some (.ref p8)))
    (l8 : K.lookup p8 = some ⟨oc8, od8, .func (fnOf "_law_power" "_law_power" (defArgs s__law_power) (defBody s__law_power) (defScope s__law_power) .none kV8 dc8 pm8 an8 cd8 ct8), sl8⟩)
    (c8 : codeIn K cd8 "_law_power" = true) (k8 : keepIn K (.ref p8) = true)
    (a9 : nsIn K mainGlobals "_law_point" = some (some (.ref p9)))
    (l9 : K.lookup p9 = some ⟨oc9, od9, .func (fnOf "_law_point" "_law_point" (defArgs s__law_point) (defBody s__law_point) (defScope s__law_point) .none kV9 dc9 pm9 an9 cd9 ct9), sl9⟩)
    (c9 : codeIn K cd9 "_law_point" = true) (k9 : keepIn K (.ref p9) = true)
    (a10 : nsIn K mainGlobals "_law_picture" = some (some (.ref p10)))
    (l10 : K.lookup p10 = some ⟨oc10, od10, .func (fnOf "_law_picture" "_law_picture" (defArgs s__law_picture) (defBody s__law_picture) (defScope s__law_picture) .none kV10 dc10 pm10 an10 cd10 ct10), sl10⟩)
    (c10 : codeIn K cd10 "_law_picture" = true) (k10 : keepIn K (.ref p10) = true)
    (a11 : nsIn K mainGlobals "_law_lines" = some (some (.ref p11)))
    (l11 : K.lookup p11 = some ⟨oc11, od11, .func (fnOf "_law_lines" "_law_lines" (defArgs s__law_lines) (defBody s__law_lines) (defScope s__law_lines) .none kV11 dc11 pm11 an11 cd11 ct11), sl11⟩)
    (c11 : codeIn K cd11 "_law_lines" = true) (k11 : keepIn K (.ref p11) = true)
    (a12 : nsIn K mainGlobals "_law_loose" = some (some (.ref p12)))
    (l12 : K.lookup p12 = some ⟨oc12, od12, .func (fnOf "_law_loose" "_law_loose" (defArgs s__law_loose) (defBody s__law_loose) (defScope s__law_loose) .none kV12 dc12 pm12 an12 cd12 ct12), sl12⟩)
    (c12 : codeIn K cd12 "_law_loose" = true) (k12 : keepIn K (.ref p12) = true)
    (a13 : nsIn K mainGlobals "_law_loose_lines" = some (some (.ref p13)))
    (l13 : K.lookup p13 = some ⟨oc13, od13, .func (fnOf "_law_loose_lines" "_law_loose_lines" (defArgs s__law_loose_lines) (defBody s__law_loose_lines) (defScope s__law_loose_lines) .none kV13 dc13 pm13 an13 cd13 ct13), sl13⟩)
    (c13 : codeIn K cd13 "_law_loose_lines" = true) (k13 : keepIn K (.ref p13) = true)
    (a14 : nsIn K mainGlobals "_law_class" = some (some (.ref p14)))
    (l14 : K.lookup p14 = some ⟨oc14, od14, .func (fnOf "_law_class" "_law_class" (defArgs s__law_class) (defBody s__law_class) (defScope s__law_class) .none kV14 dc14 pm14 an14 cd14 ct14), sl14⟩)
    (c14 : codeIn K cd14 "_law_class" = true) (k14 : keepIn K (.ref p14) = true)
    (a15 : nsIn K mainGlobals "_law_number" = some (some (.ref p15)))
    (l15 : K.lookup p15 = some ⟨oc15, od15, .func (fnOf "_law_number" "_law_number" (defArgs s__law_number) (defBody s__law_number) (defScope s__law_number) .none kV15 dc15 pm15 an15 cd15 ct15), sl15⟩)
    (c15 : codeIn K cd15 "_law_number" = true) (k15 : keepIn K (.ref p15) = true)
    (a16 : nsIn K mainGlobals "_law_fault" = some (some (.ref p16)))
    (l16 : K.lookup p16 = some ⟨oc16, od16, .func (fnOf "_law_fault" "_law_fault" (defArgs s__law_fault) (defBody s__law_fault) (defScope s__law_fault) .none kV16 dc16 pm16 an16 cd16 ct16), sl16⟩)
    (c16 : codeIn K cd16 "_law_fault" = true) (k16 : keepIn K (.ref p16) = true)
    (a17 : nsIn K mainGlobals "_law_changed" = some (some (.ref p17)))
    (l17 : K.lookup p17 = some ⟨oc17, od17, .func (fnOf "_law_changed" "_law_changed" (defArgs s__law_changed) (defBody s__law_changed) (defScope s__law_changed) .none kV17 dc17 pm17 an17 cd17 ct17), sl17⟩)
    (c17 : codeIn K cd17 "_law_changed" = true) (k17 : keepIn K (.ref p17) = true)
    (a18 : nsIn K mainGlobals "_law_read" = some (some (.ref p18)))
    (l18 : K.lookup p18 = some ⟨oc18, od18, .func (fnOf "_law_read" "_law_read" (defArgs s__law_read) (defBody s__law_read) (defScope s__law_read) .none kV18 dc18 pm18 an18 cd18 ct18), sl18⟩)
    (c18 : codeIn K cd18 "_law_read" = true) (k18 : keepIn K (.ref p18) = true)
    (a19 : nsIn K mainGlobals "law" = some (some (.ref p19)))
    (l19 : K.lookup p19 = some ⟨oc19, od19, .func (fnOf "law" "law" (defArgs s_law) (defBody s_law) (defScope s_law) .none kV19 dc19 pm19 an19 cd19 ct19), sl19⟩)
    (c19 : codeIn K cd19 "law" = true) (k19 : keepIn K (.ref p19) = true)
    (v_MOST_SIDE : nsIn K mainGlobals "MOST_SIDE" = some (some (.int 40 t_MOST_SIDE)))
    (v_MOST_DEPTH : nsIn K mainGlobals "MOST_DEPTH" = some (some (.int 8 t_MOST_DEPTH)))
    (v_FIGURES : nsIn K mainGlobals "FIGURES" = some (some (.str (Str.ofString "0123456789") t_FIGURES)))
    (v_MOST_FIGURES : nsIn K mainGlobals "MOST_FIGURES" = some (some (.int 9 t_MOST_FIGURES)))
    (nc_NoFile : nsIn K mainGlobals "NoFile" = some (some (.ref ca_NoFile)))
    (nc_NoPicture : nsIn K mainGlobals "NoPicture" = some (some (.ref ca_NoPicture)))
    (nc_NoPlan : nsIn K mainGlobals "NoPlan" = some (some (.ref ca_NoPlan)))
    (nc_PressError : nsIn K mainGlobals "PressError" = some (some (.ref ca_PressError)))
    (rq_NoPicture : PySem.W.excInitIn K ca_NoPicture [.type "ValueError", .type "Exception", .type "BaseException", .type "object"] "ValueError.__new__" = true)
    (rh_NoPicture : hasDictIn K ca_NoPicture = true)
    (rs_NoPicture : findIn K (.ref ca_NoPicture) "__setattr__" = some (some (.builtin "object.__setattr__")))
    (rb_NoPicture : PySem.W.subIn K (.ref ca_NoPicture) (.type "BaseException") = some true)
    (rt_NoPicture : PySem.W.typeIn K (.ref ca_NoPicture) = some (.type "type"))
    (rk_NoPicture : keepIn K (.ref ca_NoPicture) = true)
    (rn_NoPicture : findIn K (.ref ca_NoPicture) "row" = some none)
    (ri_NoPicture : findIn K (.ref ca_NoPicture) "__init__" = some (some (.ref pR_NoPicture)))
    (rf_NoPicture : PySem.W.typeIn K (.ref pR_NoPicture) = some (.type "function"))
    (lR_NoPicture : K.lookup pR_NoPicture = some ⟨ocR_NoPicture, odR_NoPicture, .func (fnOf "__init__" "NoPicture.__init__" (defArgs s_NoPicture_init) (defBody s_NoPicture_init) (defScope s_NoPicture_init) .none kVR_NoPicture dcR_NoPicture pmR_NoPicture anR_NoPicture cdR_NoPicture ctR_NoPicture), slR_NoPicture⟩)
    (cR_NoPicture : codeIn K cdR_NoPicture "NoPicture.__init__" = true)
    (kR_NoPicture : keepIn K (.ref pR_NoPicture) = true)
    (rd_PressError : PySem.W.readsIn K ca_PressError (.type "type") = true)
    (rg_PressError : PySem.W.specialIn K (.ref ca_PressError) "__getattribute__" = some (some (.builtin "type.__getattribute__")))
    (rc_PressError : PySem.W.findCls K (.ref ca_PressError) (.type "type") "__init__" = some (.val (.builtin "ValueError.__init__")))
    (hg_NoPicture : findIn K (.ref ca_NoPicture) "__getattribute__" = some (some (.builtin "BaseException.__getattribute__")))
    (hk_NoPicture : findIn K (.ref ca_NoPicture) "__getattr__" = some none)
    (hs_NoPicture : PySem.W.subIn K (.ref ca_NoPicture) (.type "BaseException") = some true)
    (hd_NoPicture : hasDictIn K ca_NoPicture = true)
    (ha_NoPicture : findIn K (.ref ca_NoPicture) "__class__" = some (some (.builtin "object.__class__")))
    (hm_NoPicture : PySem.W.mroIn K ca_NoPicture (.type "object") = some true)
    (k_NoPicture_NoFile : PySem.W.kitOne K (.ref ca_NoPicture) (.ref ca_NoFile) = some false)
    (k_NoPicture_NoPicture : PySem.W.kitOne K (.ref ca_NoPicture) (.ref ca_NoPicture) = some true)
    (k_NoPicture_NoPlan : PySem.W.kitOne K (.ref ca_NoPicture) (.ref ca_NoPlan) = some false)
    (k_NoPicture_ValueError : PySem.W.kitOne K (.ref ca_NoPicture) (.type "ValueError") = some true)
    (m_NoPicture_PressError : PySem.W.exmOne K (.ref ca_NoPicture) (.ref ca_PressError) = some true)
    (y_ValueError : nsIn K mainGlobals "ValueError" = some none)
    (hn : PySem.W.specialIn K (.builtin "object.__class__") "__get__" = some (some (.builtin "getset_descriptor.__get__")))
    (ht : PySem.W.takesIn K (.builtin "object.__class__") = some true)
    (z_range : nsIn K mainGlobals "range" = some none)
    (z_len : nsIn K mainGlobals "len" = some none)
    (z_list : nsIn K mainGlobals "list" = some none)
    (z_tuple : nsIn K mainGlobals "tuple" = some none)
    (z_isinstance : nsIn K mainGlobals "isinstance" = some none)
    (z_int : nsIn K mainGlobals "int" = some none)
    (z_bool : nsIn K mainGlobals "bool" = some none)
    (z_str : nsIn K mainGlobals "str" = some none)
    (z_max : nsIn K mainGlobals "max" = some none)
    (z_min : nsIn K mainGlobals "min" = some none)
    (z_abs : nsIn K mainGlobals "abs" = some none)
    (z_all : nsIn K mainGlobals "all" = some none)
    (z_any : nsIn K mainGlobals "any" = some none)
    (z_sum : nsIn K mainGlobals "sum" = some none)
    (z_sorted : nsIn K mainGlobals "sorted" = some none)
    (z_divmod : nsIn K mainGlobals "divmod" = some none)
    (z_enumerate : nsIn K mainGlobals "enumerate" = some none)
    (z_zip : nsIn K mainGlobals "zip" = some none)
    (z_reversed : nsIn K mainGlobals "reversed" = some none)
    (z_repr : nsIn K mainGlobals "repr" = some none)
    (z_set : nsIn K mainGlobals "set" = some none) :
    ∃ fd : FuncData, (∀ (s : Shared) (v : Value), BindsTo s fd ⟨[v], []⟩ [("_law_script", v)]) ∧ ∀ base : Heap, K.In base → base.Ns mainGlobals mg → FnOk l.prog w K mg base (L2.CX l.prog w) 6 fa fd ["_law_script"] (@spT noTbs K) := by
  letI : Tbs := noTbs
  have e := hfa.symm.trans (mg_of X G a19)
  cases e
  have B : Bn mg := ⟨mg_none_of X G z_range, mg_none_of X G z_len, mg_none_of X G z_list, mg_none_of X G z_tuple, mg_none_of X G z_isinstance, mg_none_of X G z_int, mg_none_of X G z_bool, mg_none_of X G z_str, mg_none_of X G z_max, mg_none_of X G z_min, mg_none_of X G z_abs, mg_none_of X G z_all, mg_none_of X G z_any, mg_none_of X G z_sum, mg_none_of X G z_sorted, mg_none_of X G z_divmod, mg_none_of X G z_enumerate, mg_none_of X G z_zip, mg_none_of X G z_reversed, mg_none_of X G z_repr, mg_none_of X G z_set⟩
  have h_MOST_SIDE : Cst K mg "MOST_SIDE" (.int 40) (.int 40) := .int (mg_of X G v_MOST_SIDE)
  have h_MOST_DEPTH : Cst K mg "MOST_DEPTH" (.int 8) (.int 8) := .int (mg_of X G v_MOST_DEPTH)
  have h_FIGURES : Cst K mg "FIGURES" (.str (Str.ofString "0123456789")) (.str (Str.ofString "0123456789")) := .str (mg_of X G v_FIGURES)
  have h_MOST_FIGURES : Cst K mg "MOST_FIGURES" (.int 9) (.int 9) := .int (mg_of X G v_MOST_FIGURES)
  have P_NoFile := mg_of X G nc_NoFile
  have P_NoPicture := mg_of X G nc_NoPicture
  have P_NoPlan := mg_of X G nc_NoPlan
  have P_PressError := mg_of X G nc_PressError
  have Q_NoPicture : ExcC K ca_NoPicture := ⟨hg_NoPicture, hk_NoPicture, hs_NoPicture, hd_NoPicture, ha_NoPicture, hn, ht, hm_NoPicture⟩
  have Y_NoPicture : ExcC K ca_NoPicture ∧ findIn K (.ref ca_NoPicture) "row" = some none := ⟨Q_NoPicture, rn_NoPicture⟩
  have z_ValueError := mg_none_of X G y_ValueError
  have F0 := fun_mk (st := s_number_by) l0 c0 k0
  have b0 := F0.binds (ps := ["word"]) fun _ _ _ _ _ _ us hl => match us, hl with | [_], _ => rfl
  have F1 := fun_mk (st := s_numbers_by) l1 c1 k1
  have b1 := F1.binds (ps := ["words", "many", "low", "high"]) fun _ _ _ _ _ _ us hl => match us, hl with | [_, _, _, _], _ => rfl
  have F2 := fun_mk (st := s_head_by) l2 c2 k2
  have b2 := F2.binds (ps := ["words"]) fun _ _ _ _ _ _ us hl => match us, hl with | [_], _ => rfl
  have F3 := fun_mk (st := s_told_lines) l3 c3 k3
  have b3 := F3.binds (ps := ["text"]) fun _ _ _ _ _ _ us hl => match us, hl with | [_], _ => rfl
  have F4 := fun_mk (st := s_read) l4 c4 k4
  have b4 := F4.binds (ps := ["text"]) fun _ _ _ _ _ _ us hl => match us, hl with | [_], _ => rfl
  have F5 := fun_mk (st := s__law_cell_at) l5 c5 k5
  have b5 := F5.binds (ps := ["_law_script", "_law_k"]) fun _ _ _ _ _ _ us hl => match us, hl with | [_, _], _ => rfl
  have F6 := fun_mk (st := s__law_whole) l6 c6 k6
  have b6 := F6.binds (ps := ["_law_found"]) fun _ _ _ _ _ _ us hl => match us, hl with | [_], _ => rfl
  have F7 := fun_mk (st := s__law_mixed) l7 c7 k7
  have b7 := F7.binds (ps := ["_law_cell", "_law_k", "_law_many"]) fun _ _ _ _ _ _ us hl => match us, hl with | [_, _, _], _ => rfl
  have F8 := fun_mk (st := s__law_power) l8 c8 k8
  have b8 := F8.binds (ps := ["_law_many"]) fun _ _ _ _ _ _ us hl => match us, hl with | [_], _ => rfl
  have F9 := fun_mk (st := s__law_point) l9 c9 k9
  have b9 := F9.binds (ps := ["_law_cell", "_law_kind", "_law_row", "_law_column", "_law_most"]) fun _ _ _ _ _ _ us hl => match us, hl with | [_, _, _, _, _], _ => rfl
  have F10 := fun_mk (st := s__law_picture) l10 c10 k10
  have b10 := F10.binds (ps := ["_law_script", "_law_first"]) fun _ _ _ _ _ _ us hl => match us, hl with | [_, _], _ => rfl
  have F11 := fun_mk (st := s__law_lines) l11 c11 k11
  have b11 := F11.binds (ps := ["_law_picture_here"]) fun _ _ _ _ _ _ us hl => match us, hl with | [_], _ => rfl
  have F12 := fun_mk (st := s__law_loose) l12 c12 k12
  have b12 := F12.binds (ps := ["_law_line", "_law_cell"]) fun _ _ _ _ _ _ us hl => match us, hl with | [_, _], _ => rfl
  have F13 := fun_mk (st := s__law_loose_lines) l13 c13 k13
  have b13 := F13.binds (ps := ["_law_textrows", "_law_cell"]) fun _ _ _ _ _ _ us hl => match us, hl with | [_, _], _ => rfl
  have F14 := fun_mk (st := s__law_class) l14 c14 k14
  have b14 := F14.binds (ps := ["_law_e"]) fun _ _ _ _ _ _ us hl => match us, hl with | [_], _ => rfl
  have F15 := fun_mk (st := s__law_number) l15 c15 k15
  have b15 := F15.binds (ps := ["_law_word"]) fun _ _ _ _ _ _ us hl => match us, hl with | [_], _ => rfl
  have F16 := fun_mk (st := s__law_fault) l16 c16 k16
  have b16 := F16.binds (ps := ["_law_text"]) fun _ _ _ _ _ _ us hl => match us, hl with | [_], _ => rfl
  have F17 := fun_mk (st := s__law_changed) l17 c17 k17
  have b17 := F17.binds (ps := ["_law_line", "_law_cell"]) fun _ _ _ _ _ _ us hl => match us, hl with | [_, _], _ => rfl
  have F18 := fun_mk (st := s__law_read) l18 c18 k18
  have b18 := F18.binds (ps := ["_law_text"]) fun _ _ _ _ _ _ us hl => match us, hl with | [_], _ => rfl
  have F19 := fun_mk (st := s_law) l19 c19 k19
  refine ⟨fnOf "law" "law" (defArgs s_law) (defBody s_law) (defScope s_law) .none kV19 dc19 pm19 an19 cd19 ct19, fun s v => .of_eq rfl, fun base _ _ => ?_⟩
  have FR_NoPicture := fun_mk (st := s_NoPicture_init) lR_NoPicture cR_NoPicture kR_NoPicture
  have bR_NoPicture := FR_NoPicture.binds (ps := ["self", "row"]) fun _ _ _ _ _ _ us hl => match us, hl with | [_, _], _ => rfl
  have R_NoPicture : RowX l.prog w K mg base "NoPicture" ca_NoPicture := ⟨oexC_of rq_NoPicture rh_NoPicture rs_NoPicture rb_NoPicture rt_NoPicture rk_NoPicture, rn_NoPicture, mg_of X G nc_NoPicture, _, _, _, ri_NoPicture, rf_NoPicture, D_NoPicture_init FR_NoPicture (mg_of X G nc_PressError) ⟨rd_PressError, rg_PressError⟩ rc_PressError, bR_NoPicture⟩
  have h_number_by : FnD l.prog w K mg base 1 "number_by" [.fr] M.fr f_number_by := ⟨p0, _, _, D_number_by B h_FIGURES h_MOST_FIGURES F0, mg_of X G a0, F0.kp, b0⟩
  have h_numbers_by : FnD l.prog w K mg base 2 "numbers_by" [.fr, .fr, .fr, .fr] M.fr f_numbers_by := ⟨p1, _, _, D_numbers_by B h_number_by F1, mg_of X G a1, F1.kp, b1⟩
  have h_head_by : FnD l.prog w K mg base 3 "head_by" [.fr] M.fr f_head_by := ⟨p2, _, _, D_head_by B h_MOST_DEPTH h_MOST_SIDE h_numbers_by F2, mg_of X G a2, F2.kp, b2⟩
  have h_told_lines : FnD l.prog w K mg base 1 "told_lines" [.fr] M.fr f_told_lines := ⟨p3, _, _, D_told_lines B F3, mg_of X G a3, F3.kp, b3⟩
  have h_read : FnD l.prog w K mg base 4 "read" [.fr] M.fr (f_read (cxOfL [ca_PressError, ca_NoPicture, ca_NoPlan, ca_NoFile])) := ⟨p4, _, _, D_read (cx := (cxOfL [ca_PressError, ca_NoPicture, ca_NoPlan, ca_NoFile])) B R_NoPicture h_numbers_by h_head_by h_told_lines F4, mg_of X G a4, F4.kp, b4⟩
  have h__law_cell_at : FnD l.prog w K mg base 1 "_law_cell_at" [.fr, .fr] M.fr f__law_cell_at := ⟨p5, _, _, D__law_cell_at B F5, mg_of X G a5, F5.kp, b5⟩
  have h__law_whole : FnD l.prog w K mg base 1 "_law_whole" [.fr] M.fr f__law_whole := ⟨p6, _, _, D__law_whole B F6, mg_of X G a6, F6.kp, b6⟩
  have h__law_mixed : FnD l.prog w K mg base 1 "_law_mixed" [.fr, .fr, .fr] M.fr f__law_mixed := ⟨p7, _, _, D__law_mixed B F7, mg_of X G a7, F7.kp, b7⟩
  have h__law_power : FnD l.prog w K mg base 1 "_law_power" [.fr] M.fr f__law_power := ⟨p8, _, _, D__law_power B F8, mg_of X G a8, F8.kp, b8⟩
  have h__law_point : FnD l.prog w K mg base 2 "_law_point" [.fr, .fr, .fr, .fr, .fr] M.fr f__law_point := ⟨p9, _, _, D__law_point B h__law_mixed F9, mg_of X G a9, F9.kp, b9⟩
  have h__law_picture : FnD l.prog w K mg base 3 "_law_picture" [.fr, .fr] M.fr f__law_picture := ⟨p10, _, _, D__law_picture B h__law_cell_at h__law_mixed h__law_power h__law_point F10, mg_of X G a10, F10.kp, b10⟩
  have h__law_lines : FnD l.prog w K mg base 1 "_law_lines" [.fr] M.fr f__law_lines := ⟨p11, _, _, D__law_lines B F11, mg_of X G a11, F11.kp, b11⟩
  have h__law_loose : FnD l.prog w K mg base 2 "_law_loose" [.fr, .fr] M.fr f__law_loose := ⟨p12, _, _, D__law_loose B h__law_mixed F12, mg_of X G a12, F12.kp, b12⟩
  have h__law_loose_lines : FnD l.prog w K mg base 3 "_law_loose_lines" [.fr, .fr] (M.ow M.fr) f__law_loose_lines := ⟨p13, _, _, D__law_loose_lines B h__law_mixed h__law_loose F13, mg_of X G a13, F13.kp, b13⟩
  have h__law_class : FnD l.prog w K mg base 1 "_law_class" [.fr] M.fr (f__law_class (cxOfL [ca_PressError, ca_NoPicture, ca_NoPlan, ca_NoFile])) := ⟨p14, _, _, D__law_class (cx := (cxOfL [ca_PressError, ca_NoPicture, ca_NoPlan, ca_NoFile])) B P_NoFile P_NoPicture P_NoPlan Q_NoPicture k_NoPicture_NoFile k_NoPicture_NoPicture k_NoPicture_NoPlan k_NoPicture_ValueError z_ValueError F14, mg_of X G a14, F14.kp, b14⟩
  have h__law_number : FnD l.prog w K mg base 1 "_law_number" [.fr] M.fr f__law_number := ⟨p15, _, _, D__law_number B F15, mg_of X G a15, F15.kp, b15⟩
  have h__law_fault : FnD l.prog w K mg base 2 "_law_fault" [.fr] M.fr f__law_fault := ⟨p16, _, _, D__law_fault B h__law_power h__law_number F16, mg_of X G a16, F16.kp, b16⟩
  have h__law_changed : FnD l.prog w K mg base 2 "_law_changed" [.fr, .fr] M.fr f__law_changed := ⟨p17, _, _, D__law_changed B h__law_mixed F17, mg_of X G a17, F17.kp, b17⟩
  have h__law_read : FnD l.prog w K mg base 5 "_law_read" [.fr] M.fr (f__law_read (cxOfL [ca_PressError, ca_NoPicture, ca_NoPlan, ca_NoFile])) := ⟨p18, _, _, D__law_read (cx := (cxOfL [ca_PressError, ca_NoPicture, ca_NoPlan, ca_NoFile])) B P_PressError Q_NoPicture R_NoPicture Y_NoPicture m_NoPicture_PressError h_read h__law_whole h__law_class F18, mg_of X G a18, F18.kp, b18⟩
  exact (D_law (cx := (cxOfL [ca_PressError, ca_NoPicture, ca_NoPlan, ca_NoFile])) B h__law_cell_at h__law_mixed h__law_picture h__law_lines h__law_loose_lines h__law_fault h__law_changed h__law_read F19).imp (spT_of (f_law_true (cxOfL [ca_PressError, ca_NoPicture, ca_NoPlan, ca_NoFile])))
theorem all_x {l : PySem.W.OpenLaw} {w : World} {K : Frag} {h : Heap} {mg : Str → Option Value} {fa : Addr} (X : K.In h) (G : h.Ns mainGlobals mg) (hfa : mg "law" = some (.ref fa)) (c : He.SaysX [] LH.fnL [] LH.tfL LH.exL w h K) :
    ∃ fd : FuncData, (∀ (s : Shared) (v : Value), BindsTo s fd ⟨[v], []⟩ [("_law_script", v)]) ∧ ∀ base : Heap, K.In base → base.Ns mainGlobals mg → FnOk l.prog w K mg base (L2.CX l.prog w) 6 fa fd ["_law_script"] (@spT noTbs K) := by
  have c0 : LH.exL K = true := c.more
  unfold LH.exL at c0
  obtain ⟨c0, H2⟩ := Bool.and_eq_true_iff.mp c0
  obtain ⟨c0, H1⟩ := Bool.and_eq_true_iff.mp c0
  obtain ⟨c0, H0⟩ := Bool.and_eq_true_iff.mp c0
  obtain ⟨_, Fq⟩ := c.t.d.def_ 0 (d := LH.dd0) rfl
  obtain ⟨_, _, _, _, _, _, _, cd_0, _, L0, C0, K0⟩ := Hz.def_l Fq
  obtain ⟨_, Fq⟩ := c.t.d.def_ 1 (d := LH.dd1) rfl
  obtain ⟨_, _, _, _, _, _, _, cd_1, _, L1, C1, K1⟩ := Hz.def_l Fq
  obtain ⟨_, Fq⟩ := c.t.d.def_ 2 (d := LH.dd2) rfl
  obtain ⟨_, _, _, _, _, _, _, cd_2, _, L2, C2, K2⟩ := Hz.def_l Fq
  obtain ⟨_, Fq⟩ := c.t.d.def_ 3 (d := LH.dd3) rfl
  obtain ⟨_, _, _, _, _, _, _, cd_3, _, L3, C3, K3⟩ := Hz.def_l Fq
  obtain ⟨_, Fq⟩ := c.t.d.def_ 4 (d := LH.dd4) rfl
  obtain ⟨_, _, _, _, _, _, _, cd_4, _, L4, C4, K4⟩ := Hz.def_l Fq
  obtain ⟨_, Fq⟩ := c.t.d.def_ 5 (d := LH.dd5) rfl
  obtain ⟨_, _, _, _, _, _, _, cd_5, _, L5, C5, K5⟩ := Hz.def_l Fq
  obtain ⟨_, Fq⟩ := c.t.d.def_ 6 (d := LH.dd6) rfl
  obtain ⟨_, _, _, _, _, _, _, cd_6, _, L6, C6, K6⟩ := Hz.def_l Fq
  obtain ⟨_, Fq⟩ := c.t.d.def_ 7 (d := LH.dd7) rfl
  obtain ⟨_, _, _, _, _, _, _, cd_7, _, L7, C7, K7⟩ := Hz.def_l Fq
  obtain ⟨_, Fq⟩ := c.t.d.def_ 8 (d := LH.dd8) rfl
  obtain ⟨_, _, _, _, _, _, _, cd_8, _, L8, C8, K8⟩ := Hz.def_l Fq
  obtain ⟨_, Fq⟩ := c.t.d.def_ 9 (d := LH.dd9) rfl
  obtain ⟨_, _, _, _, _, _, _, cd_9, _, L9, C9, K9⟩ := Hz.def_l Fq
  obtain ⟨_, Fq⟩ := c.t.d.def_ 10 (d := LH.dd10) rfl
  obtain ⟨_, _, _, _, _, _, _, cd_10, _, L10, C10, K10⟩ := Hz.def_l Fq
  obtain ⟨_, Fq⟩ := c.t.d.def_ 11 (d := LH.dd11) rfl
  obtain ⟨_, _, _, _, _, _, _, cd_11, _, L11, C11, K11⟩ := Hz.def_l Fq
  obtain ⟨_, Fq⟩ := c.t.d.def_ 12 (d := LH.dd12) rfl
  obtain ⟨_, _, _, _, _, _, _, cd_12, _, L12, C12, K12⟩ := Hz.def_l Fq
  obtain ⟨_, Fq⟩ := c.t.d.def_ 13 (d := LH.dd13) rfl
  obtain ⟨_, _, _, _, _, _, _, cd_13, _, L13, C13, K13⟩ := Hz.def_l Fq
  obtain ⟨_, Fq⟩ := c.t.d.def_ 14 (d := LH.dd14) rfl
  obtain ⟨_, _, _, _, _, _, _, cd_14, _, L14, C14, K14⟩ := Hz.def_l Fq
  obtain ⟨_, Fq⟩ := c.t.d.def_ 15 (d := LH.dd15) rfl
  obtain ⟨_, _, _, _, _, _, _, cd_15, _, L15, C15, K15⟩ := Hz.def_l Fq
  obtain ⟨_, Fq⟩ := c.t.d.def_ 16 (d := LH.dd16) rfl
  obtain ⟨_, _, _, _, _, _, _, cd_16, _, L16, C16, K16⟩ := Hz.def_l Fq
  obtain ⟨_, Fq⟩ := c.t.d.def_ 17 (d := LH.dd17) rfl
  obtain ⟨_, _, _, _, _, _, _, cd_17, _, L17, C17, K17⟩ := Hz.def_l Fq
  obtain ⟨_, Fq⟩ := c.t.d.def_ 18 (d := LH.dd18) rfl
  obtain ⟨_, _, _, _, _, _, _, cd_18, _, L18, C18, K18⟩ := Hz.def_l Fq
  obtain ⟨_, Fq⟩ := c.t.d.def_ 19 (d := LH.dd19) rfl
  obtain ⟨_, _, _, _, _, _, _, cd_19, _, L19, C19, K19⟩ := Hz.def_l Fq
  obtain ⟨_, Fq⟩ := c.t.d.def_ 20 (d := LH.dd20) rfl
  obtain ⟨_, _, _, _, _, _, _, cd_R_NoPicture, _, LR_NoPicture, CR_NoPicture, KR_NoPicture⟩ := Hz.def_l Fq
  obtain ⟨_, Vv_MOST_SIDE⟩ := Hz.intB_ok ((Hz.at_ H0 20) : Hz.intB K "MOST_SIDE" 40 = true)
  obtain ⟨_, Vv_MOST_DEPTH⟩ := Hz.intB_ok ((Hz.at_ H0 21) : Hz.intB K "MOST_DEPTH" 8 = true)
  obtain ⟨_, Vv_FIGURES⟩ := Hz.strB_ok ((Hz.at_ H0 22) : Hz.strB K "FIGURES" (Str.ofString "0123456789") = true)
  obtain ⟨_, Vv_MOST_FIGURES⟩ := Hz.intB_ok ((Hz.at_ H0 23) : Hz.intB K "MOST_FIGURES" 9 = true)
  exact all_mk X G hfa (p0 := He.ga K "number_by") (p1 := He.ga K "numbers_by") (p2 := He.ga K "head_by") (p3 := He.ga K "told_lines") (p4 := He.ga K "read") (p5 := He.ga K "_law_cell_at") (p6 := He.ga K "_law_whole") (p7 := He.ga K "_law_mixed") (p8 := He.ga K "_law_power") (p9 := He.ga K "_law_point") (p10 := He.ga K "_law_picture") (p11 := He.ga K "_law_lines") (p12 := He.ga K "_law_loose") (p13 := He.ga K "_law_loose_lines") (p14 := He.ga K "_law_class") (p15 := He.ga K "_law_number") (p16 := He.ga K "_law_fault") (p17 := He.ga K "_law_changed") (p18 := He.ga K "_law_read") (p19 := He.ga K "law") (ca_NoFile := He.ga K "NoFile") (ca_NoPicture := He.ga K "NoPicture") (ca_NoPlan := He.ga K "NoPlan") (ca_PressError := He.ga K "PressError") (pR_NoPicture := He.ma K (He.ga K "NoPicture") "__init__") (a0 := (Hz.eq_at (Hz.at_ H0 0))) (l0 := L0) (c0 := C0) (k0 := K0) (a1 := (Hz.eq_at (Hz.at_ H0 1))) (l1 := L1) (c1 := C1) (k1 := K1) (a2 := (Hz.eq_at (Hz.at_ H0 2))) (l2 := L2) (c2 := C2) (k2 := K2) (a3 := (Hz.eq_at (Hz.at_ H0 3))) (l3 := L3) (c3 := C3) (k3 := K3) (a4 := (Hz.eq_at (Hz.at_ H0 4))) (l4 := L4) (c4 := C4) (k4 := K4) (a5 := (Hz.eq_at (Hz.at_ H0 5))) (l5 := L5) (c5 := C5) (k5 := K5) (a6 := (Hz.eq_at (Hz.at_ H0 6))) (l6 := L6) (c6 := C6) (k6 := K6) (a7 := (Hz.eq_at (Hz.at_ H0 7))) (l7 := L7) (c7 := C7) (k7 := K7) (a8 := (Hz.eq_at (Hz.at_ H0 8))) (l8 := L8) (c8 := C8) (k8 := K8) (a9 := (Hz.eq_at (Hz.at_ H0 9))) (l9 := L9) (c9 := C9) (k9 := K9) (a10 := (Hz.eq_at (Hz.at_ H0 10))) (l10 := L10) (c10 := C10) (k10 := K10) (a11 := (Hz.eq_at (Hz.at_ H0 11))) (l11 := L11) (c11 := C11) (k11 := K11) (a12 := (Hz.eq_at (Hz.at_ H0 12))) (l12 := L12) (c12 := C12) (k12 := K12) (a13 := (Hz.eq_at (Hz.at_ H0 13))) (l13 := L13) (c13 := C13) (k13 := K13) (a14 := (Hz.eq_at (Hz.at_ H0 14))) (l14 := L14) (c14 := C14) (k14 := K14) (a15 := (Hz.eq_at (Hz.at_ H0 15))) (l15 := L15) (c15 := C15) (k15 := K15) (a16 := (Hz.eq_at (Hz.at_ H0 16))) (l16 := L16) (c16 := C16) (k16 := K16) (a17 := (Hz.eq_at (Hz.at_ H0 17))) (l17 := L17) (c17 := C17) (k17 := K17) (a18 := (Hz.eq_at (Hz.at_ H0 18))) (l18 := L18) (c18 := C18) (k18 := K18) (a19 := (Hz.eq_at (Hz.at_ H0 19))) (l19 := L19) (c19 := C19) (k19 := K19) (v_MOST_SIDE := Vv_MOST_SIDE) (v_MOST_DEPTH := Vv_MOST_DEPTH) (v_FIGURES := Vv_FIGURES) (v_MOST_FIGURES := Vv_MOST_FIGURES) (nc_NoFile := (Hz.eq_at (Hz.at_ H0 24))) (nc_NoPicture := (Hz.eq_at (Hz.at_ H0 25))) (nc_NoPlan := (Hz.eq_at (Hz.at_ H0 26))) (nc_PressError := (Hz.eq_at (Hz.at_ H0 27))) (rq_NoPicture := (Hz.eq_at (Hz.at_ H0 28))) (rh_NoPicture := (Hz.eq_at (Hz.at_ H0 29))) (rs_NoPicture := (Hz.eq_at (Hz.at_ H0 30))) (rb_NoPicture := (Hz.eq_at (Hz.at_ H0 31))) (rt_NoPicture := (Hz.eq_at (Hz.at_ H1 0))) (rk_NoPicture := (Hz.eq_at (Hz.at_ H1 1))) (rn_NoPicture := (Hz.eq_at (Hz.at_ H1 2))) (ri_NoPicture := (Hz.eq_at (Hz.at_ H1 3))) (rf_NoPicture := (Hz.eq_at (Hz.at_ H1 4))) (lR_NoPicture := LR_NoPicture) (cR_NoPicture := CR_NoPicture) (kR_NoPicture := KR_NoPicture) (rd_PressError := (Hz.eq_at (Hz.at_ H1 5))) (rg_PressError := (Hz.eq_at (Hz.at_ H1 6))) (rc_PressError := (Hz.fclN_ok ((Hz.at_ H1 7) : Hz.fclN K (He.ga K "PressError") "__init__" "ValueError.__init__" = true))) (hg_NoPicture := (Hz.eq_at (Hz.at_ H1 8))) (hk_NoPicture := (Hz.eq_at (Hz.at_ H1 9))) (hs_NoPicture := (Hz.eq_at (Hz.at_ H1 10))) (hd_NoPicture := (Hz.eq_at (Hz.at_ H1 11))) (ha_NoPicture := (Hz.eq_at (Hz.at_ H1 12))) (hm_NoPicture := (Hz.eq_at (Hz.at_ H1 13))) (k_NoPicture_NoFile := (Hz.eq_at (Hz.at_ H1 14))) (k_NoPicture_NoPicture := (Hz.eq_at (Hz.at_ H1 15))) (k_NoPicture_NoPlan := (Hz.eq_at (Hz.at_ H1 16))) (k_NoPicture_ValueError := (Hz.eq_at (Hz.at_ H1 17))) (m_NoPicture_PressError := (Hz.eq_at (Hz.at_ H1 18))) (y_ValueError := (Hz.eq_at (Hz.at_ H1 19))) (hn := (Hz.eq_at (Hz.at_ H1 20))) (ht := (Hz.eq_at (Hz.at_ H1 21))) (z_range := (Hz.eq_at (Hz.at_ H1 22))) (z_len := (Hz.eq_at (Hz.at_ H1 23))) (z_list := (Hz.eq_at (Hz.at_ H1 24))) (z_tuple := (Hz.eq_at (Hz.at_ H1 25))) (z_isinstance := (Hz.eq_at (Hz.at_ H1 26))) (z_int := (Hz.eq_at (Hz.at_ H1 27))) (z_bool := (Hz.eq_at (Hz.at_ H1 28))) (z_str := (Hz.eq_at (Hz.at_ H1 29))) (z_max := (Hz.eq_at (Hz.at_ H1 30))) (z_min := (Hz.eq_at (Hz.at_ H1 31))) (z_abs := (Hz.eq_at (Hz.at_ H2 0))) (z_all := (Hz.eq_at (Hz.at_ H2 1))) (z_any := (Hz.eq_at (Hz.at_ H2 2))) (z_sum := (Hz.eq_at (Hz.at_ H2 3))) (z_sorted := (Hz.eq_at (Hz.at_ H2 4))) (z_divmod := (Hz.eq_at (Hz.at_ H2 5))) (z_enumerate := (Hz.eq_at (Hz.at_ H2 6))) (z_zip := (Hz.eq_at (Hz.at_ H2 7))) (z_reversed := (Hz.eq_at (Hz.at_ H2 8))) (z_repr := (Hz.eq_at (Hz.at_ H2 9))) (z_set := (Hz.eq_at (Hz.at_ H2 10)))
end LW
open PySem PySem.W PySem.Calls PyProof.Rows in
set_option maxRecDepth 100000 in
set_option maxHeartbeats 0 in
theorem PySem.Challenge.cw_pointpress_k08_where_it_fails_holds : PySem.Challenge.rw_pointpress_k08_where_it_fails.Holds := by
  w_on; o_law
  refine HandSHeadRun.head_any (r := LH.R0) (q := view LH.R0.prog [30]) (H := LH.hk) (ob := LH.ob) (M := 20000) (loose := LH.nmL) (d := HandSHeadRun.topDef LH.R0.prog 30) (kwd := []) LH.ob_eq
    (by kernel_rfl) (fun s => by kernel_rfl) LH.run (by kernel_rfl) (by kernel_rfl) (by kernel_rfl) (by rfl) (by first | assumption | decide +kernel) (by decide +kernel) ⟨rfl, rfl, rfl, rfl, rfl, by decide +kernel⟩ ?hw ?hc
  case hw => w_witness2
  case hc =>
    refine DL.walk_lawFE (l := PySem.Challenge.rw_pointpress_k08_where_it_fails) (k := 6) (x := "_law_script") rfl (by kernel_rfl) ⟨rfl, by decide, by decide⟩ ?F
    intro w mg fa h Y G hmg0
    obtain ⟨K, KX, c⟩ := Y
    have hmg : mg ("law" : PySem.Str) = some (.ref fa) := by
      have e : (HandSHeadRun.topDef LH.R0.prog 30).name = ("law" : PySem.Str) := by kernel_rfl
      rw [← e]
      exact hmg0
    exact ⟨K, KX, LW.all_x (l := PySem.Challenge.rw_pointpress_k08_where_it_fails) KX G hmg c⟩
